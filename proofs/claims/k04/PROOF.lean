import PyProof.Rows.All
import Wide.All
import OpenK.AllK
import Wide.FinOn
import HandS.ForMost
import HandS.ForExc
import HandS.Flow
import HandS.IsInst
import HandS.Wide
import HandS.TryMany
import HandS.ExcInit
import HandS.RaiseMore
import HandS.ExcCtx
import HandS.SuiteRaise
import HandS.ExcInitHot
import HandS.Deep
import KE.KExcIs
import HandS.ExcIs
import HandS.Defaults
import HandS.MakeKw
import HandS.MakeKwOnly
import HandS.ExcField
import HandS.Small
import HandS.Style
import HandS.Conv
import HandS.CallLocal
import HandS.WrittenGet
import PyProof.ReprRoads
import HandS.HeadHook3
import PyProof.MaxThree
import HandS.Text
import HandS.StrMore
import HandS.FStr
import PyProof.StrBlock2
import KE.IntTextLaws
import PyProof.CollectIter
import PyProof.Walks
import PySem.Challenge.RW_hintedpoints_k04_numbers_as_texts
set_option Elab.async false
set_option linter.all false
set_option maxRecDepth 100000
set_option maxHeartbeats 4000000
/-! DL: a layer of plain data trees over the hand layer: D (data without addresses), kept parts and cells, readings over D. -/
namespace DL
open PySem PySem.Spec PyProof.Rows L2

/-! ### data -/
inductive Kd where
  | lst | tup | klst
  | dct (ks : List Key)
  | obj (c : Str) (ns : List Str)
  | exc (c : Str) (ns : List Str)
  | cau (c : Str) (a C : Addr) (dd : Option Addr)
  deriving DecidableEq
inductive D where
  | non | bl (b : Bool) | int (i : Int) | str (x : Str) | ty (n : String) | glb (x : Str) | cell (n : Nat)
  | node (k : Kd) (xs : List D)
abbrev D.lst (xs : List D) : D := .node .lst xs
abbrev D.tup (xs : List D) : D := .node .tup xs

inductive Cell where
  | live (k : Kd) (xs : List D)
  | dead
abbrev Kap := Nat → Option Cell
def kset (κ : Kap) (n : Nat) (c : Cell) : Kap := fun m => if m = n then some c else κ m
theorem kset_same {κ : Kap} {n : Nat} {c : Cell} : kset κ n c n = some c := if_pos rfl
theorem kset_ne {κ : Kap} {n m : Nat} {c : Cell} (h : m ≠ n) : kset κ n c m = κ m := if_neg h
theorem kset_kset {κ : Kap} {n : Nat} {c d : Cell} : kset (kset κ n c) n d = kset κ n d := by
  funext m; unfold kset; split <;> rfl
theorem kne {κ : Kap} {n m : Nat} {c : Cell} (h : κ n = some c) (h' : κ m = none) : n ≠ m := by
  intro e; rw [e, h'] at h; cases h

abbrev DEnv := List (Option D)
abbrev DQ := D → Kap → Prop
abbrev DX := DEnv → Str → List D → Kap → Prop
structure DEnds where
  nx : DEnv → Kap → Prop
  rt : DQ
  bk : DEnv → Kap → Prop := fun _ _ => False
  ct : DEnv → Kap → Prop := fun _ _ => False
/-- readings over data: an expression's, a test's, an argument list's, a statement's -/
abbrev DE := DEnv → Kap → DX → DQ → Prop
abbrev DT := DEnv → Kap → DX → (Bool → Kap → Prop) → Prop
abbrev DA := DEnv → Kap → DX → (List D → Kap → Prop) → Prop
abbrev DS := DEnv → Kap → DX → DEnds → Prop
/-- what a def is worth, over data -/
abbrev DSp := List D → Kap → (Str → List D → Kap → Prop) → DQ → Prop

/-! ### how data lies in the abstract heap -/
structure Ctx where
  K : PySem.W.Frag
  mg : Str → Option Value
abbrev Loc0 := Nat → Option Addr

/-- names and values, in turn -/
def xflat : List (Str × V) → List V
  | [] => []
  | p :: r => V.str p.1 :: p.2 :: xflat r
def HoldK (C : Ctx) (F : Hp) (k : Kd) (a : Addr) (vs : List V) : Prop := match k with
  | .lst => F a = some (.lst vs)
  | .klst => SqL C.K F a vs
  | .tup => SqT C.K F a vs
  | .dct ks => ∃ kvs, F a = some (.dK kvs) ∧ kvs.map (·.1) = ks ∧ kvs.map (·.2) = vs
  | .obj c ns => ∃ (ca dx : Addr) (fs : List (Str × V)), C.mg c = some (.ref ca) ∧ F a = some (.ins ca dx fs) ∧ fs.map (·.1) = ns ∧ fs.map (·.2) = vs
  | .exc c ns => ∃ ca : Addr, C.mg c = some (.ref ca) ∧ ((ns = [] ∧ vs = [] ∧ F a = some (exo a ca none)) ∨ ∃ (d : Addr) (fs : List (Str × V)), F a = some (exo a ca (some d)) ∧ F d = some (exd d fs) ∧ fs.map (·.1) = ns ∧ fs.map (·.2) = vs)
  | .cau c a1 C1 dd => a = a1 ∧ C.mg c = some (.ref C1) ∧ ((dd = none ∧ vs = []) ∨ ∃ (d : Addr) (fs : List (Str × V)), dd = some d ∧ F d = some (.xd fs) ∧ vs = xflat fs)

mutual
inductive Rep (C : Ctx) (F : Hp) (ρ : Loc0) : D → V → Prop
  | non : Rep C F ρ .non .non
  | bl (b : Bool) : Rep C F ρ (.bl b) (.bl b)
  | int (i : Int) : Rep C F ρ (.int i) (.int i)
  | str (x : Str) : Rep C F ρ (.str x) (.str x)
  | ty (n : String) : Rep C F ρ (.ty n) (.ty n)
  | glb {x : Str} {a : Addr} (h : C.mg x = some (.ref a)) : Rep C F ρ (.glb x) (.ref a)
  | cell {n : Nat} {a : Addr} (h : ρ n = some a) : Rep C F ρ (.cell n) (.ref a)
  | node {k : Kd} {xs : List D} {a : Addr} {vs : List V} (h : HoldK C F k a vs) (r : RepL C F ρ xs vs) : Rep C F ρ (.node k xs) (.ref a)
inductive RepL (C : Ctx) (F : Hp) (ρ : Loc0) : List D → List V → Prop
  | nil : RepL C F ρ [] []
  | cons {d : D} {ds : List D} {v : V} {vs : List V} (h : Rep C F ρ d v) (t : RepL C F ρ ds vs) : RepL C F ρ (d :: ds) (v :: vs)
end

/-- the kept part and the cells' places only grow -/
structure Ext (F : Hp) (ρ : Loc0) (F' : Hp) (ρ' : Loc0) : Prop where
  f : ∀ a o, F a = some o → F' a = some o
  r : ∀ n a, ρ n = some a → ρ' n = some a
theorem Ext.refl (F : Hp) (ρ : Loc0) : Ext F ρ F ρ := ⟨fun _ _ h => h, fun _ _ h => h⟩
theorem Ext.trans {F F1 F2 : Hp} {ρ ρ1 ρ2 : Loc0} (a : Ext F ρ F1 ρ1) (b : Ext F1 ρ1 F2 ρ2) : Ext F ρ F2 ρ2 := ⟨fun x o h => b.f x o (a.f x o h), fun n x h => b.r n x (a.r n x h)⟩

section
variable {C : Ctx} {F F' : Hp} {ρ ρ' : Loc0}
theorem rd_ext (h : ∀ a o, F a = some o → F' a = some o) {a : Addr} {u : HO} (r : Rd F a u) : Rd F' a u := by
  rcases r with r | ⟨o, r⟩
  · exact .inl (h _ _ r)
  · exact .inr ⟨o, h _ _ r⟩
theorem sql_ext (h : ∀ a o, F a = some o → F' a = some o) {K : PySem.W.Frag} {a : Addr} {xs : List V} (r : SqL K F a xs) : SqL K F' a xs := by
  rcases r with r | r
  · exact .inl (rd_ext h r)
  · exact .inr r
theorem sqt_ext (h : ∀ a o, F a = some o → F' a = some o) {K : PySem.W.Frag} {a : Addr} {xs : List V} (r : SqT K F a xs) : SqT K F' a xs := by
  rcases r with r | r
  · exact .inl (rd_ext h r)
  · exact .inr r
theorem HoldK.ext (e : ∀ a o, F a = some o → F' a = some o) {k : Kd} {a : Addr} {vs : List V} (h : HoldK C F k a vs) : HoldK C F' k a vs := by
  cases k with
  | lst => exact e _ _ h
  | klst => exact sql_ext e h
  | tup => exact sqt_ext e h
  | dct ks => obtain ⟨kvs, h1, h2⟩ := h; exact ⟨kvs, e _ _ h1, h2⟩
  | obj c ns => obtain ⟨ca, dx, fs, h1, h2, h3⟩ := h; exact ⟨ca, dx, fs, h1, e _ _ h2, h3⟩
  | exc c ns =>
    obtain ⟨ca, h1, h2⟩ := h
    refine ⟨ca, h1, ?_⟩
    rcases h2 with ⟨h2, h3, h4⟩ | ⟨d, fs, h2, h3, h4⟩
    · exact .inl ⟨h2, h3, e _ _ h4⟩
    · exact .inr ⟨d, fs, e _ _ h2, e _ _ h3, h4⟩
  | cau c a1 C1 dd =>
    obtain ⟨h1, h2, h3⟩ := h
    refine ⟨h1, h2, ?_⟩
    rcases h3 with h3 | ⟨d, fs, h3, h4, h5⟩
    · exact .inl h3
    · exact .inr ⟨d, fs, h3, e _ _ h4, h5⟩
mutual
theorem Rep.ext (e : Ext F ρ F' ρ') : ∀ {d : D} {v : V}, Rep C F ρ d v → Rep C F' ρ' d v
  | _, _, .non => .non
  | _, _, .bl b => .bl b
  | _, _, .int i => .int i
  | _, _, .str x => .str x
  | _, _, .ty n => .ty n
  | _, _, .glb h => .glb h
  | _, _, .cell h => .cell (e.r _ _ h)
  | _, _, .node h r => .node (h.ext e.f) (RepL.ext e r)
theorem RepL.ext (e : Ext F ρ F' ρ') : ∀ {d : List D} {v : List V}, RepL C F ρ d v → RepL C F' ρ' d v
  | _, _, .nil => .nil
  | _, _, .cons h t => .cons (Rep.ext e h) (RepL.ext e t)
end
theorem RepL.length : ∀ {ds : List D} {vs : List V}, RepL C F ρ ds vs → ds.length = vs.length
  | _, _, .nil => rfl
  | _, _, .cons _ t => congrArg (· + 1) (RepL.length t)
theorem RepL.get : ∀ {ds : List D} {vs : List V} {i : Nat} {d : D}, RepL C F ρ ds vs → ds[i]? = some d → ∃ v, vs[i]? = some v ∧ Rep C F ρ d v
  | _, _, _, _, .nil, e => by simp at e
  | _, _, 0, _, .cons h _, e => by simp at e; subst e; exact ⟨_, rfl, h⟩
  | _, _, i + 1, d, .cons _ t, e => by
    obtain ⟨v, h1, h2⟩ := RepL.get (i := i) (d := d) t (by simpa using e)
    exact ⟨v, by simpa using h1, h2⟩
theorem RepL.getV : ∀ {ds : List D} {vs : List V} {i : Nat} {v : V}, RepL C F ρ ds vs → vs[i]? = some v → ∃ d, ds[i]? = some d ∧ Rep C F ρ d v
  | _, _, _, _, .nil, e => by simp at e
  | _, _, 0, _, .cons h _, e => by simp at e; subst e; exact ⟨_, rfl, h⟩
  | _, _, i + 1, v, .cons _ t, e => by
    obtain ⟨d, h1, h2⟩ := RepL.getV (i := i) (v := v) t (by simpa using e)
    exact ⟨d, by simpa using h1, h2⟩
theorem RepL.append : ∀ {xs ys : List D} {us ws : List V}, RepL C F ρ xs us → RepL C F ρ ys ws → RepL C F ρ (xs ++ ys) (us ++ ws)
  | _, _, _, _, .nil, s => s
  | _, _, _, _, .cons h t, s => .cons h (RepL.append t s)
theorem RepL.set {d : D} {v : V} (r : Rep C F ρ d v) : ∀ {xs : List D} {vs : List V} (i : Nat), RepL C F ρ xs vs → RepL C F ρ (xs.set i d) (vs.set i v)
  | _, _, _, .nil => .nil
  | _, _, 0, .cons _ t => .cons r t
  | _, _, i + 1, .cons q t => .cons q (RepL.set r i t)
theorem RepL.take : ∀ {xs : List D} {vs : List V} (n : Nat), RepL C F ρ xs vs → RepL C F ρ (xs.take n) (vs.take n)
  | _, _, 0, _ => .nil
  | _, _, _ + 1, .nil => .nil
  | _, _, n + 1, .cons h t => .cons h (RepL.take n t)
theorem RepL.drop : ∀ {xs : List D} {vs : List V} (n : Nat), RepL C F ρ xs vs → RepL C F ρ (xs.drop n) (vs.drop n)
  | _, _, 0, r => r
  | _, _, _ + 1, .nil => .nil
  | _, _, n + 1, .cons _ t => RepL.drop n t
theorem RepL.ints : ∀ {ns : List Int} {vs : List V}, RepL C F ρ (ns.map D.int) vs → vs = ns.map V.int
  | [], _, .nil => rfl
  | n :: ns, _, .cons h t => by cases h; rw [RepL.ints (ns := ns) t]; rfl
theorem RepL.bls : ∀ {ns : List Bool} {vs : List V}, RepL C F ρ (ns.map D.bl) vs → vs = ns.map V.bl
  | [], _, .nil => rfl
  | n :: ns, _, .cons h t => by cases h; rw [RepL.bls (ns := ns) t]; rfl
theorem RepL.strs : ∀ {ns : List Str} {vs : List V}, RepL C F ρ (ns.map D.str) vs → vs = ns.map V.str
  | [], _, .nil => rfl
  | n :: ns, _, .cons h t => by cases h; rw [RepL.strs (ns := ns) t]; rfl
theorem RepL.ofInts : ∀ {ns : List Int}, RepL C F ρ (ns.map D.int) (ns.map V.int)
  | [] => .nil
  | n :: ns => .cons (.int n) (RepL.ofInts (ns := ns))
end

/-- how a cell's content lies -/
def HoldM (C : Ctx) (H : Hp) (k : Kd) (a : Addr) (vs : List V) : Prop := match k with
  | .lst => H a = some (.lst vs)
  | .dct ks => ∃ kvs, H a = some (.dK kvs) ∧ kvs.map (·.1) = ks ∧ kvs.map (·.2) = vs
  | .obj c ns => ∃ (ca dx : Addr) (fs : List (Str × V)), C.mg c = some (.ref ca) ∧ H a = some (.ins ca dx fs) ∧ fs.map (·.1) = ns ∧ fs.map (·.2) = vs
  | _ => False
/-- the state: the kept part F, the cells' places ρ, the cells κ, the abstract heap H -/
structure StR (C : Ctx) (F : Hp) (ρ : Loc0) (κ : Kap) (H : Hp) : Prop where
  sub : ∀ a o, F a = some o → H a = some o
  live : ∀ n k xs, κ n = some (.live k xs) → ∃ a vs, ρ n = some a ∧ F a = none ∧ HoldM C H k a vs ∧ RepL C F ρ xs vs
  inj : ∀ n m a k xs k' xs', κ n = some (.live k xs) → κ m = some (.live k' xs') → ρ n = some a → ρ m = some a → n = m
  free : ∀ n, κ n = none → ρ n = none
  fin : ∃ N, ∀ n, N ≤ n → κ n = none

theorem HoldM.is {C : Ctx} {H : Hp} {k : Kd} {a : Addr} {vs : List V} (h : HoldM C H k a vs) : ∃ o, H a = some o := by
  cases k with
  | lst => exact ⟨_, h⟩
  | dct ks => obtain ⟨kvs, h1, _⟩ := h; exact ⟨_, h1⟩
  | obj c ns => obtain ⟨_, _, _, _, h1, _⟩ := h; exact ⟨_, h1⟩
  | _ => exact h.elim
theorem HoldM.same {C : Ctx} {H H' : Hp} {k : Kd} {a : Addr} {vs : List V} (h : HoldM C H k a vs) (e : H' a = H a) : HoldM C H' k a vs := by
  cases k with
  | lst => exact e.trans h
  | dct ks => obtain ⟨kvs, h1, h2⟩ := h; exact ⟨kvs, e.trans h1, h2⟩
  | obj c ns => obtain ⟨ca, dx, fs, h0, h1, h2⟩ := h; exact ⟨ca, dx, fs, h0, e.trans h1, h2⟩
  | _ => exact h.elim

section
variable {C : Ctx} {F : Hp} {ρ : Loc0} {κ : Kap} {H : Hp}
/-- a new object, kept -/
theorem StR.laid (S : StR C F ρ κ H) {p : Addr} {o : HO} (h : H p = none) : Ext F ρ (upd F p o) ρ ∧ StR C (upd F p o) ρ κ (upd H p o) := by
  have fp : F p = none := by
    cases e : F p with
    | none => rfl
    | some u => rw [S.sub p u e] at h; cases h
  have ex : Ext F ρ (upd F p o) ρ := ⟨fun a u e => by rw [upd_ne (ne_of_none e fp)]; exact e, fun _ _ e => e⟩
  refine ⟨ex, ⟨fun a u e => ?_, fun n k xs e => ?_, S.inj, S.free, S.fin⟩⟩
  · by_cases ha : a = p
    · subst ha; rw [upd_same] at e; rw [upd_same]; exact e
    · rw [upd_ne ha] at e; rw [upd_ne ha]; exact S.sub a u e
  · obtain ⟨a, vs, h1, h2, h3, h4⟩ := S.live n k xs e
    obtain ⟨u, hu⟩ := h3.is
    have ne : a ≠ p := ne_of_none hu h
    exact ⟨a, vs, h1, by rw [upd_ne ne]; exact h2, h3.same (upd_ne ne), h4.ext ex⟩
/-- a new object, a cell -/
theorem StR.cell (S : StR C F ρ κ H) {p : Addr} {o : HO} {k : Kd} {vs : List V} {xs : List D} (h : H p = none) (hm : ∀ H', H' p = some o → HoldM C H' k p vs) (r : RepL C F ρ xs vs) {n : Nat} (hn : κ n = none) :
    ∃ ρ', Ext F ρ F ρ' ∧ ρ' n = some p ∧ StR C F ρ' (kset κ n (.live k xs)) (upd H p o) := by
  have ex : Ext F ρ F (fun m => if m = n then some p else ρ m) := ⟨fun _ _ e => e, fun m a e => by
    have : m ≠ n := fun z => by rw [z, S.free n hn] at e; cases e
    show (if m = n then some p else ρ m) = some a
    rw [if_neg this]; exact e⟩
  have fp : F p = none := by
    cases e : F p with
    | none => rfl
    | some u => rw [S.sub p u e] at h; cases h
  refine ⟨_, ex, if_pos rfl, ⟨fun a u e => ?_, fun m k' xs' e => ?_, fun m m' a k1 x1 k2 x2 e e' r1 r2 => ?_, fun m e => ?_, ?_⟩⟩
  · rw [upd_ne (ne_of_none (S.sub a u e) h)]; exact S.sub a u e
  · by_cases hm' : m = n
    · subst hm'
      rw [kset_same] at e
      cases e
      exact ⟨p, vs, if_pos rfl, fp, hm _ upd_same, r.ext ex⟩
    · rw [kset_ne hm'] at e
      obtain ⟨a, ws, h1, h2, h3, h4⟩ := S.live m k' xs' e
      obtain ⟨u, hu⟩ := h3.is
      have ne : a ≠ p := ne_of_none hu h
      exact ⟨a, ws, by rw [if_neg hm']; exact h1, h2, h3.same (upd_ne ne), h4.ext ex⟩
  · have key : ∀ {m a k1 x1}, m ≠ n → kset κ n (.live k xs) m = some (.live k1 x1) → (if m = n then some p else ρ m) = some a → a ≠ p := by
      intro m a k1 x1 hm' e r1
      rw [kset_ne hm'] at e
      obtain ⟨b, ws, h1, h2, h3, h4⟩ := S.live m k1 x1 e
      rw [if_neg hm', h1] at r1
      cases r1
      obtain ⟨u, hu⟩ := h3.is
      exact ne_of_none hu h
    by_cases h1 : m = n
    · by_cases h2 : m' = n
      · exact h1.trans h2.symm
      · have := key h2 e' r2
        rw [if_pos h1] at r1
        cases r1
        exact absurd rfl this
    · by_cases h2 : m' = n
      · have := key h1 e r1
        rw [if_pos h2] at r2
        cases r2
        exact absurd rfl this
      · rw [kset_ne h1] at e
        rw [kset_ne h2] at e'
        rw [if_neg h1] at r1
        rw [if_neg h2] at r2
        exact S.inj _ _ _ _ _ _ _ e e' r1 r2
  · have hm' : m ≠ n := fun z => by rw [z, kset_same] at e; cases e
    rw [kset_ne hm'] at e
    show (if m = n then some p else ρ m) = none
    rw [if_neg hm']
    exact S.free m e
  · obtain ⟨N, hN⟩ := S.fin
    refine ⟨max N (n + 1), fun m hm' => ?_⟩
    rw [kset_ne (by omega)]
    exact hN m (by omega)
theorem StR.fresh (S : StR C F ρ κ H) : ∃ n, κ n = none := let ⟨N, h⟩ := S.fin; ⟨N, h N (Nat.le_refl _)⟩
/-- a cell is written -/
theorem StR.write (S : StR C F ρ κ H) {n : Nat} {a : Addr} {o : HO} {k k' : Kd} {xs xs' : List D} {vs' : List V} (hn : κ n = some (.live k xs)) (ha : ρ n = some a) (hm : ∀ H', H' a = some o → HoldM C H' k' a vs') (r : RepL C F ρ xs' vs') :
    StR C F ρ (kset κ n (.live k' xs')) (upd H a o) := by
  have fa : F a = none := by
    obtain ⟨b, vs, h1, h2, _⟩ := S.live n k xs hn
    rw [ha] at h1
    cases h1
    exact h2
  refine ⟨fun b u e => ?_, fun m k1 x1 e => ?_, fun m m' b k1 x1 k2 x2 e e' r1 r2 => ?_, fun m e => ?_, ?_⟩
  · rw [upd_ne (ne_of_none e fa)]; exact S.sub b u e
  · by_cases hm' : m = n
    · subst hm'
      rw [kset_same] at e
      cases e
      exact ⟨a, vs', ha, fa, hm _ upd_same, r⟩
    · rw [kset_ne hm'] at e
      obtain ⟨b, ws, h1, h2, h3, h4⟩ := S.live m k1 x1 e
      have ne : b ≠ a := fun z => hm' (S.inj m n a k1 x1 k xs e hn (z ▸ h1) ha)
      exact ⟨b, ws, h1, h2, h3.same (upd_ne ne), h4⟩
  · have key : ∀ {m k1 x1}, kset κ n (.live k' xs') m = some (.live k1 x1) → ∃ k2 x2, κ m = some (.live k2 x2) := by
      intro m k1 x1 e
      by_cases z : m = n
      · exact ⟨k, xs, z ▸ hn⟩
      · rw [kset_ne z] at e
        exact ⟨_, _, e⟩
    obtain ⟨_, _, q1⟩ := key e
    obtain ⟨_, _, q2⟩ := key e'
    exact S.inj _ _ _ _ _ _ _ q1 q2 r1 r2
  · have hm' : m ≠ n := fun z => by rw [z, kset_same] at e; cases e
    rw [kset_ne hm'] at e
    exact S.free m e
  · obtain ⟨N, hN⟩ := S.fin
    refine ⟨max N (n + 1), fun m hm' => ?_⟩
    rw [kset_ne (by omega)]
    exact hN m (by omega)
theorem HoldM.toK {k : Kd} {a : Addr} {vs : List V} (h : HoldM C H k a vs) : ∃ o, H a = some o ∧ ∀ F : Hp, F a = some o → HoldK C F k a vs := by
  cases k with
  | lst => exact ⟨_, h, fun F e => e⟩
  | dct ks => obtain ⟨kvs, h1, h2⟩ := h; exact ⟨_, h1, fun F e => ⟨kvs, e, h2⟩⟩
  | obj c ns => obtain ⟨ca, dx, fs, h0, h1, h2⟩ := h; exact ⟨_, h1, fun F e => ⟨ca, dx, fs, h0, e, h2⟩⟩
  | _ => exact h.elim
/-- a cell is kept from now on -/
theorem StR.freeze (S : StR C F ρ κ H) {n : Nat} {a : Addr} {k : Kd} {xs : List D} (hn : κ n = some (.live k xs)) (ha : ρ n = some a) :
    ∃ F', Ext F ρ F' ρ ∧ Rep C F' ρ (.node k xs) (.ref a) ∧ StR C F' ρ (kset κ n .dead) H := by
  obtain ⟨b, vs, h1, h2, h3, h4⟩ := S.live n k xs hn
  rw [ha] at h1
  cases h1
  obtain ⟨o, ho, hk⟩ := h3.toK
  have ex : Ext F ρ (upd F a o) ρ := ⟨fun b u e => by rw [upd_ne (ne_of_none e h2)]; exact e, fun _ _ e => e⟩
  refine ⟨upd F a o, ex, .node (hk _ upd_same) (h4.ext ex), ⟨fun b u e => ?_, fun m k1 x1 e => ?_, fun m m' b k1 x1 k2 x2 e e' r1 r2 => ?_, fun m e => ?_, ?_⟩⟩
  · by_cases hb : b = a
    · subst hb; rw [upd_same] at e; cases e; exact ho
    · rw [upd_ne hb] at e; exact S.sub b u e
  · have hm' : m ≠ n := fun z => by rw [z, kset_same] at e; cases e
    rw [kset_ne hm'] at e
    obtain ⟨b, ws, g1, g2, g3, g4⟩ := S.live m k1 x1 e
    have ne : b ≠ a := fun z => hm' (S.inj m n a k1 x1 k xs e hn (z ▸ g1) ha)
    exact ⟨b, ws, g1, by rw [upd_ne ne]; exact g2, g3, g4.ext ex⟩
  · have key : ∀ {m k1 x1}, kset κ n .dead m = some (.live k1 x1) → κ m = some (.live k1 x1) := by
      intro m k1 x1 e
      by_cases z : m = n
      · rw [z, kset_same] at e; cases e
      · rw [kset_ne z] at e; exact e
    exact S.inj _ _ _ _ _ _ _ (key e) (key e') r1 r2
  · have hm' : m ≠ n := fun z => by rw [z, kset_same] at e; cases e
    rw [kset_ne hm'] at e
    exact S.free m e
  · obtain ⟨N, hN⟩ := S.fin
    refine ⟨max N (n + 1), fun m hm' => ?_⟩
    rw [kset_ne (by omega)]
    exact hN m (by omega)
end

/-! ### slots -/
def RepS (C : Ctx) (F : Hp) (ρ : Loc0) (δ : DEnv) (σ : L2.St) : Prop := δ.length = σ.length ∧ ∀ (i : Nat) (d : D), δ[i]? = some (some d) → ∃ v : V, σ[i]? = some (some v) ∧ Rep C F ρ d v
section
variable {C : Ctx} {F F' : Hp} {ρ ρ' : Loc0} {δ : DEnv} {σ : L2.St}
theorem RepS.ext (e : Ext F ρ F' ρ') (h : RepS C F ρ δ σ) : RepS C F' ρ' δ σ := ⟨h.1, fun i d q => let ⟨v, a, b⟩ := h.2 i d q; ⟨v, a, b.ext e⟩⟩
theorem RepS.set (h : RepS C F ρ δ σ) {d : D} {v : V} (r : Rep C F ρ d v) (i : Nat) : RepS C F ρ (δ.set i (some d)) (σ.set i (some v)) := by
  refine ⟨by rw [List.length_set, List.length_set]; exact h.1, fun j e q => ?_⟩
  by_cases hj : i = j
  · subst hj
    by_cases hi : i < δ.length
    · rw [List.getElem?_set_self hi] at q
      cases q
      exact ⟨v, List.getElem?_set_self (h.1 ▸ hi), r⟩
    · rw [List.getElem?_eq_none (by simpa using hi)] at q; cases q
  · rw [List.getElem?_set_ne hj] at q ⊢
    exact h.2 j e q
theorem RepS.unset (h : RepS C F ρ δ σ) (i : Nat) : RepS C F ρ (δ.set i none) (σ.set i none) := by
  refine ⟨by rw [List.length_set, List.length_set]; exact h.1, fun j e q => ?_⟩
  by_cases hj : i = j
  · subst hj
    by_cases hi : i < δ.length
    · rw [List.getElem?_set_self hi] at q; cases q
    · rw [List.getElem?_eq_none (by simpa using hi)] at q; cases q
  · rw [List.getElem?_set_ne hj] at q ⊢
    exact h.2 j e q
def dwipe (δ : DEnv) : List Nat → DEnv
  | [] => δ
  | v :: vs => (dwipe δ vs).set v none
theorem RepS.wipe (h : RepS C F ρ δ σ) : ∀ vs : List Nat, RepS C F ρ (dwipe δ vs) (L2.wipe σ vs)
  | [] => h
  | v :: vs => (RepS.wipe h vs).unset v
end

/-- an exception: its class by name, its fields -/
structure RepX (C : Ctx) (F : Hp) (ρ : Loc0) (c : Str) (fs : List D) (cls : Value) (dd : Option Addr) : Prop where
  cls : C.mg c = some cls ∧ ∃ a, cls = .ref a
  fs : ∃ vs, RepL C F ρ fs vs ∧ ((vs = [] ∧ dd = none) ∨ ∃ d ns, dd = some d ∧ F d = some (.xd ns) ∧ vs = xflat ns)
theorem RepX.ext {C : Ctx} {F F' : Hp} {ρ ρ' : Loc0} (e : Ext F ρ F' ρ') {c : Str} {fs : List D} {cls : Value} {dd : Option Addr} (h : RepX C F ρ c fs cls dd) : RepX C F' ρ' c fs cls dd := by
  obtain ⟨h1, vs, h2, h3⟩ := h
  refine ⟨h1, vs, h2.ext e, ?_⟩
  rcases h3 with h3 | ⟨d, ns, h3, h4, h5⟩
  · exact .inl h3
  · exact .inr ⟨d, ns, h3, e.f _ _ h4, h5⟩

/-! ### posts -/
def Post (C : Ctx) (F : Hp) (ρ : Loc0) (QD : DQ) (Q : VK) : Prop := ∀ F' ρ' κ' H' d v, Ext F ρ F' ρ' → StR C F' ρ' κ' H' → Rep C F' ρ' d v → QD d κ' → Q v H'
def PostT (C : Ctx) (F : Hp) (ρ : Loc0) (QD : Bool → Kap → Prop) (Q : Bool → Hp → Prop) : Prop := ∀ F' ρ' κ' H' b, Ext F ρ F' ρ' → StR C F' ρ' κ' H' → QD b κ' → Q b H'
def PostA (C : Ctx) (F : Hp) (ρ : Loc0) (QD : List D → Kap → Prop) (Q : List V → Hp → Prop) : Prop := ∀ F' ρ' κ' H' ds vs, Ext F ρ F' ρ' → StR C F' ρ' κ' H' → RepL C F' ρ' ds vs → QD ds κ' → Q vs H'
def PostN (C : Ctx) (F : Hp) (ρ : Loc0) (QD : DEnv → Kap → Prop) (Q : L2.St → Hp → Prop) : Prop := ∀ F' ρ' κ' H' δ σ, Ext F ρ F' ρ' → StR C F' ρ' κ' H' → RepS C F' ρ' δ σ → QD δ κ' → Q σ H'
def PostX (C : Ctx) (F : Hp) (ρ : Loc0) (XD : DX) (W : WX) : Prop := ∀ F' ρ' κ' H' δ σ c fs cls dd, Ext F ρ F' ρ' → StR C F' ρ' κ' H' → RepS C F' ρ' δ σ → RepX C F' ρ' c fs cls dd → XD δ c fs κ' → W cls dd σ H'
structure PostE (C : Ctx) (F : Hp) (ρ : Loc0) (DD : DEnds) (T : Ends) : Prop where
  nx : PostN C F ρ DD.nx T.nx
  rt : Post C F ρ DD.rt T.rt
  bk : PostN C F ρ DD.bk T.bk
  ct : PostN C F ρ DD.ct T.ct
section
variable {C : Ctx} {F F' : Hp} {ρ ρ' : Loc0}
theorem Post.ext (e : Ext F ρ F' ρ') {QD : DQ} {Q : VK} (h : Post C F ρ QD Q) : Post C F' ρ' QD Q := fun F2 ρ2 κ H d v e2 => h F2 ρ2 κ H d v (e.trans e2)
theorem PostT.ext (e : Ext F ρ F' ρ') {QD : Bool → Kap → Prop} {Q : Bool → Hp → Prop} (h : PostT C F ρ QD Q) : PostT C F' ρ' QD Q := fun F2 ρ2 κ H d e2 => h F2 ρ2 κ H d (e.trans e2)
theorem PostA.ext (e : Ext F ρ F' ρ') {QD : List D → Kap → Prop} {Q : List V → Hp → Prop} (h : PostA C F ρ QD Q) : PostA C F' ρ' QD Q := fun F2 ρ2 κ H d v e2 => h F2 ρ2 κ H d v (e.trans e2)
theorem PostN.ext (e : Ext F ρ F' ρ') {QD : DEnv → Kap → Prop} {Q : L2.St → Hp → Prop} (h : PostN C F ρ QD Q) : PostN C F' ρ' QD Q := fun F2 ρ2 κ H d v e2 => h F2 ρ2 κ H d v (e.trans e2)
theorem PostX.ext (e : Ext F ρ F' ρ') {XD : DX} {W : WX} (h : PostX C F ρ XD W) : PostX C F' ρ' XD W := fun F2 ρ2 κ H a b c d x y e2 => h F2 ρ2 κ H a b c d x y (e.trans e2)
theorem PostE.ext (e : Ext F ρ F' ρ') {DD : DEnds} {T : Ends} (h : PostE C F ρ DD T) : PostE C F' ρ' DD T := ⟨h.nx.ext e, h.rt.ext e, h.bk.ext e, h.ct.ext e⟩
end

/-! ### lifts -/
def liftE (C : Ctx) (W : WX) (de : DE) : TE := fun σ H Q => ∃ F ρ κ δ XD QD, StR C F ρ κ H ∧ RepS C F ρ δ σ ∧ de δ κ XD QD ∧ Post C F ρ QD Q ∧ PostX C F ρ XD W
def liftT (C : Ctx) (W : WX) (dt : DT) : TT := fun σ H Q => ∃ F ρ κ δ XD QD, StR C F ρ κ H ∧ RepS C F ρ δ σ ∧ dt δ κ XD QD ∧ PostT C F ρ QD Q ∧ PostX C F ρ XD W
def liftA (C : Ctx) (W : WX) (da : DA) : TA := fun σ H Q => ∃ F ρ κ δ XD QD, StR C F ρ κ H ∧ RepS C F ρ δ σ ∧ da δ κ XD QD ∧ PostA C F ρ QD Q ∧ PostX C F ρ XD W
def liftS (C : Ctx) (W : WX) (ds : DS) : TS := fun T σ H => ∃ F ρ κ δ XD DD, StR C F ρ κ H ∧ RepS C F ρ δ σ ∧ ds δ κ XD DD ∧ PostE C F ρ DD T ∧ PostX C F ρ XD W
abbrev CtxOf (X : Cx) : Ctx := ⟨X.K, X.mg⟩
abbrev PED (X : Cx) (W : WX) (e : Expr) (de : DE) : Prop := PE X e (liftE (CtxOf X) W de)
abbrev PTD (X : Cx) (W : WX) (e : Expr) (dt : DT) : Prop := PT X e (liftT (CtxOf X) W dt)
abbrev PAD (X : Cx) (W : WX) (es : List Expr) (da : DA) : Prop := PA X es (liftA (CtxOf X) W da)
abbrev PSD (X : Cx) (W : WX) (st : Stmt) (ds : DS) : Prop := PS X st (liftS (CtxOf X) W ds)
abbrev PSsD (X : Cx) (W : WX) (st : List Stmt) (ds : DS) : Prop := PSs X st (liftS (CtxOf X) W ds)

section
variable {X : Cx}
theorem pe_weak {e : Expr} {t t' : TE} (h : PE X e t) (w : ∀ σ H Q, t' σ H Q → t σ H Q) : PE X e t' := ⟨fun pins s σ H Q I q => h.run pins s σ H Q I (w σ H Q q)⟩
theorem pt_weak {e : Expr} {t t' : TT} (h : PT X e t) (w : ∀ σ H Q, t' σ H Q → t σ H Q) : PT X e t' := ⟨fun pins s σ H Q I q => h.run pins s σ H Q I (w σ H Q q)⟩
theorem pa_weak {e : List Expr} {t t' : TA} (h : PA X e t) (w : ∀ σ H Q, t' σ H Q → t σ H Q) : PA X e t' := ⟨fun pos pins s σ H Q I q => h.run pos pins s σ H Q I (w σ H Q q)⟩
theorem ps_weak {e : Stmt} {t t' : TS} (h : PS X e t) (w : ∀ T σ H, t' T σ H → t T σ H) : PS X e t' := ⟨fun pins s σ H T I q => h.run pins s σ H T I (w T σ H q)⟩
theorem pss_weak {e : List Stmt} {t t' : TS} (h : PSs X e t) (w : ∀ T σ H, t' T σ H → t T σ H) : PSs X e t' := ⟨fun pins s σ H T I q => h.run pins s σ H T I (w T σ H q)⟩
end
end DL

/-! DL: expressions. -/
namespace DL
open PySem PySem.Spec PyProof.Rows L2

abbrev D1 := D → Kap → DQ → Prop
abbrev D2 := D → D → Kap → DQ → Prop
abbrev DN := List D → Kap → DQ → Prop
abbrev D1N := D → List D → Kap → DQ → Prop
def Sim1 (C : Ctx) (f : D1) (r : V → Hp → VK → Prop) : Prop := ∀ F ρ κ H x v QD Q, StR C F ρ κ H → Rep C F ρ x v → f x κ QD → Post C F ρ QD Q → r v H Q
def Sim2 (C : Ctx) (f : D2) (r : R2) : Prop := ∀ F ρ κ H x y v u QD Q, StR C F ρ κ H → Rep C F ρ x v → Rep C F ρ y u → f x y κ QD → Post C F ρ QD Q → r v u H Q
def SimN (C : Ctx) (f : DN) (r : List V → Hp → VK → Prop) : Prop := ∀ F ρ κ H xs vs QD Q, StR C F ρ κ H → RepL C F ρ xs vs → f xs κ QD → Post C F ρ QD Q → r vs H Q
def Sim1N (C : Ctx) (f : D1N) (r : V → List V → Hp → VK → Prop) : Prop := ∀ F ρ κ H x v xs vs QD Q, StR C F ρ κ H → Rep C F ρ x v → RepL C F ρ xs vs → f x xs κ QD → Post C F ρ QD Q → r v vs H Q

/-! ### combinators -/
def dVar (i : Nat) : DE := fun δ κ _ Q => match δ[i]? with
  | some (some d) => Q d κ
  | _ => False
def dC (d : D) : DE := fun _ κ _ Q => Q d κ
def dOp (f : D2) (a b : DE) : DE := fun δ κ X Q => a δ κ X fun x κ1 => b δ κ1 X fun y κ2 => f x y κ2 Q
def dUn (f : D1) (a : DE) : DE := fun δ κ X Q => a δ κ X fun x κ1 => f x κ1 Q
def dNil : DA := fun _ κ _ Q => Q [] κ
def dCons (a : DE) (r : DA) : DA := fun δ κ X Q => a δ κ X fun x κ1 => r δ κ1 X fun xs κ2 => Q (x :: xs) κ2
def dB (f : DN) (as : DA) : DE := fun δ κ X Q => as δ κ X fun xs κ1 => f xs κ1 Q
/-- what is new: kept (false), or a cell (true) -/
def fNew (m : Bool) (k : Kd) (xs : List D) (κ : Kap) (Q : DQ) : Prop := match m with
  | false => Q (.node k xs) κ
  | true => ∀ n, κ n = none → Q (.cell n) (kset κ n (.live k xs))
def dTup (as : DA) : DE := fun δ κ X Q => as δ κ X fun xs κ1 => xs.length ≤ sizeLine ∧ Q (.tup xs) κ1
def dLst (m : Bool) (as : DA) : DE := fun δ κ X Q => as δ κ X fun xs κ1 => xs.length ≤ sizeLine ∧ fNew m .lst xs κ1 Q
/-- what a thing holds -/
def view (x : D) (κ : Kap) : Option (Kd × List D) := match x with
  | .node k xs => some (k, xs)
  | .cell n => match κ n with
    | some (.live k xs) => some (k, xs)
    | _ => none
  | _ => none
def truth (x : D) (κ : Kap) : Option Bool := match x with
  | .non => some false
  | .bl b => some b
  | .int i => some (i != 0)
  | .str y => if y.length ≤ sizeLine then some ((y.length : Int) != 0) else none
  | x => match view x κ with
    | some (.lst, xs) => some (!xs.isEmpty)
    | some (.tup, xs) => some (!xs.isEmpty)
    | some (.dct ks, _) => some (!ks.isEmpty)
    | _ => none
def withTruth (x : D) (κ : Kap) (P : Bool → Prop) : Prop := match truth x κ with
  | some b => P b
  | none => False
def dAnd (a b : DE) : DE := fun δ κ X Q => a δ κ X fun x κ1 => withTruth x κ1 fun t => if t = true then b δ κ1 X Q else Q x κ1
def dOr (a b : DE) : DE := fun δ κ X Q => a δ κ X fun x κ1 => withTruth x κ1 fun t => if t = true then Q x κ1 else b δ κ1 X Q
def dNot (a : DE) : DE := fun δ κ X Q => a δ κ X fun x κ1 => withTruth x κ1 fun t => Q (.bl (!t)) κ1
def dIf (t : DT) (a b : DE) : DE := fun δ κ X Q => t δ κ X fun k κ1 => if k = true then a δ κ1 X Q else b δ κ1 X Q
def dChain (f g : D2) (a b c : DE) : DE := fun δ κ X Q => a δ κ X fun x κ1 => b δ κ1 X fun y κ2 => f x y κ2 fun z κ3 => ∃ k, z = .bl k ∧ if k = true then c δ κ3 X (fun w κ4 => g y w κ4 Q) else Q (.bl false) κ3
/-! tests -/
def tTru (a : DE) : DT := fun δ κ X Q => a δ κ X fun x κ1 => withTruth x κ1 fun t => Q t κ1
def tBl (a : DE) : DT := fun δ κ X Q => a δ κ X fun x κ1 => ∃ k, x = .bl k ∧ Q k κ1
def tAndD (a b : DT) : DT := fun δ κ X Q => a δ κ X fun t κ1 => if t = true then b δ κ1 X Q else Q false κ1
def tOrD (a b : DT) : DT := fun δ κ X Q => a δ κ X fun t κ1 => if t = true then Q true κ1 else b δ κ1 X Q
def tNotD (a : DT) : DT := fun δ κ X Q => a δ κ X fun t κ1 => Q (!t) κ1

/-! ### lifts of combinators -/
section
variable {C : Ctx} {W : WX} {σ : L2.St} {H : Hp} {Q : VK} {a b c : DE}
theorem lift_op {f : D2} {r : R2} (hs : Sim2 C f r) (h : liftE C W (dOp f a b) σ H Q) : tOp r (liftE C W a) (liftE C W b) σ H Q := by
  obtain ⟨F, ρ, κ, δ, XD, QD, S, R, h, P, PX⟩ := h
  exact ⟨F, ρ, κ, δ, XD, _, S, R, h, fun F1 ρ1 κ1 H1 x v e1 S1 R1 h1 => ⟨F1, ρ1, κ1, δ, XD, _, S1, R.ext e1, h1, fun F2 ρ2 κ2 H2 y u e2 S2 R2 h2 => hs _ _ _ _ _ _ _ _ _ _ S2 (R1.ext e2) R2 h2 (P.ext (e1.trans e2)), PX.ext e1⟩, PX⟩
theorem lift_un {f : D1} {r : V → Hp → VK → Prop} (hs : Sim1 C f r) (h : liftE C W (dUn f a) σ H Q) : tUn r (liftE C W a) σ H Q := by
  obtain ⟨F, ρ, κ, δ, XD, QD, S, R, h, P, PX⟩ := h
  exact ⟨F, ρ, κ, δ, XD, _, S, R, h, fun F1 ρ1 κ1 H1 x v e1 S1 R1 h1 => hs _ _ _ _ _ _ _ _ S1 R1 h1 (P.ext e1), PX⟩
theorem lift_nil {Q : List V → Hp → Prop} (h : liftA C W dNil σ H Q) : tNil σ H Q := by
  obtain ⟨F, ρ, κ, δ, XD, QD, S, R, h, P, PX⟩ := h
  exact P _ _ _ _ _ _ (Ext.refl _ _) S .nil h
theorem lift_cons {r : DA} {Q : List V → Hp → Prop} (h : liftA C W (dCons a r) σ H Q) : tCons (liftE C W a) (liftA C W r) σ H Q := by
  obtain ⟨F, ρ, κ, δ, XD, QD, S, R, h, P, PX⟩ := h
  exact ⟨F, ρ, κ, δ, XD, _, S, R, h, fun F1 ρ1 κ1 H1 x v e1 S1 R1 h1 => ⟨F1, ρ1, κ1, δ, XD, _, S1, R.ext e1, h1, fun F2 ρ2 κ2 H2 ys us e2 S2 R2 h2 => P _ _ _ _ _ _ (e1.trans e2) S2 (.cons (R1.ext e2) R2) h2, PX.ext e1⟩, PX⟩
theorem lift_B {f : DN} {r : List V → Hp → VK → Prop} {as : DA} (hs : SimN C f r) (h : liftE C W (dB f as) σ H Q) : tCB r (liftA C W as) σ H Q := by
  obtain ⟨F, ρ, κ, δ, XD, QD, S, R, h, P, PX⟩ := h
  exact ⟨F, ρ, κ, δ, XD, _, S, R, h, fun F1 ρ1 κ1 H1 x v e1 S1 R1 h1 => hs _ _ _ _ _ _ _ _ S1 R1 h1 (P.ext e1), PX⟩
end

/-! ### new things -/
section
variable {C : Ctx} {F : Hp} {ρ : Loc0} {κ : Kap} {H : Hp} {Q : VK} {QD : DQ}
/-- what is new: o is the object, by its content -/
theorem new_of {m : Bool} {k : Kd} {o : HO} {xs : List D} {vs : List V} (S : StR C F ρ κ H) (r : RepL C F ρ xs vs) (hk : ∀ (F : Hp) (p : Addr), F p = some o → HoldK C F k p vs) (hm : ∀ (F : Hp) (p : Addr), F p = some o → HoldM C F k p vs) (h : fNew m k xs κ QD) (P : Post C F ρ QD Q) :
    ∀ p, H p = none → Q (.ref p) (upd H p o) := fun p hp => by
  cases m with
  | false =>
    obtain ⟨e, S1⟩ := S.laid (o := o) hp
    exact P _ _ _ _ _ _ e S1 (.node (hk _ _ upd_same) (r.ext e)) h
  | true =>
    obtain ⟨n, hn⟩ := S.fresh
    obtain ⟨ρ', e, hr, S1⟩ := S.cell (o := o) hp (fun H' q => hm H' p q) r hn
    exact P _ _ _ _ _ _ e S1 (.cell hr) (h n hn)
theorem new_lst {m : Bool} {xs : List D} {vs : List V} (S : StR C F ρ κ H) (r : RepL C F ρ xs vs) (h : fNew m .lst xs κ QD) (P : Post C F ρ QD Q) : ∀ p, H p = none → Q (.ref p) (upd H p (.lst vs)) :=
  new_of (k := .lst) S r (fun _ _ e => e) (fun _ _ e => e) h P
theorem new_tup {xs : List D} {vs : List V} (S : StR C F ρ κ H) (r : RepL C F ρ xs vs) (h : QD (.tup xs) κ) (P : Post C F ρ QD Q) : ∀ p, H p = none → Q (.ref p) (upd H p (.tup vs)) := fun p hp => by
  obtain ⟨e, S1⟩ := S.laid (o := .tup vs) hp
  exact P _ _ _ _ _ _ e S1 (.node (k := .tup) (SqT.of upd_same) (r.ext e)) h
theorem new_dct {m : Bool} {kvs : List (Key × V)} {xs : List D} (S : StR C F ρ κ H) (r : RepL C F ρ xs (kvs.map (·.2))) (h : fNew m (.dct (kvs.map (·.1))) xs κ QD) (P : Post C F ρ QD Q) : ∀ p, H p = none → Q (.ref p) (upd H p (.dK kvs)) :=
  new_of (k := .dct (kvs.map (·.1))) S r (fun _ _ e => ⟨kvs, e, rfl, rfl⟩) (fun _ _ e => ⟨kvs, e, rfl, rfl⟩) h P
/-- a kept thing, or a cell, as it lies in the heap -/
theorem view_at {x : D} {v : V} {k : Kd} {xs : List D} (S : StR C F ρ κ H) (r : Rep C F ρ x v) (h : view x κ = some (k, xs)) : ∃ a vs, v = .ref a ∧ HoldK C H k a vs ∧ RepL C F ρ xs vs := by
  cases r with
  | node hh rr =>
    cases h
    exact ⟨_, _, rfl, hh.ext S.sub, rr⟩
  | @cell n a hr =>
    have h' : (match κ n with
      | some (.live k xs) => some (k, xs)
      | _ => none) = some (k, xs) := h
    cases e : κ n with
    | none => rw [e] at h'; cases h'
    | some c =>
      cases c with
      | dead => rw [e] at h'; cases h'
      | live k' xs' =>
        rw [e] at h'
        cases h'
        obtain ⟨b, vs, h1, h2, h3, h4⟩ := S.live n k xs e
        rw [hr] at h1
        cases h1
        obtain ⟨o, ho, hk⟩ := h3.toK
        exact ⟨a, vs, rfl, hk H ho, h4⟩
  | _ => cases h
/-- a cell, as it may be written -/
theorem cell_at {n : Nat} {v : V} {k : Kd} {xs : List D} (S : StR C F ρ κ H) (r : Rep C F ρ (.cell n) v) (h : κ n = some (.live k xs)) : ∃ a vs, v = .ref a ∧ ρ n = some a ∧ HoldM C H k a vs ∧ RepL C F ρ xs vs := by
  cases r with
  | @cell n a hr =>
    obtain ⟨b, vs, h1, h2, h3, h4⟩ := S.live n k xs h
    rw [hr] at h1
    cases h1
    exact ⟨a, vs, rfl, hr, h3, h4⟩
theorem truth_at {x : D} {v : V} {t : Bool} (S : StR C F ρ κ H) (r : Rep C F ρ x v) (h : truth x κ = some t) : TruV C.K v H t := by
  have key : ∀ {x : D} {v : V}, Rep C F ρ x v → (match view x κ with
    | some (.lst, xs) => some (!xs.isEmpty)
    | some (.tup, xs) => some (!xs.isEmpty)
    | some (.dct ks, _) => some (!ks.isEmpty)
    | _ => none) = some t → TruV C.K v H t := by
    intro x v r h
    cases e : view x κ with
    | none => rw [e] at h; cases h
    | some p =>
      obtain ⟨k, xs⟩ := p
      obtain ⟨a, vs, rfl, hk, rl⟩ := view_at S r e
      have el : xs.isEmpty = vs.isEmpty := by
        have := rl.length
        cases xs <;> cases vs <;> first | rfl | (simp at this)
      rw [e] at h
      cases k with
      | lst => cases h; exact .inl ⟨vs, SqL.of hk, by rw [el]⟩
      | tup => cases h; exact .inr (.inl ⟨vs, hk, by rw [el]⟩)
      | dct ks =>
        cases h
        obtain ⟨kvs, h1, rfl, h3⟩ := hk
        exact .inr (.inr ⟨kvs, h1, by cases kvs <;> rfl⟩)
      | _ => cases h
  cases x with
  | non => cases r; cases h; rfl
  | bl b => cases r; cases h; rfl
  | int i => cases r; cases h; rfl
  | str y =>
    cases r
    have h' : (if y.length ≤ sizeLine then some ((y.length : Int) != 0) else none) = some t := h
    by_cases hy : y.length ≤ sizeLine
    · rw [if_pos hy] at h'
      cases h'
      exact ⟨hy, rfl⟩
    · rw [if_neg hy] at h'; cases h'
  | node k xs => exact key r h
  | cell n => exact key r h
  | _ => cases h
theorem withTruth_at {x : D} {v : V} {P : Bool → Prop} (S : StR C F ρ κ H) (r : Rep C F ρ x v) (h : withTruth x κ P) : ∃ t, TruV C.K v H t ∧ P t := by
  unfold withTruth at h
  cases e : truth x κ with
  | none => rw [e] at h; exact h.elim
  | some t => rw [e] at h; exact ⟨t, truth_at S r e, h⟩
end

/-! ### expressions' rules -/
section
variable {X : Cx} {W : WX} {e e1 e2 e3 : Expr} {es : List Expr} {a b c : DE} {as : DA} {t u : DT} {pos : Pos}
theorem pd_var (i : Nat) {x : Str} {pos : Pos} (hN : X.N[i]? = some x := by rfl) (hv : Vis X.env.scope x := by first | exact Or.inl rfl | exact Or.inr (Or.inl rfl) | exact Or.inr (Or.inr rfl)) (hd : (x == ("__debug__" : Str)) = false := by decide)
    (hcd : (x == ("__classdict__" : Str)) = false := by decide) : PED X W (.Name x pos) (dVar i) := pe_weak (pe_var hN hv hd hcd) fun σ H Q ⟨F, ρ, κ, δ, XD, QD, S, R, h, P, PX⟩ => by
  unfold dVar at h
  cases e : δ[i]? with
  | none => rw [e] at h; exact h.elim
  | some o =>
    cases o with
    | none => rw [e] at h; exact h.elim
    | some d =>
      rw [e] at h
      obtain ⟨v, h1, h2⟩ := R.2 i d e
      exact ⟨v, h1, P _ _ _ _ _ _ (Ext.refl _ _) S h2 h⟩
theorem pd_c {d : D} {v : V} (h : PE X e (tC v)) (r : ∀ F ρ, Rep (CtxOf X) F ρ d v) : PED X W e (dC d) := pe_weak h fun σ H Q ⟨F, ρ, κ, δ, XD, QD, S, R, h, P, PX⟩ => P _ _ _ _ _ _ (Ext.refl _ _) S (r _ _) h
theorem pd_int {i j pos} : PED X W (.Constant (.int i) j pos) (dC (.int i)) := pd_c pe_int fun _ _ => .int i
theorem pd_bl {b j pos} : PED X W (.Constant (.bool b) j pos) (dC (.bl b)) := pd_c pe_bl fun _ _ => .bl b
theorem pd_non {j pos} : PED X W (.Constant .none j pos) (dC .non) := pd_c pe_non fun _ _ => .non
theorem pd_str {x j pos} : PED X W (.Constant (.str x) j pos) (dC (.str x)) := pd_c pe_str fun _ _ => .str x
theorem pd_op {op : Operator} {f : D2} {r : R2} (ho : OpR X (binaryOp op) r) (hs : Sim2 (CtxOf X) f r) (ha : PED X W e1 a) (hb : PED X W e2 b) : PED X W (.BinOp e1 op e2 pos) (dOp f a b) := pe_weak (pe_op ho ha hb) fun _ _ _ => lift_op hs
theorem pd_un {op : UnaryOp} {f : D1} {r : V → Hp → VK → Prop} (ho : UnR X (unaryOp op) r) (hs : Sim1 (CtxOf X) f r) (ha : PED X W e1 a) : PED X W (.UnaryOp op e1 pos) (dUn f a) := pe_weak (pe_un ho ha) fun _ _ _ => lift_un hs
theorem pd_cmp {op : CmpOp} {f : D2} {r : R2} (ho : OpR X (compareOp op) r) (hs : Sim2 (CtxOf X) f r) (ha : PED X W e1 a) (hb : PED X W e2 b) (hm : behindInMarks op e2 = false := by first | exact nomark _ | rfl) : PED X W (.Compare e1 [op] [e2] pos) (dOp f a b) := pe_weak (pe_cmpR ho ha hb hm) fun _ _ _ => lift_op hs
theorem pa_nilD : PAD X W [] dNil := pa_weak pa_nil fun _ _ _ => lift_nil
theorem pa_consD (ha : PED X W e a) (hr : PAD X W es as) (hs : starEach (e :: es) X.env = (false, eval e X.env) :: starEach es X.env := by rfl) : PAD X W (e :: es) (dCons a as) := pa_weak (pa_cons ha hr hs) fun _ _ _ => lift_cons
theorem pd_tup {x1} (h : PAD X W es as) : PED X W (.Tuple es x1 pos) (dTup as) := pe_weak (pe_tup h) fun σ H Q ⟨F, ρ, κ, δ, XD, QD, S, R, h, P, PX⟩ =>
  ⟨F, ρ, κ, δ, XD, _, S, R, h, fun F1 ρ1 κ1 H1 xs vs e1 S1 R1 h1 => ⟨by rw [← R1.length]; exact h1.1, new_tup S1 R1 h1.2 (P.ext e1)⟩, PX⟩
theorem pd_lst (m : Bool) (h : PAD X W es as) : PED X W (.List es pos) (dLst m as) := pe_weak (pe_lst h) fun σ H Q ⟨F, ρ, κ, δ, XD, QD, S, R, h, P, PX⟩ =>
  ⟨F, ρ, κ, δ, XD, _, S, R, h, fun F1 ρ1 κ1 H1 xs vs e1 S1 R1 h1 => ⟨by rw [← R1.length]; exact h1.1, new_lst S1 R1 h1.2 (P.ext e1)⟩, PX⟩
theorem pd_one {op} (h : PED X W e a) : PED X W (.BoolOp op [e] pos) a := pe_one h
theorem pd_and (ha : PED X W e1 a) (hb : PED X W (.BoolOp .And (e2 :: es) pos) b) : PED X W (.BoolOp .And (e1 :: e2 :: es) pos) (dAnd a b) := pe_weak (pe_andT ha hb) fun σ H Q ⟨F, ρ, κ, δ, XD, QD, S, R, h, P, PX⟩ =>
  ⟨F, ρ, κ, δ, XD, _, S, R, h, fun F1 ρ1 κ1 H1 x v e1 S1 R1 h1 => by
    obtain ⟨t, ht, q⟩ := withTruth_at S1 R1 h1
    refine ⟨t, ht, ?_⟩
    cases t with
    | true => exact ⟨F1, ρ1, κ1, δ, XD, _, S1, R.ext e1, q, P.ext e1, PX.ext e1⟩
    | false => exact P _ _ _ _ _ _ e1 S1 R1 q, PX⟩
theorem pd_or (ha : PED X W e1 a) (hb : PED X W (.BoolOp .Or (e2 :: es) pos) b) : PED X W (.BoolOp .Or (e1 :: e2 :: es) pos) (dOr a b) := pe_weak (pe_orT ha hb) fun σ H Q ⟨F, ρ, κ, δ, XD, QD, S, R, h, P, PX⟩ =>
  ⟨F, ρ, κ, δ, XD, _, S, R, h, fun F1 ρ1 κ1 H1 x v e1 S1 R1 h1 => by
    obtain ⟨t, ht, q⟩ := withTruth_at S1 R1 h1
    refine ⟨t, ht, ?_⟩
    cases t with
    | false => exact ⟨F1, ρ1, κ1, δ, XD, _, S1, R.ext e1, q, P.ext e1, PX.ext e1⟩
    | true => exact P _ _ _ _ _ _ e1 S1 R1 q, PX⟩
theorem pd_not (ha : PED X W e1 a) : PED X W (.UnaryOp .Not e1 pos) (dNot a) := pe_weak (pe_notT ha) fun σ H Q ⟨F, ρ, κ, δ, XD, QD, S, R, h, P, PX⟩ =>
  ⟨F, ρ, κ, δ, XD, _, S, R, h, fun F1 ρ1 κ1 H1 x v e1 S1 R1 h1 => by
    obtain ⟨t, ht, q⟩ := withTruth_at S1 R1 h1
    exact ⟨t, ht, P _ _ _ _ _ _ e1 S1 (.bl _) q⟩, PX⟩
theorem pd_if (ht : PTD X W e1 t) (ha : PED X W e2 a) (hb : PED X W e3 b) : PED X W (.IfExp e1 e2 e3 pos) (dIf t a b) := pe_weak (pe_ifExp ht ha hb) fun σ H Q ⟨F, ρ, κ, δ, XD, QD, S, R, h, P, PX⟩ =>
  ⟨F, ρ, κ, δ, XD, _, S, R, h, fun F1 ρ1 κ1 H1 k e1 S1 h1 => by
    cases k with
    | true => exact ⟨F1, ρ1, κ1, δ, XD, _, S1, R.ext e1, h1, P.ext e1, PX.ext e1⟩
    | false => exact ⟨F1, ρ1, κ1, δ, XD, _, S1, R.ext e1, h1, P.ext e1, PX.ext e1⟩, PX⟩
theorem lift_chain {C : Ctx} {f g : D2} {r r' : R2} (hs : Sim2 C f r) (hs' : Sim2 C g r') {σ : L2.St} {H : Hp} {Q : VK} (h : liftE C W (dChain f g a b c) σ H Q) : tChain r r' (liftE C W a) (liftE C W b) (liftE C W c) σ H Q := by
  obtain ⟨F, ρ, κ, δ, XD, QD, S, R, h, P, PX⟩ := h
  refine ⟨F, ρ, κ, δ, XD, _, S, R, h, fun F1 ρ1 κ1 H1 x v e1 S1 R1 h1 => ⟨F1, ρ1, κ1, δ, XD, _, S1, R.ext e1, h1, fun F2 ρ2 κ2 H2 y u e2 S2 R2 h2 => hs _ _ _ _ _ _ _ _ _ _ S2 (R1.ext e2) R2 h2 fun F3 ρ3 κ3 H3 z w e3 S3 R3 h3 => ?_, PX.ext e1⟩, PX⟩
  obtain ⟨k, rfl, q⟩ := h3
  cases R3
  refine ⟨k, rfl, ?_⟩
  have e123 := e1.trans (e2.trans e3)
  cases k with
  | true => exact ⟨F3, ρ3, κ3, δ, XD, _, S3, R.ext e123, q, fun F4 ρ4 κ4 H4 w u4 e4 S4 R4 h4 => hs' _ _ _ _ _ _ _ _ _ _ S4 (R2.ext (e3.trans e4)) R4 h4 (P.ext (e123.trans e4)), PX.ext e123⟩
  | false => exact P _ _ _ _ _ _ e123 S3 (.bl _) q
theorem pd_chain {op op' : CmpOp} {f g : D2} {r r' : R2} (ho : OpR X (compareOp op) r) (hs : Sim2 (CtxOf X) f r) (ho' : OpR X (compareOp op') r') (hs' : Sim2 (CtxOf X) g r') (ha : PED X W e1 a) (hb : PED X W e2 b) (hc : PED X W e3 c)
    (hm : lastMarks [op, op'] [e2, e3] = false := by with_unfolding_all rfl) : PED X W (.Compare e1 [op, op'] [e2, e3] pos) (dChain f g a b c) := pe_weak (pe_chain ho ho' ha hb hc hm) fun _ _ _ => lift_chain hs hs'
/-! tests -/
theorem lift_tBl {C : Ctx} {te : TE} {de : DE} (hl : ∀ {σ H Q}, liftE C W de σ H Q → te σ H Q) {σ : L2.St} {H : Hp} {Q : Bool → Hp → Prop} (h : liftT C W (tBl de) σ H Q) : tTest te σ H Q := by
  obtain ⟨F, ρ, κ, δ, XD, QD, S, R, h, P, PX⟩ := h
  refine hl ⟨F, ρ, κ, δ, XD, _, S, R, h, fun F1 ρ1 κ1 H1 x v e1 S1 R1 h1 => ?_, PX⟩
  obtain ⟨k, rfl, q⟩ := h1
  cases R1
  exact ⟨k, rfl, P _ _ _ _ _ e1 S1 q⟩
theorem pt_cmpD {op : CmpOp} {f : D2} {r : R2} (ho : OpR X (compareOp op) r) (hs : Sim2 (CtxOf X) f r) (ha : PED X W e1 a) (hb : PED X W e2 b) (hm : behindInMarks op e2 = false := by first | exact nomark _ | rfl) : PTD X W (.Compare e1 [op] [e2] pos) (tBl (dOp f a b)) :=
  pt_weak (pt_cmpR ho ha hb hm) fun _ _ _ => lift_tBl (lift_op hs)
theorem pt_chainD {op op' : CmpOp} {f g : D2} {r r' : R2} (ho : OpR X (compareOp op) r) (hs : Sim2 (CtxOf X) f r) (ho' : OpR X (compareOp op') r') (hs' : Sim2 (CtxOf X) g r') (ha : PED X W e1 a) (hb : PED X W e2 b) (hc : PED X W e3 c)
    (hm : lastMarks [op, op'] [e2, e3] = false := by with_unfolding_all rfl) : PTD X W (.Compare e1 [op, op'] [e2, e3] pos) (tBl (dChain f g a b c)) := pt_weak (pt_chain ho ho' ha hb hc hm) fun _ _ _ => lift_tBl (lift_chain hs hs')
theorem pt_truD (ha : PED X W e a) (he : ∀ whole, isTrue e X.env whole = (do let v ← whole; standAt e.pos; holding [v] (truthy v)) := by intro _; rfl) : PTD X W e (tTru a) := pt_weak (pt_truth ha he) fun σ H Q ⟨F, ρ, κ, δ, XD, QD, S, R, h, P, PX⟩ =>
  ⟨F, ρ, κ, δ, XD, _, S, R, h, fun F1 ρ1 κ1 H1 x v e1 S1 R1 h1 => by
    obtain ⟨t, ht, q⟩ := withTruth_at S1 R1 h1
    exact ⟨t, ht, P _ _ _ _ _ e1 S1 q⟩, PX⟩
theorem pt_notD (ha : PTD X W e t) : PTD X W (.UnaryOp .Not e pos) (tNotD t) := pt_weak (pt_not ha) fun σ H Q ⟨F, ρ, κ, δ, XD, QD, S, R, h, P, PX⟩ =>
  ⟨F, ρ, κ, δ, XD, _, S, R, h, fun F1 ρ1 κ1 H1 x e1 S1 h1 => P _ _ _ _ _ e1 S1 h1, PX⟩
abbrev PWD (X : Cx) (W : WX) (e : Expr) (dt : DT) : Prop := PW X e (liftT (CtxOf X) W dt)
theorem pw_weak {e : Expr} {t t' : TT} (h : PW X e t) (w : ∀ σ H Q, t' σ H Q → t σ H Q) : PW X e t' := ⟨fun wh pins s σ H Q I q => h.run wh pins s σ H Q I (w σ H Q q)⟩
theorem pw_and1D (ha : PTD X W e t) : PWD X W (.BoolOp .And [e] pos) t := pw_and1 ha
theorem pw_or1D (ha : PTD X W e t) : PWD X W (.BoolOp .Or [e] pos) t := pw_or1 ha
theorem pw_andD (ha : PTD X W e1 t) (hb : PWD X W (.BoolOp .And (e2 :: es) pos) u) : PWD X W (.BoolOp .And (e1 :: e2 :: es) pos) (tAndD t u) := pw_weak (pw_and ha hb) fun σ H Q ⟨F, ρ, κ, δ, XD, QD, S, R, h, P, PX⟩ =>
  ⟨F, ρ, κ, δ, XD, _, S, R, h, fun F1 ρ1 κ1 H1 k e1 S1 h1 => by
    cases k with
    | true => exact ⟨F1, ρ1, κ1, δ, XD, _, S1, R.ext e1, h1, P.ext e1, PX.ext e1⟩
    | false => exact P _ _ _ _ _ e1 S1 h1, PX⟩
theorem pw_orD (ha : PTD X W e1 t) (hb : PWD X W (.BoolOp .Or (e2 :: es) pos) u) : PWD X W (.BoolOp .Or (e1 :: e2 :: es) pos) (tOrD t u) := pw_weak (pw_or ha hb) fun σ H Q ⟨F, ρ, κ, δ, XD, QD, S, R, h, P, PX⟩ =>
  ⟨F, ρ, κ, δ, XD, _, S, R, h, fun F1 ρ1 κ1 H1 k e1 S1 h1 => by
    cases k with
    | true => exact P _ _ _ _ _ e1 S1 h1
    | false => exact ⟨F1, ρ1, κ1, δ, XD, _, S1, R.ext e1, h1, P.ext e1, PX.ext e1⟩, PX⟩
/-! built-ins by name -/
theorem pd_callB {x : Str} {p : Pos} {id : String} {f : DN} {r : List V → Hp → VK → Prop} (hc : CallR X (.builtin id) r) (hs : SimN (CtxOf X) f r) (hm : X.mg x = none) (ha : PAD X W (e :: es) as) (hg : Gl X x := by rfl) (hv : bootBuiltins x = some (.builtin id) := by decide +kernel) (hn : x ≠ "__name__" := by decide) (hdb : (x == ("__debug__" : Str)) = false := by decide)
    (he : starEach (e :: es) X.env = (false, eval e X.env) :: starEach es X.env := by rfl) (hpl : (backTo pos (starEach es X.env)).any (·.1) = false := by rfl) : PED X W (.Call (.Name x p) (e :: es) [] pos) (dB f as) :=
  pe_weak (pe_callB hc hg hm hv ha hn hdb he hpl) fun _ _ _ => lift_B hs
theorem pd_callTy {x : Str} {p : Pos} {T : String} {f : DN} {r : List V → Hp → VK → Prop} (hc : CallR X (.type T) r) (hs : SimN (CtxOf X) f r) (hm : X.mg x = none) (ha : PAD X W (e :: es) as) (hg : Gl X x := by rfl) (hv : bootBuiltins x = some (.type T) := by decide +kernel) (hn : x ≠ "__name__" := by decide) (hdb : (x == ("__debug__" : Str)) = false := by decide)
    (he : starEach (e :: es) X.env = (false, eval e X.env) :: starEach es X.env := by rfl) (hpl : (backTo pos (starEach es X.env)).any (·.1) = false := by rfl) : PED X W (.Call (.Name x p) (e :: es) [] pos) (dB f as) :=
  pe_weak (pe_callTy hc hg hm hv ha hn hdb he hpl) fun _ _ _ => lift_B hs
theorem pd_tyName {x : Str} {p : Pos} {T : String} (hm : X.mg x = none) (hg : Gl X x := by rfl) (hv : bootBuiltins x = some (.type T) := by decide +kernel) (hn : x ≠ "__name__" := by decide) (hdb : (x == ("__debug__" : Str)) = false := by decide) : PED X W (.Name x p) (dC (.ty T)) :=
  pd_c (v := .ty T) (pe_bltn hg hm hv rfl hn hdb) fun _ _ => .ty T
theorem pd_glbRef {x : Str} {p : Pos} {f : Addr} (hm : X.mg x = some (.ref f)) (hg : Gl X x := by rfl) (hdb : (x == ("__debug__" : Str)) = false := by decide) : PED X W (.Name x p) (dC (.glb x)) :=
  pd_c (v := .ref f) (pe_glob hg hm rfl hdb) fun _ _ => .glb hm
theorem pd_glbStr {x y : Str} {p : Pos} (hm : ∃ t, X.mg x = some (.str y t)) (hg : Gl X x := by rfl) (hdb : (x == ("__debug__" : Str)) = false := by decide) : PED X W (.Name x p) (dC (.str y)) := by
  obtain ⟨t, hm⟩ := hm
  exact pd_c (v := .str y) (pe_glob hg hm ⟨t, rfl⟩ hdb) fun _ _ => .str y
theorem pd_glbInt {x : Str} {i : Int} {p : Pos} (hm : ∃ t, X.mg x = some (.int i t)) (hg : Gl X x := by rfl) (hdb : (x == ("__debug__" : Str)) = false := by decide) : PED X W (.Name x p) (dC (.int i)) := by
  obtain ⟨t, hm⟩ := hm
  exact pd_c (v := .int i) (pe_glob hg hm ⟨t, rfl⟩ hdb) fun _ _ => .int i
end

/-! ### operators over data -/
theorem OpR.or {X : Cx} {f : Value → Value → Sem Value} {r r' : R2} (h : OpR X f r) (h' : OpR X f r') : OpR X f (fun x y H Q => r x y H Q ∨ r' x y H Q) := by
  intro pins s σ H x y v u Q I rx ry q
  rcases q with q | q
  · exact h pins s σ H x y v u Q I rx ry q
  · exact h' pins s σ H x y v u Q I rx ry q
theorem CallR.or {X : Cx} {f : Value} {r r' : List V → Hp → VK → Prop} (h : CallR X f r) (h' : CallR X f r') : CallR X f (fun xs H Q => r xs H Q ∨ r' xs H Q) := by
  intro pins s σ H xs us Q I rx q
  rcases q with q | q
  · exact h pins s σ H xs us Q I rx q
  · exact h' pins s σ H xs us Q I rx q
/-- two whole numbers, under a condition -/
def fI (c : Int → Int → Prop) (g : Int → Int → D) : D2 := fun x y κ Q => match x, y with
  | .int i, .int j => c i j ∧ Q (g i j) κ
  | _, _ => False
theorem sim_I {C : Ctx} {c : Int → Int → Prop} {g : Int → Int → Int} : Sim2 C (fI c fun i j => .int (g i j)) (rI c fun i j => .int (g i j)) := by
  intro F ρ κ H x y v u QD Q S rx ry h P
  cases x <;> cases y <;> first | exact h.elim | skip
  cases rx; cases ry
  exact ⟨_, _, rfl, rfl, h.1, P _ _ _ _ _ _ (Ext.refl _ _) S (.int _) h.2⟩
theorem sim_IB {C : Ctx} {g : Int → Int → Bool} : Sim2 C (fI (fun _ _ => True) fun i j => .bl (g i j)) (rI0 fun i j => .bl (g i j)) := by
  intro F ρ κ H x y v u QD Q S rx ry h P
  cases x <;> cases y <;> first | exact h.elim | skip
  cases rx; cases ry
  exact ⟨_, _, rfl, rfl, P _ _ _ _ _ _ (Ext.refl _ _) S (.bl _) h.2⟩
theorem sim_I0 {C : Ctx} {g : Int → Int → Int} : Sim2 C (fI (fun _ _ => True) fun i j => .int (g i j)) (rI0 fun i j => .int (g i j)) := by
  intro F ρ κ H x y v u QD Q S rx ry h P
  cases x <;> cases y <;> first | exact h.elim | skip
  cases rx; cases ry
  exact ⟨_, _, rfl, rfl, P _ _ _ _ _ _ (Ext.refl _ _) S (.int _) h.2⟩
/-- a floor division's divisor -/
def CDivD (_ j : Int) : Prop := j ≠ 0 ∧ j.natAbs.log2 < 9000
theorem op_fdivD {X : Cx} : OpR X (binaryOp .FloorDiv) (rI CDivD fun i j => .int (i.fdiv j)) := opI fun _ _ _ _ _ _ _ hc q => floordiv_int hc.1 q (.inl (PyProof.noPylong_of_log2 hc.2))
def fSub : D2 := fI (fun _ _ => True) fun i j => .int (i - j)
def fDiv : D2 := fI CDivD fun i j => .int (i.fdiv j)
def fMod : D2 := fI (fun _ j => j ≠ 0) fun i j => .int (i.fmod j)
def fMulI : D2 := fI CMulW fun i j => .int (i * j)
def fPow : D2 := fI CPow fun i j => .int (i ^ j.toNat)
def fShl : D2 := fI CPow fun i j => .int (i * 2 ^ j.toNat)
def fShr : D2 := fI (fun _ j => 0 ≤ j) fun i j => .int (i / 2 ^ j.toNat)
def fAnd : D2 := fI (fun _ _ => True) fun i j => .int (Builtin.bitAnd i j)
def fOr : D2 := fI (fun _ _ => True) fun i j => .int (Builtin.bitOr i j)
def fLt : D2 := fI (fun _ _ => True) fun i j => .bl (decide (i < j))
def fLe : D2 := fI (fun _ _ => True) fun i j => .bl (decide (i ≤ j))
def fGt : D2 := fI (fun _ _ => True) fun i j => .bl (decide (j < i))
def fGe : D2 := fI (fun _ _ => True) fun i j => .bl (decide (j ≤ i))
section
variable {X : Cx} {W : WX} {e1 e2 : Expr} {a b : DE} {pos : Pos}
theorem pd_sub (ha : PED X W e1 a) (hb : PED X W e2 b) : PED X W (.BinOp e1 .Sub e2 pos) (dOp fSub a b) := pd_op op_sub sim_I0 ha hb
theorem pd_fdiv (ha : PED X W e1 a) (hb : PED X W e2 b) : PED X W (.BinOp e1 .FloorDiv e2 pos) (dOp fDiv a b) := pd_op op_fdivD sim_I ha hb
theorem pd_mod (ha : PED X W e1 a) (hb : PED X W e2 b) : PED X W (.BinOp e1 .Mod e2 pos) (dOp fMod a b) := pd_op op_modN sim_I ha hb
theorem pd_mulI (ha : PED X W e1 a) (hb : PED X W e2 b) : PED X W (.BinOp e1 .Mult e2 pos) (dOp fMulI a b) := pd_op op_mulW sim_I ha hb
theorem pd_pow (ha : PED X W e1 a) (hb : PED X W e2 b) : PED X W (.BinOp e1 .Pow e2 pos) (dOp fPow a b) := pd_op op_pow sim_I ha hb
theorem pd_shl (ha : PED X W e1 a) (hb : PED X W e2 b) : PED X W (.BinOp e1 .LShift e2 pos) (dOp fShl a b) := pd_op op_shl sim_I ha hb
theorem pd_shr (ha : PED X W e1 a) (hb : PED X W e2 b) : PED X W (.BinOp e1 .RShift e2 pos) (dOp fShr a b) := pd_op op_shr sim_I ha hb
theorem pd_band (ha : PED X W e1 a) (hb : PED X W e2 b) : PED X W (.BinOp e1 .BitAnd e2 pos) (dOp fAnd a b) := pd_op op_and sim_I0 ha hb
theorem pd_bor (ha : PED X W e1 a) (hb : PED X W e2 b) : PED X W (.BinOp e1 .BitOr e2 pos) (dOp fOr a b) := pd_op op_or sim_I0 ha hb
end
/-- a + b: numbers, texts, lists, tuples; what is new is kept, or a cell -/
def fAdd (m : Bool) : D2 := fun x y κ Q => match x, y with
  | .int i, .int j => Q (.int (i + j)) κ
  | .str i, .str j => i.length + j.length ≤ sizeLine ∧ Q (.str (i ++ j)) κ
  | x, y => match view x κ, view y κ with
    | some (.lst, xs), some (.lst, ys) => xs.length + ys.length ≤ sizeLine ∧ fNew m .lst (xs ++ ys) κ Q
    | some (.tup, xs), some (.tup, ys) => xs ≠ [] ∧ ys ≠ [] ∧ xs.length + ys.length ≤ sizeLine ∧ Q (.tup (xs ++ ys)) κ
    | _, _ => False
def rAddV (K : PySem.W.Frag) : R2 := fun x y H Q => (rI0 fun i j => .int (i + j)) x y H Q ∨ (∃ i j, x = .str i ∧ y = .str j ∧ i.length + j.length ≤ sizeLine ∧ Q (.str (i ++ j)) H) ∨ rCat x y H Q ∨ rCatT K x y H Q
theorem op_addV {X : Cx} : OpR X (binaryOp .Add) (rAddV X.K) := OpR.or op_add (OpR.or op_add_str (OpR.or op_cat op_catT))
theorem sim_add {C : Ctx} {m : Bool} : Sim2 C (fAdd m) (rAddV C.K) := by
  intro F ρ κ H x y v u QD Q S rx ry h P
  have key : (match view x κ, view y κ with
    | some (.lst, xs), some (.lst, ys) => xs.length + ys.length ≤ sizeLine ∧ fNew m .lst (xs ++ ys) κ QD
    | some (.tup, xs), some (.tup, ys) => xs ≠ [] ∧ ys ≠ [] ∧ xs.length + ys.length ≤ sizeLine ∧ QD (.tup (xs ++ ys)) κ
    | _, _ => False) → rAddV C.K v u H Q := by
    intro h
    cases ex : view x κ with
    | none => rw [ex] at h; exact h.elim
    | some p =>
      cases ey : view y κ with
      | none => rw [ex, ey] at h; exact (show False by obtain ⟨k, xs⟩ := p; cases k <;> exact h).elim
      | some q =>
        obtain ⟨k, xs⟩ := p
        obtain ⟨k', ys⟩ := q
        rw [ex, ey] at h
        obtain ⟨p, vs, rfl, hk, rl⟩ := view_at S rx ex
        obtain ⟨q, us, rfl, hk', rl'⟩ := view_at S ry ey
        have l1 := rl.length
        have l2 := rl'.length
        cases k <;> cases k' <;> first | exact h.elim | skip
        · exact .inr (.inr (.inl ⟨p, q, vs, us, rfl, rfl, hk, hk', by rw [← l1, ← l2]; exact h.1, new_lst S (rl.append rl') h.2 P⟩))
        · obtain ⟨h1, h2, h3, h4⟩ := h
          refine .inr (.inr (.inr ⟨p, q, vs, us, rfl, rfl, hk, hk', ?_, by rw [← l1, ← l2]; exact h3, fun z => ?_, fun _ => new_tup S (rl.append rl') h4 P⟩))
          · intro z
            rw [z] at l1
            cases xs with
            | nil => exact h1 rfl
            | cons => simp at l1
          · rw [z] at l2
            cases ys with
            | nil => exact absurd rfl h2
            | cons => simp at l2
  cases x with
  | int i =>
    cases y with
    | int j => cases rx; cases ry; exact .inl ⟨i, j, rfl, rfl, P _ _ _ _ _ _ (Ext.refl _ _) S (.int _) h⟩
    | _ => exact key h
  | str i =>
    cases y with
    | str j => cases rx; cases ry; exact .inr (.inl ⟨i, j, rfl, rfl, h.1, P _ _ _ _ _ _ (Ext.refl _ _) S (.str _) h.2⟩)
    | _ => exact key h
  | _ => exact key h
theorem pd_add {X : Cx} {W : WX} {e1 e2 : Expr} {a b : DE} {pos : Pos} (m : Bool) (ha : PED X W e1 a) (hb : PED X W e2 b) : PED X W (.BinOp e1 .Add e2 pos) (dOp (fAdd m) a b) := pd_op op_addV sim_add ha hb
end DL

/-! DL: built-ins, subscripts, comparisons of data. -/
namespace DL
open PySem PySem.Spec PyProof.Rows L2

/-! ### data as the library's own data -/
def keyD : Key → D
  | .inl i => .int i
  | .inr x => .str x
def keyP : Key → PyData
  | .inl i => .int i
  | .inr x => .str x
mutual
inductive Pd (κ : Kap) : D → PyData → Prop
  | non : Pd κ .non .none
  | bl (b : Bool) : Pd κ (.bl b) (.bool b)
  | int (i : Int) : Pd κ (.int i) (.int i)
  | str (x : Str) : Pd κ (.str x) (.str x)
  | lst {x : D} {xs : List D} {ps : List PyData} (h : view x κ = some (.lst, xs)) (t : PdL κ xs ps) : Pd κ x (.list ps)
  | tup {x : D} {xs : List D} {ps : List PyData} (h : view x κ = some (.tup, xs)) (t : PdL κ xs ps) : Pd κ x (.tuple ps)
  | dct {x : D} {ks : List Key} {xs : List D} {ps : List PyData} (h : view x κ = some (.dct ks, xs)) (t : PdL κ xs ps) : Pd κ x (.dict ((ks.map keyP).zip ps))
inductive PdL (κ : Kap) : List D → List PyData → Prop
  | nil : PdL κ [] []
  | cons {d : D} {ds : List D} {p : PyData} {ps : List PyData} (h : Pd κ d p) (t : PdL κ ds ps) : PdL κ (d :: ds) (p :: ps)
end
mutual
def pdata : D → Option PyData
  | .non => some .none
  | .bl b => some (.bool b)
  | .int i => some (.int i)
  | .str x => some (.str x)
  | .node .lst xs => match pdataL xs with
    | some ps => some (.list ps)
    | none => none
  | .node .tup xs => match pdataL xs with
    | some ps => some (.tuple ps)
    | none => none
  | .node (.dct ks) xs => match pdataL xs with
    | some ps => some (.dict ((ks.map keyP).zip ps))
    | none => none
  | _ => none
def pdataL : List D → Option (List PyData)
  | [] => some []
  | x :: xs => match pdata x, pdataL xs with
    | some p, some ps => some (p :: ps)
    | _, _ => none
end
mutual
theorem pd_of {κ : Kap} : ∀ {x : D} {p : PyData}, pdata x = some p → Pd κ x p
  | .non, _, h => by cases h; exact .non
  | .bl b, _, h => by cases h; exact .bl b
  | .int i, _, h => by cases h; exact .int i
  | .str x, _, h => by cases h; exact .str x
  | .node .lst xs, p, h => by
    unfold pdata at h
    cases e : pdataL xs with
    | none => rw [e] at h; cases h
    | some ps => rw [e] at h; cases h; exact .lst rfl (pdL_of e)
  | .node .tup xs, p, h => by
    unfold pdata at h
    cases e : pdataL xs with
    | none => rw [e] at h; cases h
    | some ps => rw [e] at h; cases h; exact .tup rfl (pdL_of e)
  | .node (.dct ks) xs, p, h => by
    unfold pdata at h
    cases e : pdataL xs with
    | none => rw [e] at h; cases h
    | some ps => rw [e] at h; cases h; exact .dct rfl (pdL_of e)
  | .node .klst xs, p, h => by cases h
  | .node (.obj _ _) xs, p, h => by cases h
  | .node (.exc _ _) xs, p, h => by cases h
  | .ty _, _, h => by cases h
  | .glb _, _, h => by cases h
  | .cell _, _, h => by cases h
theorem pdL_of {κ : Kap} : ∀ {xs : List D} {ps : List PyData}, pdataL xs = some ps → PdL κ xs ps
  | [], _, h => by cases h; exact .nil
  | x :: xs, _, h => by
    unfold pdataL at h
    cases e1 : pdata x with
    | none => rw [e1] at h; cases h
    | some p =>
      cases e2 : pdataL xs with
      | none => rw [e1, e2] at h; cases h
      | some ps => rw [e1, e2] at h; cases h; exact .cons (pd_of e1) (pdL_of e2)
end

/-- what a rule may lean on where it stands -/
structure Good (k : Nat) (X : Cx) (W : WX) : Prop where
  tk : L2N.Takes X W
  po : PassesOwn (model X.prog X.w) X.A X.env X.xe
  rm : Room k X.A
  gd : X.A.guards = some []
  sm : ∃ o, X.base.get? sysModules = some o
  calm : X.calm = true
  nd : X.N.Nodup
theorem Good.mono {j k : Nat} {X : Cx} {W : WX} (g : Good k X W) (h : j ≤ k) : Good j X W := ⟨g.tk, g.po, g.rm.mono h, g.gd, g.sm, g.calm, g.nd⟩
section
variable {X : Cx} {pins : List (Addr × Obj)} {σ : L2.St} {H : Hp} {s : Shared} {F : Hp} {ρ : Loc0} {κ : Kap}
theorem pairs_read : ∀ {es : List DictEntry} {kvs : List (Key × Value)} {P : Program} {w : World}, Pairs (mixKind P w) es kvs → (∃ as, ReadsAll s.heap (es.map (·.key)) ((kvs.map (·.1)).map keyP) as ∧ as = []) ∧ es.map (·.val) = kvs.map (·.2)
  | _, _, _, _, .nil => ⟨⟨[], .nil, rfl⟩, rfl⟩
  | _, _, P, w, .cons (e := e) (kv := kv) h1 h2 t => by
    obtain ⟨⟨as, h3, h4⟩, h5⟩ := pairs_read t
    subst h4
    refine ⟨⟨[] ++ [], ?_, rfl⟩, ?_⟩
    · rw [List.map_cons, List.map_cons, List.map_cons]
      refine .cons ?_ h3
      have h1' : keyIs kv.1 e.key = true := h1
      rcases keyIs_shape h1' with ⟨i, t, e1, e2⟩ | ⟨x, t, e1, e2⟩
      · rw [e1, e2]; exact .int i t
      · rw [e1, e2]; exact .str x t
    · rw [List.map_cons, List.map_cons, h5, h2]
theorem kv_split : ∀ {kvs : List (Key × V)} {vs : List (Key × Value)}, KV kvs vs → vs.map (·.1) = kvs.map (·.1) ∧ Vals (kvs.map (·.2)) (vs.map (·.2))
  | _, _, .nil => ⟨rfl, .nil⟩
  | _, _, .cons r t => by
    obtain ⟨h1, h2⟩ := kv_split t
    exact ⟨by rw [List.map_cons, List.map_cons, h1, r.1], .cons r.2 h2⟩
theorem dk_zip {as : List PyData} {bs : List PyData} (h : as.length = bs.length) : (as.zip bs).map (·.1) = as ∧ (as.zip bs).map (·.2) = bs := ⟨List.map_fst_zip (Nat.le_of_eq h), List.map_snd_zip (Nat.le_of_eq h.symm)⟩
theorem PdL.length : ∀ {xs : List D} {ps : List PyData}, PdL κ xs ps → xs.length = ps.length
  | _, _, .nil => rfl
  | _, _, .cons _ t => congrArg (· + 1) (PdL.length t)
mutual
theorem Pd.reads (I : Inv X pins σ H s) (sm : H sysModules = none) (S : StR (CtxOf X) F ρ κ H) : ∀ {x : D} {p : PyData} {v : V} {u : Value}, Pd κ x p → Rep (CtxOf X) F ρ x v → RelV v u → ∃ as, Reads s.heap u p as ∧ sysModules ∉ as
  | _, _, _, _, .non, r, rv => by cases r; cases rv; exact ⟨_, .none, fun h => by cases h⟩
  | _, _, _, _, .bl b, r, rv => by cases r; cases rv; exact ⟨_, .bool b, fun h => by cases h⟩
  | _, _, _, _, .int i, r, rv => by cases r; obtain ⟨t, rfl⟩ := rv; exact ⟨_, .int i t, fun h => by cases h⟩
  | _, _, _, _, .str x, r, rv => by cases r; obtain ⟨t, rfl⟩ := rv; exact ⟨_, .str x t, fun h => by cases h⟩
  | _, _, _, _, .lst h t, r, rv => by
    obtain ⟨a, vs, rfl, hk, rl⟩ := view_at S r h
    cases rv
    obtain ⟨its, rv, ⟨o, n, ho, hc, hdd, hd⟩, _⟩ := I.list (SqL.of hk)
    obtain ⟨as, hr, hn⟩ := PdL.reads I sm S t rl rv
    refine ⟨_, .list ho hc hd hr, fun hm => ?_⟩
    rcases List.mem_cons.mp hm with e | e
    · have hk' : H a = some (.lst vs) := hk
      rw [← e, sm] at hk'; cases hk'
    · exact hn e
  | _, _, _, _, .tup h t, r, rv => by
    obtain ⟨a, vs, rfl, hk, rl⟩ := view_at S r h
    cases rv
    obtain ⟨its, rv, ⟨o, ho, hc, n, hd⟩, _⟩ := I.tuple hk
    obtain ⟨as, hr, hn⟩ := PdL.reads I sm S t rl rv
    exact ⟨_, .tuple ho hc hd hr, hn⟩
  | _, _, _, _, .dct (ks := ks) (ps := ps) h t, r, rv => by
    obtain ⟨a, vs, rfl, ⟨kvs, hk, hk1, hk2⟩, rl⟩ := view_at S r h
    cases rv
    obtain ⟨_, hsys, vals, rel, o, es, ep, ho, hx, hd, _, hp, _⟩ := dk_of I.hok hk
    obtain ⟨q1, q2⟩ := kv_split rel
    obtain ⟨⟨as, hr, h0⟩, hv⟩ := pairs_read (s := s) hp
    subst h0
    rw [hk2] at q2
    obtain ⟨bs, hr2, hn⟩ := PdL.reads I sm S t rl (hv ▸ q2)
    have hl : (ks.map keyP).length = ps.length := by
      rw [← t.length, rl.length, ← hk1, ← hk2]
      simp only [List.length_map]
    obtain ⟨z1, z2⟩ := dk_zip hl
    refine ⟨_, .dict (as := []) (bs := bs) ho hx.1 hd (by rw [z1, ← hk1, ← q1]; exact hr) (by rw [z2]; exact hr2), fun hm => ?_⟩
    have hm' : sysModules ∈ a :: bs := hm
    rcases List.mem_cons.mp hm' with e | e
    · rw [← e, sm] at hk; cases hk
    · exact hn e
theorem PdL.reads (I : Inv X pins σ H s) (sm : H sysModules = none) (S : StR (CtxOf X) F ρ κ H) : ∀ {xs : List D} {ps : List PyData} {vs : List V} {us : List Value}, PdL κ xs ps → RepL (CtxOf X) F ρ xs vs → Vals vs us → ∃ as, ReadsAll s.heap us ps as ∧ sysModules ∉ as
  | _, _, _, _, .nil, r, rv => by cases r; cases rv; exact ⟨_, .nil, fun h => by cases h⟩
  | _, _, _, _, .cons h t, r, rv => by
    cases r with
    | cons r1 r2 =>
      cases rv with
      | cons v1 v2 =>
        obtain ⟨as, q1, n1⟩ := Pd.reads I sm S h r1 v1
        obtain ⟨bs, q2, n2⟩ := PdL.reads I sm S t r2 v2
        exact ⟨_, .cons q1 q2, fun hm => (List.mem_append.mp hm).elim n1 n2⟩
end
theorem Inv.sysm (I : Inv X pins σ H s) (sm : ∃ o, X.base.get? sysModules = some o) : H sysModules = none := let ⟨o, h⟩ := sm; (I.bs _ _ h).2
end

/-- two data, a truth -/
def fDat (g : PyData → PyData → Bool) : D2 := fun x y κ Q => ∃ p q, Pd κ x p ∧ Pd κ y q ∧ SeqAt.shaped p = true ∧ SeqAt.shaped q = true ∧ Q (.bl (g p q)) κ
def rDat (C : Ctx) (g : PyData → PyData → Bool) : R2 := fun v u H Q => ∃ F ρ κ x y p q, StR C F ρ κ H ∧ Rep C F ρ x v ∧ Rep C F ρ y u ∧ Pd κ x p ∧ Pd κ y q ∧ SeqAt.shaped p = true ∧ SeqAt.shaped q = true ∧ Q (.bl (g p q)) H
theorem sim_dat {C : Ctx} {g : PyData → PyData → Bool} : Sim2 C (fDat g) (rDat C g) := fun F ρ κ H x y v u QD Q S rx ry ⟨p, q, h1, h2, h3, h4, h5⟩ P => ⟨F, ρ, κ, x, y, p, q, S, rx, ry, h1, h2, h3, h4, P _ _ _ _ _ _ (Ext.refl _ _) S (.bl _) h5⟩
/-- x in ys: data in a list or a tuple -/
def inP (d : PyData) : PyData → Bool
  | .list ds => ds.any fun z => PyData.eqv z d
  | .tuple ds => ds.any fun z => PyData.eqv z d
  | _ => false
section
variable {X : Cx} {W : WX} {k : Nat}
theorem op_eqDat (g : Good k X W) : OpR X (compareOp .Eq) (rDat (CtxOf X) PyData.eqv) := by
  intro pins s σ H x y v u Q I rx ry ⟨F, ρ, κ, dx, dy, p, q, S, r1, r2, h1, h2, h3, h4, h5⟩
  obtain ⟨as, q1, _⟩ := Pd.reads I (Inv.sysm I g.sm) S h1 r1 rx
  obtain ⟨bs, q2, _⟩ := Pd.reads I (Inv.sysm I g.sm) S h2 r2 ry
  exact SeqAt.compareEq_shaped q1 q2 h3 h4 g.rm.units ⟨.bl _, H, I, rfl, h5⟩
theorem op_neDat (g : Good k X W) : OpR X (compareOp .NotEq) (rDat (CtxOf X) fun p q => !PyData.eqv p q) := by
  intro pins s σ H x y v u Q I rx ry ⟨F, ρ, κ, dx, dy, p, q, S, r1, r2, h1, h2, h3, h4, h5⟩
  obtain ⟨as, q1, _⟩ := Pd.reads I (Inv.sysm I g.sm) S h1 r1 rx
  obtain ⟨bs, q2, _⟩ := Pd.reads I (Inv.sysm I g.sm) S h2 r2 ry
  exact SeqAt.compareNe_shaped q1 q2 h3 h4 g.rm.units ⟨.bl _, H, I, rfl, h5⟩
end
def fEq : D2 := fDat PyData.eqv
def fNe : D2 := fDat fun p q => !PyData.eqv p q
section
variable {X : Cx} {W : WX} {k : Nat} {e1 e2 : Expr} {a b : DE} {pos : Pos}
theorem pd_eq (g : Good k X W) (ha : PED X W e1 a) (hb : PED X W e2 b) : PED X W (.Compare e1 [.Eq] [e2] pos) (dOp fEq a b) := pd_cmp (op_eqDat g) sim_dat ha hb
theorem pd_ne (g : Good k X W) (ha : PED X W e1 a) (hb : PED X W e2 b) : PED X W (.Compare e1 [.NotEq] [e2] pos) (dOp fNe a b) := pd_cmp (op_neDat g) sim_dat ha hb
theorem pt_eq (g : Good k X W) (ha : PED X W e1 a) (hb : PED X W e2 b) : PTD X W (.Compare e1 [.Eq] [e2] pos) (tBl (dOp fEq a b)) := pt_cmpD (op_eqDat g) sim_dat ha hb
theorem pt_ne (g : Good k X W) (ha : PED X W e1 a) (hb : PED X W e2 b) : PTD X W (.Compare e1 [.NotEq] [e2] pos) (tBl (dOp fNe a b)) := pt_cmpD (op_neDat g) sim_dat ha hb
end

/-! ### order: numbers, texts -/
def fOrd (gi : Int → Int → Bool) (gs : Str → Str → Bool) : D2 := fun x y κ Q => match x, y with
  | .int i, .int j => Q (.bl (gi i j)) κ
  | .str i, .str j => Q (.bl (gs i j)) κ
  | _, _ => False
def rOrd (gi : Int → Int → Bool) (gs : Str → Str → Bool) : R2 := fun x y H Q => (rI0 fun i j => .bl (gi i j)) x y H Q ∨ ∃ i j, x = .str i ∧ y = .str j ∧ Q (.bl (gs i j)) H
theorem sim_ord {C : Ctx} {gi : Int → Int → Bool} {gs : Str → Str → Bool} : Sim2 C (fOrd gi gs) (rOrd gi gs) := by
  intro F ρ κ H x y v u QD Q S rx ry h P
  cases x <;> cases y <;> first | exact h.elim | skip
  · cases rx; cases ry; exact .inl ⟨_, _, rfl, rfl, P _ _ _ _ _ _ (Ext.refl _ _) S (.bl _) h⟩
  · cases rx; cases ry; exact .inr ⟨_, _, rfl, rfl, P _ _ _ _ _ _ (Ext.refl _ _) S (.bl _) h⟩
def fLtS : D2 := fOrd (fun i j => decide (i < j)) fun i j => decide (i.cps.toList < j.cps.toList)
def fLeS : D2 := fOrd (fun i j => decide (i ≤ j)) fun i j => !decide (j.cps.toList < i.cps.toList)
def fGtS : D2 := fOrd (fun i j => decide (j < i)) fun i j => decide (j.cps.toList < i.cps.toList)
def fGeS : D2 := fOrd (fun i j => decide (j ≤ i)) fun i j => !decide (i.cps.toList < j.cps.toList)
section
variable {X : Cx} {W : WX} {k : Nat} {e1 e2 e3 : Expr} {a b c : DE} {pos : Pos}
theorem op_ltS : OpR X (compareOp .Lt) (rOrd (fun i j => decide (i < j)) fun i j => decide (i.cps.toList < j.cps.toList)) := OpR.or op_lt op_lt_str
theorem op_leS : OpR X (compareOp .LtE) (rOrd (fun i j => decide (i ≤ j)) fun i j => !decide (j.cps.toList < i.cps.toList)) := OpR.or op_le op_le_str
theorem op_gtS : OpR X (compareOp .Gt) (rOrd (fun i j => decide (j < i)) fun i j => decide (j.cps.toList < i.cps.toList)) := OpR.or op_gt op_gt_str
theorem op_geS : OpR X (compareOp .GtE) (rOrd (fun i j => decide (j ≤ i)) fun i j => !decide (i.cps.toList < j.cps.toList)) := OpR.or op_ge op_ge_str
theorem pd_lt (ha : PED X W e1 a) (hb : PED X W e2 b) : PED X W (.Compare e1 [.Lt] [e2] pos) (dOp fLtS a b) := pd_cmp op_ltS sim_ord ha hb
theorem pd_le (ha : PED X W e1 a) (hb : PED X W e2 b) : PED X W (.Compare e1 [.LtE] [e2] pos) (dOp fLeS a b) := pd_cmp op_leS sim_ord ha hb
theorem pd_gt (ha : PED X W e1 a) (hb : PED X W e2 b) : PED X W (.Compare e1 [.Gt] [e2] pos) (dOp fGtS a b) := pd_cmp op_gtS sim_ord ha hb
theorem pd_ge (ha : PED X W e1 a) (hb : PED X W e2 b) : PED X W (.Compare e1 [.GtE] [e2] pos) (dOp fGeS a b) := pd_cmp op_geS sim_ord ha hb
theorem pt_lt (ha : PED X W e1 a) (hb : PED X W e2 b) : PTD X W (.Compare e1 [.Lt] [e2] pos) (tBl (dOp fLtS a b)) := pt_cmpD op_ltS sim_ord ha hb
theorem pt_le (ha : PED X W e1 a) (hb : PED X W e2 b) : PTD X W (.Compare e1 [.LtE] [e2] pos) (tBl (dOp fLeS a b)) := pt_cmpD op_leS sim_ord ha hb
theorem pt_gt (ha : PED X W e1 a) (hb : PED X W e2 b) : PTD X W (.Compare e1 [.Gt] [e2] pos) (tBl (dOp fGtS a b)) := pt_cmpD op_gtS sim_ord ha hb
theorem pt_ge (ha : PED X W e1 a) (hb : PED X W e2 b) : PTD X W (.Compare e1 [.GtE] [e2] pos) (tBl (dOp fGeS a b)) := pt_cmpD op_geS sim_ord ha hb
end

/-! ### is -/
def isNon : D → Bool
  | .non => true
  | _ => false
def fIs : D2 := fun x y κ Q => y = .non ∧ Q (.bl (isNon x)) κ
def fIsNot : D2 := fun x y κ Q => y = .non ∧ Q (.bl (!isNon x)) κ
theorem isNon_at {C : Ctx} {F : Hp} {ρ : Loc0} {x : D} {v : V} (r : Rep C F ρ x v) : decide (v = .non) = isNon x := by
  cases r <;> rfl
section
variable {X : Cx} {W : WX} {k : Nat} {e1 e2 : Expr} {a b : DE} {pos : Pos}
theorem sim_is {C : Ctx} : Sim2 C fIs (fun x y H Q => y = .non ∧ Q (.bl (decide (x = .non))) H) := fun F ρ κ H x y v u QD Q S rx ry ⟨h1, h2⟩ P => by
  subst h1; cases ry
  exact ⟨rfl, P _ _ _ _ _ _ (Ext.refl _ _) S (.bl _) (by rw [isNon_at rx]; exact h2)⟩
theorem sim_isNot {C : Ctx} : Sim2 C fIsNot (fun x y H Q => y = .non ∧ Q (.bl (!decide (x = .non))) H) := fun F ρ κ H x y v u QD Q S rx ry ⟨h1, h2⟩ P => by
  subst h1; cases ry
  exact ⟨rfl, P _ _ _ _ _ _ (Ext.refl _ _) S (.bl _) (by rw [isNon_at rx]; exact h2)⟩
theorem pd_is (ha : PED X W e1 a) (hb : PED X W e2 b) : PED X W (.Compare e1 [.Is] [e2] pos) (dOp fIs a b) := pd_cmp op_isN sim_is ha hb
theorem pd_isNot (ha : PED X W e1 a) (hb : PED X W e2 b) : PED X W (.Compare e1 [.IsNot] [e2] pos) (dOp fIsNot a b) := pd_cmp op_notN sim_isNot ha hb
theorem pt_is (ha : PED X W e1 a) (hb : PED X W e2 b) : PTD X W (.Compare e1 [.Is] [e2] pos) (tBl (dOp fIs a b)) := pt_cmpD op_isN sim_is ha hb
theorem pt_isNot (ha : PED X W e1 a) (hb : PED X W e2 b) : PTD X W (.Compare e1 [.IsNot] [e2] pos) (tBl (dOp fIsNot a b)) := pt_cmpD op_notN sim_isNot ha hb
end

/-! ### in -/
def strIn (i j : Str) : Bool := !(Builtin.Str.occurrences j i 0 j.length 1).isEmpty
def fIn (neg : Bool) : D2 := fun x y κ Q => match x, y with
  | .str i, .str j => Q (.bl (if neg then !strIn i j else strIn i j)) κ
  | x, y => ∃ p q, Pd κ x p ∧ Pd κ y q ∧ SeqAt.shaped p = true ∧ SeqAt.shaped q = true ∧ (∃ ds, q = .list ds ∨ q = .tuple ds) ∧ Q (.bl (if neg then !inP p q else inP p q)) κ
def rInP (C : Ctx) (neg : Bool) : R2 := fun v u H Q => (∃ i j, v = .str i ∧ u = .str j ∧ Q (.bl (if neg then !strIn i j else strIn i j)) H) ∨
  ∃ F ρ κ x y p q, StR C F ρ κ H ∧ Rep C F ρ x v ∧ Rep C F ρ y u ∧ Pd κ x p ∧ Pd κ y q ∧ SeqAt.shaped p = true ∧ SeqAt.shaped q = true ∧ (∃ ds, q = .list ds ∨ q = .tuple ds) ∧ Q (.bl (if neg then !inP p q else inP p q)) H
theorem sim_in {C : Ctx} {neg : Bool} : Sim2 C (fIn neg) (rInP C neg) := by
  intro F ρ κ H x y v u QD Q S rx ry h P
  have key : (∃ p q, Pd κ x p ∧ Pd κ y q ∧ SeqAt.shaped p = true ∧ SeqAt.shaped q = true ∧ (∃ ds, q = .list ds ∨ q = .tuple ds) ∧ QD (.bl (if neg then !inP p q else inP p q)) κ) → rInP C neg v u H Q :=
    fun ⟨p, q, h1, h2, h3, h4, h5, h6⟩ => .inr ⟨F, ρ, κ, x, y, p, q, S, rx, ry, h1, h2, h3, h4, h5, P _ _ _ _ _ _ (Ext.refl _ _) S (.bl _) h6⟩
  cases x with
  | str i =>
    cases y with
    | str j => cases rx; cases ry; exact .inl ⟨i, j, rfl, rfl, P _ _ _ _ _ _ (Ext.refl _ _) S (.bl _) h⟩
    | _ => exact key h
  | _ => exact key h
section
variable {X : Cx} {W : WX} {k : Nat} {e1 e2 : Expr} {a b : DE} {pos : Pos}
theorem room65 {A : Around} (h : Room k A) : A.units + 65 < cLine := by have := h.un; omega
theorem op_inP (g : Good k X W) : OpR X (compareOp .In) (rInP (CtxOf X) false) := by
  intro pins s σ H x y v u Q I rx ry h
  rcases h with h | ⟨F, ρ, κ, dx, dy, p, q, S, r1, r2, h1, h2, h3, h4, ⟨ds, e⟩, h5⟩
  · exact op_in_str pins s σ H x y v u Q I rx ry h
  · obtain ⟨as, q1, _⟩ := Pd.reads I (Inv.sysm I g.sm) S h1 r1 rx
    obtain ⟨bs, q2, _⟩ := Pd.reads I (Inv.sysm I g.sm) S h2 r2 ry
    rcases e with e | e
    · subst e
      exact SeqAt.in_list_reads q2 q1 (SeqAt.canLay_of_shaped h4) (SeqAt.canLay_of_shaped h3) (room_in_shaped h3 (room65 g.rm)) ⟨.bl _, H, I, rfl, h5⟩
    · subst e
      exact SeqAt.in_tuple_reads q2 q1 (SeqAt.canLay_of_shaped h4) (SeqAt.canLay_of_shaped h3) (room_in_shaped h3 (room65 g.rm)) ⟨.bl _, H, I, rfl, h5⟩
theorem op_notInP (g : Good k X W) : OpR X (compareOp .NotIn) (rInP (CtxOf X) true) := by
  intro pins s σ H x y v u Q I rx ry h
  rcases h with h | ⟨F, ρ, κ, dx, dy, p, q, S, r1, r2, h1, h2, h3, h4, ⟨ds, e⟩, h5⟩
  · exact op_notIn_str pins s σ H x y v u Q I rx ry h
  · obtain ⟨as, q1, _⟩ := Pd.reads I (Inv.sysm I g.sm) S h1 r1 rx
    obtain ⟨bs, q2, _⟩ := Pd.reads I (Inv.sysm I g.sm) S h2 r2 ry
    rcases e with e | e
    · subst e
      exact SeqAt.notIn_list_reads q2 q1 (SeqAt.canLay_of_shaped h4) (SeqAt.canLay_of_shaped h3) (room_in_shaped h3 (room65 g.rm)) ⟨.bl _, H, I, rfl, h5⟩
    · subst e
      exact SeqAt.notIn_tuple_reads q2 q1 (SeqAt.canLay_of_shaped h4) (SeqAt.canLay_of_shaped h3) (room_in_shaped h3 (room65 g.rm)) ⟨.bl _, H, I, rfl, h5⟩
theorem pd_in (g : Good k X W) (ha : PED X W e1 a) (hb : PED X W e2 b) (hm : behindInMarks .In e2 = false := by rfl) : PED X W (.Compare e1 [.In] [e2] pos) (dOp (fIn false) a b) := pd_cmp (op_inP g) sim_in ha hb hm
theorem pd_notIn (g : Good k X W) (ha : PED X W e1 a) (hb : PED X W e2 b) (hm : behindInMarks .NotIn e2 = false := by rfl) : PED X W (.Compare e1 [.NotIn] [e2] pos) (dOp (fIn true) a b) := pd_cmp (op_notInP g) sim_in ha hb hm
theorem pt_in (g : Good k X W) (ha : PED X W e1 a) (hb : PED X W e2 b) (hm : behindInMarks .In e2 = false := by rfl) : PTD X W (.Compare e1 [.In] [e2] pos) (tBl (dOp (fIn false) a b)) := pt_cmpD (op_inP g) sim_in ha hb hm
theorem pt_notIn (g : Good k X W) (ha : PED X W e1 a) (hb : PED X W e2 b) (hm : behindInMarks .NotIn e2 = false := by rfl) : PTD X W (.Compare e1 [.NotIn] [e2] pos) (tBl (dOp (fIn true) a b)) := pt_cmpD (op_notInP g) sim_in ha hb hm
end

/-! ### subscripts -/
def fIx : D2 := fun x y κ Q => match x, y with
  | .str z, .int i => z.length ≤ sizeLine ∧ ∃ c, atI z.cps.toList i = some c ∧ Q (.str ⟨#[c]⟩) κ
  | x, .int i => match view x κ with
    | some (.lst, xs) => ∃ d, atI xs i = some d ∧ Q d κ
    | some (.tup, xs) => ∃ d, atI xs i = some d ∧ Q d κ
    | some (.klst, xs) => ∃ d, atI xs i = some d ∧ Q d κ
    | _ => False
  | _, _ => False
theorem atI_at {C : Ctx} {F : Hp} {ρ : Loc0} {xs : List D} {vs : List V} {i : Int} {d : D} (r : RepL C F ρ xs vs) (h : atI xs i = some d) : ∃ v, atI vs i = some v ∧ Rep C F ρ d v := by
  unfold atI at h ⊢
  rw [← r.length]
  cases e : ixN xs.length i with
  | none => rw [e] at h; cases h
  | some j =>
    rw [e] at h
    exact r.get h
theorem sim_ix {C : Ctx} : Sim2 C fIx (rIx C.K) := by
  intro F ρ κ H x y v u QD Q S rx ry h P
  have hy : ∃ i, y = .int i := by
    cases y <;> first | exact ⟨_, rfl⟩ | (exfalso; cases x <;> exact h)
  obtain ⟨i, rfl⟩ := hy
  cases ry
  have key : (match view x κ with
    | some (.lst, xs) => ∃ d, atI xs i = some d ∧ QD d κ
    | some (.tup, xs) => ∃ d, atI xs i = some d ∧ QD d κ
    | some (.klst, xs) => ∃ d, atI xs i = some d ∧ QD d κ
    | _ => False) → rIx C.K v (.int i) H Q := by
    intro h
    cases ex : view x κ with
    | none => rw [ex] at h; exact h.elim
    | some p =>
      obtain ⟨k, xs⟩ := p
      rw [ex] at h
      obtain ⟨p, vs, rfl, hk, rl⟩ := view_at S rx ex
      cases k <;> first | exact h.elim | skip
      · obtain ⟨d, h1, h2⟩ := h
        obtain ⟨v, h3, h4⟩ := atI_at rl h1
        exact .inl ⟨p, vs, i, v, rfl, rfl, SqL.of hk, h3, P _ _ _ _ _ _ (Ext.refl _ _) S h4 h2⟩
      · obtain ⟨d, h1, h2⟩ := h
        obtain ⟨v, h3, h4⟩ := atI_at rl h1
        exact .inr (.inl ⟨p, vs, i, v, rfl, rfl, hk, h3, P _ _ _ _ _ _ (Ext.refl _ _) S h4 h2⟩)
      · obtain ⟨d, h1, h2⟩ := h
        obtain ⟨v, h3, h4⟩ := atI_at rl h1
        exact .inl ⟨p, vs, i, v, rfl, rfl, hk, h3, P _ _ _ _ _ _ (Ext.refl _ _) S h4 h2⟩
  cases x with
  | str z =>
    cases rx
    obtain ⟨h1, c, h2, h3⟩ := h
    exact .inr (.inr ⟨z, i, c, rfl, rfl, h1, h2, P _ _ _ _ _ _ (Ext.refl _ _) S (.str _) h3⟩)
  | _ => exact key h
section
variable {X : Cx} {W : WX} {k : Nat} {e1 e2 : Expr} {a b : DE} {pos p2 : Pos}
theorem pd_ix (ha : PED X W e1 a) (hb : PED X W e2 b) (hs : PlainIx e2 := by exact fun _ _ => rfl) : PED X W (.Subscript e1 e2 pos) (dOp fIx a b) := pe_weak (pe_ix ix_seq ha hb hs) fun _ _ _ => lift_op sim_ix
end
/-! slices -/
abbrev DO := DEnv → Kap → DX → (Option Int → Kap → Prop) → Prop
def dNo : DO := fun _ κ _ Q => Q none κ
def dPart (a : DE) : DO := fun δ κ X Q => a δ κ X fun x κ1 => ∃ i, x = .int i ∧ Q (some i) κ1
def liftO (C : Ctx) (W : WX) (d : DO) : TO := fun σ H Q => ∃ F ρ κ δ XD QD, StR C F ρ κ H ∧ RepS C F ρ δ σ ∧ d δ κ XD QD ∧ (∀ F' ρ' κ' H' b, Ext F ρ F' ρ' → StR C F' ρ' κ' H' → QD b κ' → Q b H') ∧ PostX C F ρ XD W
theorem po_weak {X : Cx} {e : Option Expr} {t t' : TO} (h : PO X e t) (w : ∀ σ H Q, t' σ H Q → t σ H Q) : PO X e t' := ⟨fun pins s σ H Q I q => h.run pins s σ H Q I (w σ H Q q)⟩
abbrev POD (X : Cx) (W : WX) (e : Option Expr) (d : DO) : Prop := PO X e (liftO (CtxOf X) W d)
theorem po_noD {X : Cx} {W : WX} : POD X W none dNo := po_weak po_none fun σ H Q ⟨F, ρ, κ, δ, XD, QD, S, R, h, P, PX⟩ => P _ _ _ _ _ (Ext.refl _ _) S h
theorem po_partD {X : Cx} {W : WX} {e : Expr} {a : DE} (ha : PED X W e a) : POD X W (some e) (dPart a) := po_weak (po_some ha) fun σ H Q ⟨F, ρ, κ, δ, XD, QD, S, R, h, P, PX⟩ =>
  ⟨F, ρ, κ, δ, XD, _, S, R, h, fun F1 ρ1 κ1 H1 x v e1 S1 R1 ⟨i, hx, h1⟩ => by
    subst hx
    cases R1
    exact ⟨i, rfl, P _ _ _ _ _ e1 S1 h1⟩, PX⟩
def cutD (xs : List D) (lo hi : Option Int) : List D := (xs.drop (HT.sIx xs.length 0 lo)).take (HT.sIx xs.length xs.length hi - HT.sIx xs.length 0 lo)
theorem cut_at {C : Ctx} {F : Hp} {ρ : Loc0} {xs : List D} {vs : List V} (r : RepL C F ρ xs vs) (lo hi : Option Int) : RepL C F ρ (cutD xs lo hi) (cutV vs lo hi) := by
  unfold cutD cutV
  rw [r.length]
  exact (r.drop _).take _
def fSl (m : Bool) (x : D) (lo hi : Option Int) (κ : Kap) (Q : DQ) : Prop := match x with
  | .str z => z.length ≤ sizeLine ∧ Q (.str (cutS z lo hi)) κ
  | x => match view x κ with
    | some (.lst, xs) => fNew m .lst (cutD xs lo hi) κ Q
    | _ => False
def dSl (m : Bool) (a : DE) (lo hi : DO) : DE := fun δ κ X Q => a δ κ X fun x κ1 => lo δ κ1 X fun i κ2 => hi δ κ2 X fun j κ3 => fSl m x i j κ3 Q
theorem pd_sl {X : Cx} {W : WX} {e1 : Expr} {lo hi : Option Expr} {a : DE} {dl dh : DO} {pos p2 : Pos} (m : Bool) (ha : PED X W e1 a) (hl : POD X W lo dl) (hh : POD X W hi dh) : PED X W (.Subscript e1 (.Slice lo hi none p2) pos) (dSl m a dl dh) :=
  pe_weak (pe_slice (SlR.or sl_str sl_list) ha hl hh) fun σ H Q ⟨F, ρ, κ, δ, XD, QD, S, R, h, P, PX⟩ =>
  ⟨F, ρ, κ, δ, XD, _, S, R, h, fun F1 ρ1 κ1 H1 x v e1 S1 R1 h1 => ⟨F1, ρ1, κ1, δ, XD, _, S1, R.ext e1, h1, fun F2 ρ2 κ2 H2 i e2 S2 h2 => ⟨F2, ρ2, κ2, δ, XD, _, S2, R.ext (e1.trans e2), h2, fun F3 ρ3 κ3 H3 j e3 S3 h3 => by
    have e123 := e1.trans (e2.trans e3)
    have R3 := R1.ext (e2.trans e3)
    have key : (match view x κ3 with
      | some (.lst, xs) => fNew m .lst (cutD xs i j) κ3 QD
      | _ => False) → rSlS v i j H3 Q ∨ rSlL X.K v i j H3 Q := fun h => by
      cases ex : view x κ3 with
      | none => rw [ex] at h; exact h.elim
      | some p =>
        obtain ⟨k, xs⟩ := p
        rw [ex] at h
        obtain ⟨p, vs, rfl, hk, rl⟩ := view_at S3 R3 ex
        cases k <;> first | exact h.elim | skip
        exact .inr ⟨p, vs, rfl, SqL.of hk, new_lst S3 (cut_at rl i j) h (P.ext e123)⟩
    cases x with
    | str z =>
      cases R3
      exact .inl ⟨z, rfl, h3.1, P _ _ _ _ _ _ e123 S3 (.str _) h3.2⟩
    | _ => exact key h3, PX.ext (e1.trans e2)⟩, PX.ext e1⟩, PX⟩

/-! ### built-ins -/
def fLen : DN := fun xs κ Q => match xs with
  | [.str y] => y.length ≤ sizeLine ∧ Q (.int (y.length : Nat)) κ
  | [x] => match view x κ with
    | some (.lst, xs) => Q (.int (xs.length : Nat)) κ
    | some (.tup, xs) => Q (.int (xs.length : Nat)) κ
    | some (.klst, xs) => Q (.int (xs.length : Nat)) κ
    | _ => False
  | _ => False
theorem repL1 {C : Ctx} {F : Hp} {ρ : Loc0} {x : D} {vs : List V} (r : RepL C F ρ [x] vs) : ∃ v, vs = [v] ∧ Rep C F ρ x v := by
  cases r with
  | cons h t => cases t; exact ⟨_, rfl, h⟩
theorem repL2 {C : Ctx} {F : Hp} {ρ : Loc0} {x y : D} {vs : List V} (r : RepL C F ρ [x, y] vs) : ∃ v u, vs = [v, u] ∧ Rep C F ρ x v ∧ Rep C F ρ y u := by
  cases r with
  | cons h t =>
    obtain ⟨u, rfl, hu⟩ := repL1 t
    exact ⟨_, _, rfl, h, hu⟩
theorem sim_len {C : Ctx} : SimN C fLen (fun xs H Q => ∃ x n, xs = [x] ∧ LenV C.K x H n ∧ Q (.int n) H) := by
  intro F ρ κ H xs vs QD Q S r h P
  match xs, h with
  | [x], h =>
    obtain ⟨v, rfl, rx⟩ := repL1 r
    have key : (match view x κ with
      | some (.lst, xs) => QD (.int (xs.length : Nat)) κ
      | some (.tup, xs) => QD (.int (xs.length : Nat)) κ
      | some (.klst, xs) => QD (.int (xs.length : Nat)) κ
      | _ => False) → ∃ x n, [v] = [x] ∧ LenV C.K x H n ∧ Q (.int n) H := by
      intro h
      cases ex : view x κ with
      | none => rw [ex] at h; exact h.elim
      | some p =>
        obtain ⟨k, xs⟩ := p
        rw [ex] at h
        obtain ⟨p, vs, rfl, hk, rl⟩ := view_at S rx ex
        have l := rl.length
        cases k <;> first | exact h.elim | skip
        · exact ⟨_, _, rfl, .inl ⟨vs, SqL.of hk, rfl⟩, P _ _ _ _ _ _ (Ext.refl _ _) S (.int _) (by rw [← l]; exact h)⟩
        · exact ⟨_, _, rfl, .inr ⟨vs, hk, rfl⟩, P _ _ _ _ _ _ (Ext.refl _ _) S (.int _) (by rw [← l]; exact h)⟩
        · exact ⟨_, _, rfl, .inl ⟨vs, hk, rfl⟩, P _ _ _ _ _ _ (Ext.refl _ _) S (.int _) (by rw [← l]; exact h)⟩
    cases x with
    | str y => cases rx; exact ⟨_, _, rfl, ⟨h.1, rfl⟩, P _ _ _ _ _ _ (Ext.refl _ _) S (.int _) h.2⟩
    | _ => exact key h
  | x :: y :: r, h => exfalso; cases x <;> exact h
def fAbs : DN := fun xs κ Q => match xs with
  | [.int i] => Q (.int (if i < 0 then -i else i)) κ
  | _ => False
theorem sim_abs {C : Ctx} : SimN C fAbs (fun xs H Q => ∃ i, xs = [.int i] ∧ Q (.int (if i < 0 then -i else i)) H) := by
  intro F ρ κ H xs vs QD Q S r h P
  match xs, h with
  | [.int i], h =>
    obtain ⟨v, rfl, rx⟩ := repL1 r
    cases rx
    exact ⟨i, rfl, P _ _ _ _ _ _ (Ext.refl _ _) S (.int _) h⟩
def fMax2 : DN := fun xs κ Q => match xs with
  | [.int i, .int j] => Q (.int (if j > i then j else i)) κ
  | _ => False
def fMin2 : DN := fun xs κ Q => match xs with
  | [.int i, .int j] => Q (.int (if j < i then j else i)) κ
  | _ => False
theorem sim_max2 {C : Ctx} : SimN C fMax2 (fun xs H Q => ∃ i j, xs = [.int i, .int j] ∧ Q (.int (if j > i then j else i)) H) := by
  intro F ρ κ H xs vs QD Q S r h P
  match xs, h with
  | [.int i, .int j], h =>
    obtain ⟨v, u, rfl, rx, ry⟩ := repL2 r
    cases rx; cases ry
    exact ⟨i, j, rfl, P _ _ _ _ _ _ (Ext.refl _ _) S (.int _) h⟩
theorem sim_min2 {C : Ctx} : SimN C fMin2 (fun xs H Q => ∃ i j, xs = [.int i, .int j] ∧ Q (.int (if j < i then j else i)) H) := by
  intro F ρ κ H xs vs QD Q S r h P
  match xs, h with
  | [.int i, .int j], h =>
    obtain ⟨v, u, rfl, rx, ry⟩ := repL2 r
    cases rx; cases ry
    exact ⟨i, j, rfl, P _ _ _ _ _ _ (Ext.refl _ _) S (.int _) h⟩
/-- str(x): of a number, of a text -/
def fStr : DN := fun xs κ Q => match xs with
  | [.int i] => i.natAbs.log2 < 1920 ∧ Q (.str (toString i)) κ
  | [.str y] => Q (.str y) κ
  | _ => False
theorem sim_str {C : Ctx} : SimN C fStr (fun xs H Q => (∃ i, xs = [.int i] ∧ i.natAbs.log2 < 1920 ∧ Q (.str (toString i)) H) ∨ ∃ a, xs = [.str a] ∧ Q (.str a) H) := by
  intro F ρ κ H xs vs QD Q S r h P
  match xs, h with
  | [.int i], h =>
    obtain ⟨v, rfl, rx⟩ := repL1 r
    cases rx
    exact .inl ⟨i, rfl, h.1, P _ _ _ _ _ _ (Ext.refl _ _) S (.str _) h.2⟩
  | [.str i], h =>
    obtain ⟨v, rfl, rx⟩ := repL1 r
    cases rx
    exact .inr ⟨i, rfl, P _ _ _ _ _ _ (Ext.refl _ _) S (.str _) h⟩
/-- int(x): of a number, of a truth -/
def fInt : DN := fun xs κ Q => match xs with
  | [.int i] => Q (.int i) κ
  | [.bl b] => Q (.int (if b then 1 else 0)) κ
  | _ => False
theorem sim_int {C : Ctx} : SimN C fInt (fun xs H Q => (∃ i, xs = [.int i] ∧ Q (.int i) H) ∨ ∃ k, xs = [.bl k] ∧ Q (.int (if k then 1 else 0)) H) := by
  intro F ρ κ H xs vs QD Q S r h P
  match xs, h with
  | [.int i], h =>
    obtain ⟨v, rfl, rx⟩ := repL1 r
    cases rx
    exact .inl ⟨i, rfl, P _ _ _ _ _ _ (Ext.refl _ _) S (.int _) h⟩
  | [.bl i], h =>
    obtain ⟨v, rfl, rx⟩ := repL1 r
    cases rx
    exact .inr ⟨i, rfl, P _ _ _ _ _ _ (Ext.refl _ _) S (.int _) h⟩
/-- all, any of a list of truths -/
def fAllB : DN := fun xs κ Q => match xs with
  | [x] => ∃ bs : List Bool, view x κ = some (.lst, bs.map D.bl) ∧ Q (.bl (bs.all id)) κ
  | _ => False
def fAnyB : DN := fun xs κ Q => match xs with
  | [x] => ∃ bs : List Bool, view x κ = some (.lst, bs.map D.bl) ∧ Q (.bl (bs.any id)) κ
  | _ => False
theorem sim_all {C : Ctx} : SimN C fAllB (rAll C.K) := by
  intro F ρ κ H xs vs QD Q S r h P
  match xs, h with
  | [x], ⟨bs, ex, h⟩ =>
    obtain ⟨v, rfl, rx⟩ := repL1 r
    obtain ⟨p, vs, rfl, hk, rl⟩ := view_at S rx ex
    have e := rl.bls
    subst e
    exact ⟨p, bs, rfl, SqL.of hk, P _ _ _ _ _ _ (Ext.refl _ _) S (.bl _) h⟩
theorem sim_any {C : Ctx} : SimN C fAnyB (rAny C.K) := by
  intro F ρ κ H xs vs QD Q S r h P
  match xs, h with
  | [x], ⟨bs, ex, h⟩ =>
    obtain ⟨v, rfl, rx⟩ := repL1 r
    obtain ⟨p, vs, rfl, hk, rl⟩ := view_at S rx ex
    have e := rl.bls
    subst e
    exact ⟨p, bs, rfl, SqL.of hk, P _ _ _ _ _ _ (Ext.refl _ _) S (.bl _) h⟩
/-- repr of data -/
def fRepr : DN := fun xs κ Q => match xs with
  | [x] => ∃ p, Pd κ x p ∧ p.showable = true ∧ p.depth ≤ 60 ∧ p.shown.length ≤ sizeLine ∧ Q (.str p.shown) κ
  | _ => False
def rRepr (C : Ctx) : List V → Hp → VK → Prop := fun vs H Q => ∃ F ρ κ x v p, vs = [v] ∧ StR C F ρ κ H ∧ Rep C F ρ x v ∧ Pd κ x p ∧ p.showable = true ∧ p.depth ≤ 60 ∧ p.shown.length ≤ sizeLine ∧ Q (.str p.shown) H
theorem sim_repr {C : Ctx} : SimN C fRepr (rRepr C) := by
  intro F ρ κ H xs vs QD Q S r h P
  match xs, h with
  | [x], ⟨p, h1, h2, h3, h4, h5⟩ =>
    obtain ⟨v, rfl, rx⟩ := repL1 r
    exact ⟨F, ρ, κ, x, v, p, rfl, S, rx, h1, h2, h3, h4, P _ _ _ _ _ _ (Ext.refl _ _) S (.str _) h5⟩
section
variable {X : Cx} {W : WX} {k : Nat} {e : Expr} {es : List Expr} {a b : DE} {as : DA} {pos p : Pos}
theorem call_reprD (g : Good k X W) : CallR X (.builtin "repr") (rRepr (CtxOf X)) := by
  intro pins s σ H xs us Q I r ⟨F, ρ, κ, x, v, p, e, S, rx, h1, h2, h3, h4, h5⟩
  subst e
  obtain ⟨u, rfl, rv⟩ := vals1 r
  have hu : X.A.units + (p.depth + 1) < cLine := by have := g.rm.units; omega
  obtain ⟨as, hr, hn⟩ := Pd.reads I (Inv.sysm I g.sm) S h1 rx rv
  cases hr with
  | none => exact PySem.P.repr_of_none ⟨.str _, H, I.tok _, ⟨_, rfl⟩, h5⟩
  | bool b => exact PySem.P.repr_of_bool ⟨.str _, H, I.tok _, ⟨_, rfl⟩, h5⟩
  | int i t => exact PySem.P.repr_of_int (of_decide_eq_true h2) ⟨.str _, H, I.tok _, ⟨_, rfl⟩, h5⟩
  | str x t => exact PySem.P.repr_of_str ⟨.str _, H, I.tok _, ⟨_, rfl⟩, h5⟩ h4
  | list q1 q2 q3 q4 => exact repr_of_reads' (.list q1 q2 q3 q4) h2 (fun _ => hn) g.gd hu (fun _ _ e => e) (fun h' u tk hk => ⟨.str _, H, I.kept hk, ⟨_, rfl⟩, h5⟩) h4
  | tuple q1 q2 q3 q4 => exact repr_of_reads' (.tuple q1 q2 q3 q4) h2 (fun _ => hn) g.gd hu (fun _ _ e => e) (fun h' u tk hk => ⟨.str _, H, I.kept hk, ⟨_, rfl⟩, h5⟩) h4
  | dict q1 q2 q3 q4 q5 => exact repr_of_reads' (.dict q1 q2 q3 q4 q5) h2 (fun _ => hn) g.gd hu (fun _ _ e => e) (fun h' u tk hk => ⟨.str _, H, I.kept hk, ⟨_, rfl⟩, h5⟩) h4
end
end DL

/-! DL: statements, loops, comprehensions. -/
namespace DL
open PySem PySem.Spec PyProof.Rows L2

/-! ### targets -/
abbrev DG := D → DEnv → Kap → DX → (DEnv → Kap → Prop) → Prop
abbrev DGs := List D → DEnv → Kap → DX → (DEnv → Kap → Prop) → Prop
def liftG (C : Ctx) (W : WX) (g : DG) : TG := fun v σ H Q => ∃ F ρ κ δ d XD QD, StR C F ρ κ H ∧ RepS C F ρ δ σ ∧ Rep C F ρ d v ∧ g d δ κ XD QD ∧ PostN C F ρ QD Q ∧ PostX C F ρ XD W
def liftGs (C : Ctx) (W : WX) (g : DGs) : TGs := fun vs σ H Q => ∃ F ρ κ δ ds XD QD, StR C F ρ κ H ∧ RepS C F ρ δ σ ∧ RepL C F ρ ds vs ∧ g ds δ κ XD QD ∧ PostN C F ρ QD Q ∧ PostX C F ρ XD W
abbrev PGD (X : Cx) (W : WX) (e : Expr) (g : DG) : Prop := PG X e (liftG (CtxOf X) W g)
abbrev PGsD (X : Cx) (W : WX) (es : List Expr) (g : DGs) : Prop := PGs X es (liftGs (CtxOf X) W g)
def gN (i : Nat) : DG := fun d δ κ _ Q => Q (δ.set i (some d)) κ
def gNilD : DGs := fun ds δ κ _ Q => ds = [] ∧ Q δ κ
def gConsD (g : DG) (r : DGs) : DGs := fun ds δ κ X Q => match ds with
  | d :: ds => g d δ κ X fun δ1 κ1 => r ds δ1 κ1 X Q
  | [] => False
def gTupD (n : Nat) (g : DGs) : DG := fun d δ κ X Q => ∃ xs, view d κ = some (.tup, xs) ∧ xs.length = n ∧ g xs δ κ X Q
section
variable {X : Cx} {W : WX} {e : Expr} {es : List Expr} {g : DG} {r : DGs} {pos : Pos}
theorem pg_weak {t t' : TG} (h : PG X e t) (w : ∀ v σ H Q, t' v σ H Q → t v σ H Q) : PG X e t' := ⟨fun pins s σ H x u Q I rx q => h.run pins s σ H x u Q I rx (w _ _ _ _ q)⟩
theorem pgs_weak {t t' : TGs} (h : PGs X es t) (w : ∀ v σ H Q, t' v σ H Q → t v σ H Q) : PGs X es t' := ⟨fun pins s σ H x u Q I rx q => h.run pins s σ H x u Q I rx (w _ _ _ _ q)⟩
theorem pg_nameD {i : Nat} {x : Str} (hN : X.N.Nodup) (hi : X.N[i]? = some x := by rfl) (hx : L2.Loc X.env.scope x := by first | exact Or.inl rfl | exact Or.inr rfl) (hf : X.fn x = true ∨ X.env.scope.names.lookup x = some .local := by first | exact .inl rfl | exact .inr rfl | assumption) : PGD X W (.Name x pos) (gN i) :=
  pg_weak (pg_name hN hi hx hf) fun v σ H Q ⟨F, ρ, κ, δ, d, XD, QD, S, R, r, h, P, PX⟩ => P _ _ _ _ _ _ (Ext.refl _ _) S (R.set r i) h
theorem pgs_nilD : PGsD X W [] gNilD := pgs_weak pgs_nil fun v σ H Q ⟨F, ρ, κ, δ, d, XD, QD, S, R, r, h, P, PX⟩ => by
  obtain ⟨rfl, h⟩ := h
  cases r
  exact ⟨rfl, P _ _ _ _ _ _ (Ext.refl _ _) S R h⟩
theorem pgs_consD (h1 : PGD X W e g) (h2 : PGsD X W es r) (hs : (assignEach (e :: es) X.env).map (·.2) = assign e X.env :: (assignEach es X.env).map (·.2) := by rfl) : PGsD X W (e :: es) (gConsD g r) := pgs_weak (pgs_cons h1 h2 hs) fun v σ H Q ⟨F, ρ, κ, δ, ds, XD, QD, S, R, rr, h, P, PX⟩ => by
  cases rr with
  | nil => exact h.elim
  | cons r1 r2 => exact ⟨_, _, rfl, F, ρ, κ, δ, _, XD, _, S, R, r1, h, fun F1 ρ1 κ1 H1 δ1 σ1 e1 S1 R1 h1 => ⟨F1, ρ1, κ1, δ1, _, XD, _, S1, R1, r2.ext e1, h1, P.ext e1, PX.ext e1⟩, PX⟩
theorem pg_tupD {n : Nat} {kk : Nat} (hc : X.calm = true) (h : PGsD X W es r) (hn : (assignEach es X.env).length = n := by rfl) (hst : (assignEach es X.env).findIdx? (·.1) = none := by rfl) : PGD X W (.Tuple es kk pos) (gTupD n r) :=
  pg_weak (pg_tup (k := kk) hc h hn hst) fun v σ H Q ⟨F, ρ, κ, δ, d, XD, QD, S, R, rr, ⟨xs, h1, h2, h3⟩, P, PX⟩ => by
  obtain ⟨a, vs, rfl, hk, rl⟩ := view_at S rr h1
  exact ⟨a, vs, rfl, hk, by rw [← rl.length]; exact h2, F, ρ, κ, δ, xs, XD, _, S, R, rl, h3, P, PX⟩
end
/-! o[i] = e : a cell's list | dict -/
def putAt (ks : List Key) (xs : List D) (k : Key) (d : D) : List Key × List D :=
  match ks.findIdx? (fun q => decide (q = k)) with
  | some j => (ks, xs.set j d)
  | none => (ks ++ [k], xs ++ [d])
def fSet : D → D → D → Kap → (Kap → Prop) → Prop := fun o i d κ Q => match o, i with
  | .cell n, .int j => match κ n with
    | some (.live .lst xs) => ∃ m, ixN xs.length j = some m ∧ Q (kset κ n (.live .lst (xs.set m d)))
    | _ => False
  | _, _ => False
def gSubD (o i : DE) (f : D → D → D → Kap → (Kap → Prop) → Prop) : DG := fun d δ κ X Q => o δ κ X fun x κ1 => i δ κ1 X fun y κ2 => f x y d κ2 fun κ3 => Q δ κ3
section
variable {X : Cx} {W : WX} {e1 e2 : Expr} {a b : DE} {pos : Pos}
theorem pg_subD (ho : PED X W e1 a) (hi : PED X W e2 b)
    (ha : ∀ v, assign (.Subscript e1 e2 pos) X.env v = (do
      let ov ← holding [v] (eval e1 X.env)
      let iv ← holding [v, ov] (eval e2 X.env)
      standAt pos
      holding [v, ov, iv] (setItem ov iv v)
      release [v, ov, iv] []) := by intro _; rfl) : PGD X W (.Subscript e1 e2 pos) (gSubD a b fSet) :=
  pg_weak (pg_sub ho hi set_list ha) fun v σ H Q ⟨F, ρ, κ, δ, d, XD, QD, S, R, rr, h, P, PX⟩ =>
  ⟨F, ρ, κ, δ, XD, _, S, R, h, fun F1 ρ1 κ1 H1 x u e1 S1 R1 h1 => ⟨F1, ρ1, κ1, δ, XD, _, S1, R.ext e1, h1, fun F2 ρ2 κ2 H2 y w e2 S2 R2 h2 => by
    have e12 := e1.trans e2
    have R1' := R1.ext e2
    cases x <;> first | (exfalso; cases y <;> exact h2) | skip
    rename_i n
    cases y <;> first | (exfalso; exact h2) | skip
    rename_i j
    cases R2
    have h2' : (match κ2 n with
      | some (.live .lst xs) => ∃ m, ixN xs.length j = some m ∧ QD δ (kset κ2 n (.live .lst (xs.set m d)))
      | _ => False) := h2
    cases ek : κ2 n with
    | none => rw [ek] at h2'; exact h2'.elim
    | some c =>
      cases c with
      | dead => rw [ek] at h2'; exact h2'.elim
      | live k xs =>
        rw [ek] at h2'
        cases k <;> first | exact h2'.elim | skip
        obtain ⟨m, h3, h4⟩ := h2'
        obtain ⟨p, vs, rfl, hr, hm, rl⟩ := cell_at S2 R1' ek
        refine ⟨p, vs, j, m, rfl, rfl, hm, by rw [← rl.length]; exact h3, ?_⟩
        exact P _ _ _ _ _ _ e12 (S2.write (k' := .lst) ek hr (fun H' q => q) (RepL.set (rr.ext e12) m rl)) (R.ext e12) h4, PX.ext e1⟩, PX⟩
end

/-! ### statements -/
def sSeq (a b : DS) : DS := fun δ κ X T => a δ κ X { T with nx := fun δ1 κ1 => b δ1 κ1 X T }
def sNil : DS := fun δ κ _ T => T.nx δ κ
def sAsg (e : DE) (g : DG) : DS := fun δ κ X T => e δ κ X fun d κ1 => g d δ κ1 X T.nx
def sExp (e : DE) : DS := fun δ κ X T => e δ κ X fun _ κ1 => T.nx δ κ1
def sRet (e : DE) : DS := fun δ κ X T => e δ κ X T.rt
def sRetN : DS := fun _ κ _ T => T.rt .non κ
def sIf (t : DT) (a b : DS) : DS := fun δ κ X T => t δ κ X fun k κ1 => if k = true then a δ κ1 X T else b δ κ1 X T
def sBrk : DS := fun δ κ _ T => T.bk δ κ
def sCon : DS := fun δ κ _ T => T.ct δ κ
def sNever : DS := fun _ _ _ _ => False
def sPar (i j : Nat) (as : DA) : DS := fun δ κ X T => as δ κ X fun ds κ1 => ∃ x y, ds = [x, y] ∧ T.nx ((δ.set i (some x)).set j (some y)) κ1
def sAug (i : Nat) (f : D2) (e : DE) : DS := fun δ κ X T => ∃ x, δ[i]? = some (some x) ∧ e δ κ X fun y κ1 => f x y κ1 fun z κ2 => T.nx (δ.set i (some z)) κ2
def sWhile (t : DT) (b : DS) : DS := fun δ κ X T => ∃ I : Nat → DEnv → Kap → Prop, (∃ m, I m δ κ) ∧ ∀ m δ κ, I m δ κ → t δ κ X fun k κ1 => if k = true then
    b δ κ1 X { nx := fun δ2 κ2 => ∃ m', m' < m ∧ I m' δ2 κ2, ct := fun δ2 κ2 => ∃ m', m' < m ∧ I m' δ2 κ2, bk := T.nx, rt := T.rt } else T.nx δ κ1
section
variable {X : Cx} {W : WX} {e e1 e2 e3 : Expr} {st : Stmt} {sts sts2 : List Stmt} {a b : DE} {as : DA} {t : DT} {u v : DS} {g : DG} {pos : Pos}
theorem sd_nil : PSsD X W [] sNil := pss_weak pss_nil fun T σ H ⟨F, ρ, κ, δ, XD, DD, S, R, h, P, PX⟩ => P.nx _ _ _ _ _ _ (Ext.refl _ _) S R h
theorem sd_cons (h1 : PSD X W st u) (h2 : PSsD X W sts v) : PSsD X W (st :: sts) (sSeq u v) := pss_weak (pss_cons h1 h2) fun T σ H ⟨F, ρ, κ, δ, XD, DD, S, R, h, P, PX⟩ =>
  ⟨F, ρ, κ, δ, XD, _, S, R, h, ⟨fun F1 ρ1 κ1 H1 δ1 σ1 e1 S1 R1 h1 => ⟨F1, ρ1, κ1, δ1, XD, DD, S1, R1, h1, P.ext e1, PX.ext e1⟩, P.rt, P.bk, P.ct⟩, PX⟩
theorem sd_one (h1 : PSD X W st u) : PSsD X W [st] u := pss_one h1
theorem sd_never {st : Stmt} : PSD X W st sNever := ps_weak ps_never fun T σ H ⟨F, ρ, κ, δ, XD, DD, S, R, h, P, PX⟩ => h.elim
theorem sd_pass : PSD X W (.Pass pos) sNil := ps_weak ps_pass fun T σ H ⟨F, ρ, κ, δ, XD, DD, S, R, h, P, PX⟩ => P.nx _ _ _ _ _ _ (Ext.refl _ _) S R h
theorem sd_doc {x j p} : PSD X W (.Expr (.Constant (.str x) j p) pos) sNil := ps_weak ps_doc fun T σ H ⟨F, ρ, κ, δ, XD, DD, S, R, h, P, PX⟩ => P.nx _ _ _ _ _ _ (Ext.refl _ _) S R h
theorem sd_brk : PSD X W (.Break pos) sBrk := ps_weak ps_break fun T σ H ⟨F, ρ, κ, δ, XD, DD, S, R, h, P, PX⟩ => P.bk _ _ _ _ _ _ (Ext.refl _ _) S R h
theorem sd_con : PSD X W (.Continue pos) sCon := ps_weak ps_continue fun T σ H ⟨F, ρ, κ, δ, XD, DD, S, R, h, P, PX⟩ => P.ct _ _ _ _ _ _ (Ext.refl _ _) S R h
theorem sd_exp (ha : PED X W e a) (hs : swapsWith e none pos.line X.env = pure false := by rfl) : PSD X W (.Expr e pos) (sExp a) := ps_weak (ps_expr ha hs) fun T σ H ⟨F, ρ, κ, δ, XD, DD, S, R, h, P, PX⟩ =>
  ⟨F, ρ, κ, δ, XD, _, S, R, h, fun F1 ρ1 κ1 H1 x v e1 S1 R1 h1 => P.nx _ _ _ _ _ _ e1 S1 (R.ext e1) h1, PX⟩
theorem sd_ret (ha : PED X W e a) : PSD X W (.Return (some e) pos) (sRet a) := ps_weak (ps_ret ha) fun T σ H ⟨F, ρ, κ, δ, XD, DD, S, R, h, P, PX⟩ => ⟨F, ρ, κ, δ, XD, _, S, R, h, P.rt, PX⟩
theorem sd_retN : PSD X W (.Return none pos) sRetN := ps_weak ps_retN fun T σ H ⟨F, ρ, κ, δ, XD, DD, S, R, h, P, PX⟩ => P.rt _ _ _ _ _ _ (Ext.refl _ _) S .non h
theorem sd_if (ht : PTD X W e t) (h1 : PSsD X W sts u) (h2 : PSsD X W sts2 v) : PSD X W (.If e sts sts2 pos) (sIf t u v) := ps_weak (ps_if ht h1 h2) fun T σ H ⟨F, ρ, κ, δ, XD, DD, S, R, h, P, PX⟩ =>
  ⟨F, ρ, κ, δ, XD, _, S, R, h, fun F1 ρ1 κ1 H1 k e1 S1 h1 => by
    cases k with
    | true => exact ⟨F1, ρ1, κ1, δ, XD, DD, S1, R.ext e1, h1, P.ext e1, PX.ext e1⟩
    | false => exact ⟨F1, ρ1, κ1, δ, XD, DD, S1, R.ext e1, h1, P.ext e1, PX.ext e1⟩, PX⟩
theorem sd_asg {tg : Expr} (ha : PED X W e a) (hg : PGD X W tg g) (hs : swapsWithSole [tg] e pos.line X.env = pure false := by rfl) (hw : swappedStores [tg] e X.env = pure none := by rfl)
    (h1 : (assignEach [tg] X.env).map (·.2) = [assign tg X.env] := by rfl) : PSD X W (.Assign [tg] e pos) (sAsg a g) := ps_weak (ps_asg ha hg hs hw h1) fun T σ H ⟨F, ρ, κ, δ, XD, DD, S, R, h, P, PX⟩ =>
  ⟨F, ρ, κ, δ, XD, _, S, R, h, fun F1 ρ1 κ1 H1 x v e1 S1 R1 h1 => ⟨F1, ρ1, κ1, δ, x, XD, _, S1, R.ext e1, R1, h1, P.nx.ext e1, PX.ext e1⟩, PX⟩
theorem sd_set (i : Nat) {x : Str} {pos' : Pos} (hN : X.N.Nodup) (ha : PED X W e a) (hi : X.N[i]? = some x := by rfl) (hx : L2.Loc X.env.scope x := by first | exact Or.inl rfl | exact Or.inr rfl) (hs : swapsWith e (some (.Name x pos')) pos.line X.env = pure false := by rfl)
    (hf : X.fn x = true ∨ X.env.scope.names.lookup x = some .local := by first | exact .inl rfl | exact .inr rfl | assumption) : PSD X W (.Assign [.Name x pos'] e pos) (sAsg a (gN i)) := ps_weak (ps_set hN hi hx ha hs hf) fun T σ H ⟨F, ρ, κ, δ, XD, DD, S, R, h, P, PX⟩ =>
  ⟨F, ρ, κ, δ, XD, _, S, R, h, fun F1 ρ1 κ1 H1 x v e1 S1 R1 h1 => P.nx _ _ _ _ _ _ e1 S1 ((R.ext e1).set R1 i) h1, PX⟩
theorem sd_par (i j : Nat) (hp : ∀ ta, PA X [e1, e2] ta → PS X st (tPar i j ta)) (ha : PAD X W [e1, e2] as) : PSD X W st (sPar i j as) := ps_weak (hp _ ha) fun T σ H ⟨F, ρ, κ, δ, XD, DD, S, R, h, P, PX⟩ =>
  ⟨F, ρ, κ, δ, XD, _, S, R, h, fun F1 ρ1 κ1 H1 ds vs e1 S1 R1 ⟨x, y, h0, h1⟩ => by
    subst h0
    obtain ⟨v, u, rfl, rx, ry⟩ := repL2 R1
    exact ⟨v, u, rfl, P.nx _ _ _ _ _ _ e1 S1 (((R.ext e1).set rx i).set ry j) h1⟩, PX⟩
theorem sd_while {k : Nat} (G : Good k X W) (ht : PTD X W e t) (hb : PSsD X W sts u) : PSD X W (.While e sts [] pos) (sWhile t u) := ps_weak (ps_while G.po ht hb) fun T σ H ⟨F, ρ, κ, δ, XD, DD, S, R, ⟨I, ⟨m0, h0⟩, h⟩, P, PX⟩ => by
  refine ⟨fun m σ H => ∃ F1 ρ1 κ1 δ1, Ext F ρ F1 ρ1 ∧ StR (CtxOf X) F1 ρ1 κ1 H ∧ RepS (CtxOf X) F1 ρ1 δ1 σ ∧ I m δ1 κ1, ⟨m0, F, ρ, κ, δ, Ext.refl _ _, S, R, h0⟩, ?_⟩
  rintro m σ H ⟨F1, ρ1, κ1, δ1, e1, S1, R1, h1⟩
  refine ⟨F1, ρ1, κ1, δ1, XD, _, S1, R1, h m δ1 κ1 h1, fun F2 ρ2 κ2 H2 k e2 S2 h2 => ?_, PX.ext e1⟩
  have e12 := e1.trans e2
  cases k with
  | true =>
    have again : PostN (CtxOf X) F2 ρ2 (fun δ2 κ2 => ∃ m', m' < m ∧ I m' δ2 κ2) (fun σ' H' => ∃ m', m' < m ∧ ∃ F1 ρ1 κ1 δ1, Ext F ρ F1 ρ1 ∧ StR (CtxOf X) F1 ρ1 κ1 H' ∧ RepS (CtxOf X) F1 ρ1 δ1 σ' ∧ I m' δ1 κ1) :=
      fun F3 ρ3 κ3 H3 δ3 σ3 e3 S3 R3 ⟨m', hm, h3⟩ => ⟨m', hm, F3, ρ3, κ3, δ3, e12.trans e3, S3, R3, h3⟩
    exact ⟨_, fun _ _ h => h, F2, ρ2, κ2, δ1, XD, _, S2, R1.ext e2, h2, ⟨again, P.rt.ext e12, P.nx.ext e12, again⟩, PX.ext e12⟩
  | false => exact P.nx _ _ _ _ _ _ e12 S2 (R1.ext e2) h2
end

/-! ### what is walked -/
/-- an iterator J of the hand layer goes through the data items while g holds of the cells -/
def ItOk (C : Ctx) (F : Hp) (ρ : Loc0) (J : It) (items : List D) (g : Kap → Prop) : Prop := ∀ F' ρ' κ' H' (i : Nat), Ext F ρ F' ρ' → StR C F' ρ' κ' H' → g κ' →
  (i = items.length → J.stop i H') ∧ ∀ d, items[i]? = some d → J.go i H' ∧ ∀ x H2, J.yld i H' x H2 → ∃ F2, Ext F' ρ' F2 ρ' ∧ StR C F2 ρ' κ' H2 ∧ Rep C F2 ρ' d x
abbrev DI := DEnv → Kap → DX → (List D → (Kap → Prop) → Kap → Prop) → Prop
def liftI (C : Ctx) (W : WX) (di : DI) : TI := fun σ H R => ∃ F ρ κ δ XD QD, StR C F ρ κ H ∧ RepS C F ρ δ σ ∧ di δ κ XD QD ∧
  (∀ F' ρ' κ' H' J items g, Ext F ρ F' ρ' → StR C F' ρ' κ' H' → ItOk C F' ρ' J items g → QD items g κ' → R J H') ∧ PostX C F ρ XD W
abbrev PID (X : Cx) (W : WX) (tg e : Expr) (di : DI) : Prop := PI X tg e (liftI (CtxOf X) W di)
theorem pi_weak {X : Cx} {tg e : Expr} {t t' : TI} (h : PI X tg e t) (w : ∀ σ H Q, t' σ H Q → t σ H Q) : PI X tg e t' := ⟨fun pins s σ H Q I q => h.run pins s σ H Q I (w σ H Q q)⟩
theorem pi_or {X : Cx} {tg e : Expr} {t t' : TI} (h : PI X tg e t) (h' : PI X tg e t') : PI X tg e (fun σ H Q => t σ H Q ∨ t' σ H Q) := ⟨fun pins s σ H Q I q => by
  rcases q with q | q
  · exact h.run pins s σ H Q I q
  · exact h'.run pins s σ H Q I q⟩
def gTrue : Kap → Prop := fun _ => True
/-- a list, a tuple, a text, a cell's list (that stays as it is) -/
def charsD (x : Str) : List D := x.cps.toList.map fun c => .str ⟨#[c]⟩
def iSeq (a : DE) : DI := fun δ κ X Q => a δ κ X fun d κ1 => match d with
  | .str x => Q (charsD x) gTrue κ1
  | .cell n => match κ1 n with
    | some (.live .lst xs) => Q xs (fun κ => κ n = some (.live .lst xs)) κ1
    | _ => False
  | d => match view d κ1 with
    | some (.lst, xs) => Q xs gTrue κ1
    | some (.klst, xs) => Q xs gTrue κ1
    | some (.tup, xs) => Q xs gTrue κ1
    | _ => False
theorem itOk_l {C : Ctx} {F : Hp} {ρ : Loc0} {k : PySem.W.Frag} {a : Addr} {vs : List V} {xs : List D} {g : Kap → Prop} (hk : ∀ F' ρ' κ' H', Ext F ρ F' ρ' → StR C F' ρ' κ' H' → g κ' → SqL C.K H' a vs) (hu : ∀ F' ρ' κ' H' ws, Ext F ρ F' ρ' → StR C F' ρ' κ' H' → g κ' → SqL C.K H' a ws → True)
    (r : RepL C F ρ xs vs) : ItOk C F ρ (Itl C.K a) xs g := fun F' ρ' κ' H' i e S hg => ⟨fun hi => ⟨vs, hk _ _ _ _ e S hg, by rw [← r.length]; omega⟩, fun d hd => by
    obtain ⟨v, hv, rv⟩ := (r.ext e).get hd
    refine ⟨⟨vs, v, hk _ _ _ _ e S hg, hv⟩, fun x H2 ⟨h1, h2⟩ => ?_⟩
    subst h1
    have ev : v = x := Option.some.inj (hv.symm.trans (h2 vs (hk _ _ _ _ e S hg)))
    subst ev
    exact ⟨F', Ext.refl _ _, S, rv⟩⟩
theorem itOk_t {C : Ctx} {F : Hp} {ρ : Loc0} {a : Addr} {vs : List V} {xs : List D} {g : Kap → Prop} (hk : ∀ F' ρ' κ' H', Ext F ρ F' ρ' → StR C F' ρ' κ' H' → g κ' → SqT C.K H' a vs)
    (r : RepL C F ρ xs vs) : ItOk C F ρ (Itt C.K a) xs g := fun F' ρ' κ' H' i e S hg => ⟨fun hi => ⟨vs, hk _ _ _ _ e S hg, by rw [← r.length]; omega⟩, fun d hd => by
    obtain ⟨v, hv, rv⟩ := (r.ext e).get hd
    refine ⟨⟨vs, v, hk _ _ _ _ e S hg, hv⟩, fun x H2 ⟨h1, h2⟩ => ?_⟩
    subst h1
    have ev : v = x := Option.some.inj (hv.symm.trans (h2 vs (hk _ _ _ _ e S hg)))
    subst ev
    exact ⟨F', Ext.refl _ _, S, rv⟩⟩
theorem itOk_s {C : Ctx} {F : Hp} {ρ : Loc0} {x : Str} : ItOk C F ρ (Its x) (charsD x) gTrue := fun F' ρ' κ' H' i e S hg => ⟨fun hi => by
    show x.cps.size ≤ i
    rw [hi]; unfold charsD; rw [List.length_map, Array.length_toList]; exact Nat.le_refl _, fun d hd => by
    unfold charsD at hd
    rw [List.getElem?_map, Option.map_eq_some_iff] at hd
    obtain ⟨c, hc, rfl⟩ := hd
    rw [Array.getElem?_toList] at hc
    have hlt : i < x.cps.size := by
      obtain ⟨h, _⟩ := Array.getElem?_eq_some_iff.mp hc
      exact h
    refine ⟨hlt, fun y H2 ⟨h1, c', h2, h3⟩ => ?_⟩
    subst h1 h3
    rw [hc] at h2
    cases h2
    exact ⟨F', Ext.refl _ _, S, .str _⟩⟩
section
variable {X : Cx} {pins : List (Addr × Obj)} {σ : L2.St} {H : Hp} {s : Shared} {R : It → Hp → Prop} {tg : Expr} {E : Value → Shared → Prop}
theorem iter_l (I : L2.Inv X pins σ H s) {p : Addr} {xs : List V} (hq : SqL X.K H p xs) (q : R (Itl X.K p) H) : wpAny (model X.prog X.w) X.A (pyIter (.ref p)) (PIE X pins σ tg R) E s := by
  obtain ⟨its, rv, pl, hz⟩ := I.list hq
  exact wpAny_pyIter_list pl.isList (pi_one (tk := s.toks) I _ (turn_list p _) ⟨_, Heap.get?_push_size _ rfl, rfl, rfl⟩ q)
theorem iter_t (I : L2.Inv X pins σ H s) {p : Addr} {xs : List V} (hq : SqT X.K H p xs) (q : R (Itt X.K p) H) : wpAny (model X.prog X.w) X.A (pyIter (.ref p)) (PIE X pins σ tg R) E s := by
  obtain ⟨its, rv, pl, hz⟩ := I.tuple hq
  exact wpAny_pyIter_tuple (show s.heap.IsTuple p its.toArray from pl) (pi_one (tk := s.toks) I _ (turn_tuple p _) ⟨_, Heap.get?_push_size _ rfl, rfl, rfl⟩ q)
theorem iter_s (I : L2.Inv X pins σ H s) {x : Str} {t : Tok} (q : R (Its x) H) : wpAny (model X.prog X.w) X.A (pyIter (.str x t)) (PIE X pins σ tg R) E s := by
  cases ha : x.cps.all (· < 128)
  · exact wpAny_pyIter_wide ha (pi_one (tk := s.toks) I _ (turn_str _ x t "str_iterator" (.inr rfl)) ⟨_, Heap.get?_push_size _ rfl, rfl, rfl⟩ q)
  · exact wpAny_pyIter_ascii ha (pi_one (tk := s.toks) I _ (turn_str _ x t "str_ascii_iterator" (.inl rfl)) ⟨_, Heap.get?_push_size _ rfl, rfl, rfl⟩ q)
end
/-- a value that can be walked, as an iterator -/
def ItV (K : PySem.W.Frag) (v : V) (H : Hp) (R : It → Hp → Prop) : Prop := (∃ x, v = .str x ∧ R (Its x) H) ∨ (∃ p xs, v = .ref p ∧ SqL K H p xs ∧ R (Itl K p) H) ∨ ∃ p xs, v = .ref p ∧ SqT K H p xs ∧ R (Itt K p) H
theorem pi_val {X : Cx} {tg e : Expr} {te : TE} (he : PE X e te) : PI X tg e (fun σ H R => te σ H fun v H1 => ItV X.K v H1 R) := by
  refine ⟨fun pins s σ H R I h => thn (he.run pins s σ H _ I h) fun u s1 ⟨v, H1, I1, r1, q⟩ => ?_⟩
  rcases q with ⟨x, rfl, q⟩ | ⟨p, xs, rfl, hq, q⟩ | ⟨p, xs, rfl, hq, q⟩
  · obtain ⟨t, rfl⟩ := r1
    exact iter_s I1 q
  · cases r1
    exact iter_l I1 hq q
  · cases r1
    exact iter_t I1 hq q
theorem pi_seqD {X : Cx} {W : WX} {tg e : Expr} {a : DE} (ha : PED X W e a) : PID X W tg e (iSeq a) := by
  refine pi_weak (pi_val ha) fun σ H Q ⟨F, ρ, κ, δ, XD, QD, S, R, h, P, PX⟩ => ⟨F, ρ, κ, δ, XD, _, S, R, h, fun F1 ρ1 κ1 H1 d v e1 S1 R1 h1 => ?_, PX⟩
  cases d with
  | str x => cases R1; exact .inl ⟨x, rfl, P _ _ _ _ _ _ _ e1 S1 itOk_s h1⟩
  | cell n =>
    have h1' : (match κ1 n with
      | some (.live .lst xs) => QD xs (fun κ => κ n = some (.live .lst xs)) κ1
      | _ => False) := h1
    cases ek : κ1 n with
    | none => rw [ek] at h1'; exact h1'.elim
    | some c =>
      cases c with
      | dead => rw [ek] at h1'; exact h1'.elim
      | live k xs =>
        rw [ek] at h1'
        cases k <;> first | exact h1'.elim | skip
        obtain ⟨p, vs, rfl, hr, hm, rl⟩ := cell_at S1 R1 ek
        refine .inr (.inl ⟨p, vs, rfl, SqL.of hm, P _ _ _ _ _ _ _ e1 S1 ?_ h1'⟩)
        intro F2 ρ2 κ2 H2 i e2 S2 hg
        obtain ⟨p2, vs2, r2, _, hm2, rl2⟩ := S2.live n _ _ hg
        rw [e2.r _ _ hr] at r2
        cases r2
        refine ⟨fun hi => ⟨vs2, SqL.of hm2, by rw [← rl2.length]; omega⟩, fun d hd => ?_⟩
        obtain ⟨w, hv, rv⟩ := rl2.get hd
        refine ⟨⟨vs2, w, SqL.of hm2, hv⟩, fun x H3 ⟨h3, h4⟩ => ?_⟩
        subst h3
        have ev : w = x := Option.some.inj (hv.symm.trans (h4 vs2 (SqL.of hm2)))
        subst ev
        exact ⟨F2, Ext.refl _ _, S2, rv⟩
  | node k xs =>
    cases R1 with
    | @node _ _ a vs hh rr =>
      cases k <;> first | exact h1.elim | skip
      · exact .inr (.inl ⟨a, vs, rfl, SqL.of (S1.sub _ _ hh), P _ _ _ _ _ _ _ e1 S1 (itOk_l (k := X.K) (fun F' ρ' κ' H' e S _ => SqL.of (S.sub _ _ (e.f _ _ hh))) (fun _ _ _ _ _ _ _ _ _ => trivial) rr) h1⟩)
      · exact .inr (.inr ⟨a, vs, rfl, sqt_ext S1.sub hh, P _ _ _ _ _ _ _ e1 S1 (itOk_t (fun F' ρ' κ' H' e S _ => sqt_ext S.sub (sqt_ext e.f hh)) rr) h1⟩)
      · exact .inr (.inl ⟨a, vs, rfl, sql_ext S1.sub hh, P _ _ _ _ _ _ _ e1 S1 (itOk_l (k := X.K) (fun F' ρ' κ' H' e S _ => sql_ext S.sub (sql_ext e.f hh)) (fun _ _ _ _ _ _ _ _ _ => trivial) rr) h1⟩)
  | _ => exact h1.elim
/-- range(n), range(a, b) -/
def rangeD (lo : Int) (n : Nat) : List D := (List.range n).map fun i => D.int (lo + (i : Nat))
def iRange1 (as : DA) : DI := fun δ κ X Q => as δ κ X fun xs κ1 => match xs with
  | [.int j] => -(2 ^ 62) ≤ j ∧ j < 2 ^ 62 ∧ Q (rangeD 0 j.toNat) gTrue κ1
  | _ => False
def iRange2 (as : DA) : DI := fun δ κ X Q => as δ κ X fun xs κ1 => match xs with
  | [.int i, .int j] => (-(2 ^ 62) ≤ i ∧ i < 2 ^ 62 ∧ -(2 ^ 62) ≤ j ∧ j < 2 ^ 62) ∧ Q (rangeD i (j - i).toNat) gTrue κ1
  | _ => False
theorem itOk_r {C : Ctx} {F : Hp} {ρ : Loc0} {lo : Int} {n : Nat} : ItOk C F ρ (Itr lo n) (rangeD lo n) gTrue := fun F' ρ' κ' H' i e S hg => by
  unfold rangeD
  refine ⟨fun hi => by show n ≤ i; rw [hi, List.length_map, List.length_range]; exact Nat.le_refl _, fun d hd => ?_⟩
  rw [List.getElem?_map, Option.map_eq_some_iff] at hd
  obtain ⟨j, hj, rfl⟩ := hd
  obtain ⟨h1, h2⟩ := List.getElem?_eq_some_iff.mp hj
  rw [List.length_range] at h1
  rw [List.getElem_range] at h2
  subst h2
  refine ⟨h1, fun x H2 ⟨h3, h4⟩ => ?_⟩
  subst h3 h4
  exact ⟨F', Ext.refl _ _, S, .int _⟩
section
variable {X : Cx} {W : WX} {tg e1 e2 : Expr} {as : DA} {p pos : Pos}
theorem pi_range1D (hm : X.mg "range" = none) (ha : PAD X W [e1] as) (hg : Gl X "range" := by rfl) (hs : starEach [e1] X.env = [(false, eval e1 X.env)] := by rfl) : PID X W tg (.Call (.Name "range" p) [e1] [] pos) (iRange1 as) :=
  pi_weak (pi_range1 hg hm ha hs) fun σ H Q ⟨F, ρ, κ, δ, XD, QD, S, R, h, P, PX⟩ => ⟨F, ρ, κ, δ, XD, _, S, R, h, fun F1 ρ1 κ1 H1 xs vs e1 S1 R1 h1 => by
    match xs, h1 with
    | [.int j], h1 =>
      obtain ⟨v, rfl, r⟩ := repL1 R1
      cases r
      exact ⟨j, rfl, h1.1, h1.2.1, P _ _ _ _ _ _ _ e1 S1 itOk_r h1.2.2⟩, PX⟩
theorem pi_range2D (hm : X.mg "range" = none) (ha : PAD X W [e1, e2] as) (hg : Gl X "range" := by rfl) (hs : starEach [e1, e2] X.env = [(false, eval e1 X.env), (false, eval e2 X.env)] := by rfl) (hs2 : starEach [e2] X.env = [(false, eval e2 X.env)] := by rfl) : PID X W tg (.Call (.Name "range" p) [e1, e2] [] pos) (iRange2 as) :=
  pi_weak (pi_range2 hg hm ha hs hs2) fun σ H Q ⟨F, ρ, κ, δ, XD, QD, S, R, h, P, PX⟩ => ⟨F, ρ, κ, δ, XD, _, S, R, h, fun F1 ρ1 κ1 H1 xs vs e1 S1 R1 h1 => by
    match xs, h1 with
    | [.int i, .int j], h1 =>
      obtain ⟨v, u, rfl, r, r'⟩ := repL2 R1
      cases r; cases r'
      exact ⟨i, j, rfl, h1.1, P _ _ _ _ _ _ _ e1 S1 itOk_r h1.2⟩, PX⟩
end

/-! ### for -/
def dLoop (g : DG) (b : DS) (gd : Kap → Prop) (X : DX) (T : DEnds) : List D → DEnv → Kap → Prop
  | [], δ, κ => gd κ ∧ T.nx δ κ
  | d :: ds, δ, κ => gd κ ∧ g d δ κ X fun δ1 κ1 => b δ1 κ1 X { nx := dLoop g b gd X T ds, ct := dLoop g b gd X T ds, bk := T.nx, rt := T.rt }
def sFor (it : DI) (g : DG) (b : DS) : DS := fun δ κ X T => it δ κ X fun items gd κ1 => dLoop g b gd X T items δ κ1
theorem dLoop_gd {g : DG} {b : DS} {gd : Kap → Prop} {X : DX} {T : DEnds} {ds : List D} {δ : DEnv} {κ : Kap} (h : dLoop g b gd X T ds δ κ) : gd κ := by
  cases ds with
  | nil => exact h.1
  | cons d ds => exact h.1
section
variable {X : Cx} {W : WX} {e : Expr} {tg : Expr} {sts : List Stmt} {it : DI} {g : DG} {b : DS} {pos : Pos} {k : Nat}
theorem sd_for (G : Good k X W) (hi : PID X W tg e it) (hg : PGD X W tg g) (hb : PSsD X W sts b) (hs : ∀ x, foldedSetIterable e X.env x = pure x := by intro _; rfl) : PSD X W (.For tg e sts [] pos) (sFor it g b) :=
  ps_weak (ps_for G.po G.calm hi hg hb hs) fun T σ H ⟨F, ρ, κ, δ, XD, DD, S, R, h, P, PX⟩ => by
  refine ⟨F, ρ, κ, δ, XD, _, S, R, h, fun F1 ρ1 κ1 H1 J items gd e1 S1 hJ h1 => ?_, PX⟩
  refine ⟨fun i m σ H => ∃ F2 ρ2 κ2 δ2, Ext F1 ρ1 F2 ρ2 ∧ StR (CtxOf X) F2 ρ2 κ2 H ∧ RepS (CtxOf X) F2 ρ2 δ2 σ ∧ i ≤ items.length ∧ m = items.length - i ∧ dLoop g b gd XD DD (items.drop i) δ2 κ2, ⟨_, F1, ρ1, κ1, δ, Ext.refl _ _, S1, R.ext e1, Nat.zero_le _, rfl, h1⟩, ?_⟩
  rintro i m σ H ⟨F2, ρ2, κ2, δ2, e2, S2, R2, hi, rfl, h2⟩
  obtain ⟨q1, q2⟩ := hJ F2 ρ2 κ2 H i e2 S2 (dLoop_gd h2)
  have e12 := e1.trans e2
  by_cases hlt : i < items.length
  · have hd : items[i]? = some items[i] := List.getElem?_eq_getElem hlt
    obtain ⟨q3, q4⟩ := q2 _ hd
    rw [List.drop_eq_getElem_cons hlt] at h2
    refine .inr ⟨q3, _, fun _ _ h => h, fun x H3 hy => ?_⟩
    obtain ⟨F3, e3, S3, R3⟩ := q4 x H3 hy
    have again : PostN (CtxOf X) F3 ρ2 (dLoop g b gd XD DD (items.drop (i + 1))) (fun σ' H' => ∃ m', m' < items.length - i ∧ ∃ F2 ρ2 κ2 δ2, Ext F1 ρ1 F2 ρ2 ∧ StR (CtxOf X) F2 ρ2 κ2 H' ∧ RepS (CtxOf X) F2 ρ2 δ2 σ' ∧ i + 1 ≤ items.length ∧ m' = items.length - (i + 1) ∧ dLoop g b gd XD DD (items.drop (i + 1)) δ2 κ2) :=
      fun F4 ρ4 κ4 H4 δ4 σ4 e4 S4 R4 h4 => ⟨_, by omega, F4, ρ4, κ4, δ4, e2.trans (e3.trans e4), S4, R4, hlt, rfl, h4⟩
    exact ⟨F3, ρ2, κ2, δ2, _, XD, _, S3, R2.ext e3, R3, h2.2, fun F4 ρ4 κ4 H4 δ4 σ4 e4 S4 R4 h4 => ⟨F4, ρ4, κ4, δ4, XD, _, S4, R4, h4, ⟨again.ext e4, P.rt.ext (e12.trans (e3.trans e4)), P.nx.ext (e12.trans (e3.trans e4)), again.ext e4⟩, PX.ext (e12.trans (e3.trans e4))⟩, PX.ext (e12.trans e3)⟩
  · have e : i = items.length := by omega
    subst e
    rw [List.drop_length] at h2
    exact .inl ⟨q1 rfl, P.nx _ _ _ _ _ _ e12 S2 R2 h2.2⟩
end

/-! ### list comprehensions -/
/-- the names that a comprehension's target binds: one (inl), or those of a tuple -/
abbrev TN := Sum Nat (List Nat)
def bindL : List Nat → List D → DEnv → Option DEnv
  | [], [], δ => some δ
  | i :: is, d :: ds, δ => bindL is ds (δ.set i (some d))
  | _, _, _ => none
def bindT (t : TN) (d : D) (δ : DEnv) (κ : Kap) : Option DEnv := match t with
  | .inl i => some (δ.set i (some d))
  | .inr is => match view d κ with
    | some (.tup, xs) => bindL is xs δ
    | _ => none
def gvL : List Nat → TGs
  | [] => gNil
  | i :: is => gCons (gName i) (gvL is)
def gvT (K : PySem.W.Frag) : TN → TG
  | .inl i => gName i
  | .inr is => gTup K is.length (gvL is)
theorem wipe_set {σ : L2.St} {x : Option V} {i : Nat} : ∀ {vs : List Nat}, i ∈ vs → L2.wipe (σ.set i x) vs = L2.wipe σ vs
  | v :: vs, h => by
    unfold L2.wipe
    by_cases hi : i ∈ vs
    · rw [wipe_set hi]
    · have hv : i = v := by
        rcases List.mem_cons.mp h with e | e
        · exact e
        · exact absurd e hi
      subst hv
      have key : ∀ (vs : List Nat) (σ : L2.St), i ∉ vs → L2.wipe (σ.set i x) vs = (L2.wipe σ vs).set i x := by
        intro vs
        induction vs with
        | nil => intro σ _; rfl
        | cons w vs ih =>
          intro σ hn
          unfold L2.wipe
          rw [ih σ (fun z => hn (List.mem_cons_of_mem _ z)), List.set_comm _ _ (fun z => hn (by rw [z]; exact List.mem_cons_self))]
      rw [key vs σ hi, List.set_set]
theorem wipe_wipe {σ : L2.St} : ∀ {vs ws : List Nat}, (∀ v ∈ vs, v ∈ ws) → L2.wipe (L2.wipe σ vs) ws = L2.wipe σ ws
  | [], _, _ => rfl
  | v :: vs, ws, h => by
    show L2.wipe ((L2.wipe σ vs).set v none) ws = _
    rw [wipe_set (h v List.mem_cons_self), wipe_wipe fun w hw => h w (List.mem_cons_of_mem _ hw)]
section
variable {C : Ctx} {F : Hp} {ρ : Loc0} {κ : Kap} {H : Hp}
theorem bindL_at {vs0 : List Nat} {σ0 : L2.St} {Q : L2.St → Hp → Prop} : ∀ {is : List Nat} {ds : List D} {vs : List V} {δ δ' : DEnv} {σ : L2.St}, (∀ i ∈ is, i ∈ vs0) → bindL is ds δ = some δ' → RepS C F ρ δ σ → RepL C F ρ ds vs → L2.wipe σ vs0 = σ0 →
    (∀ σ', RepS C F ρ δ' σ' → L2.wipe σ' vs0 = σ0 → Q σ' H) → gvL is vs σ H Q
  | [], [], _, _, _, _, _, h, R, .nil, hw, hq => by cases h; exact ⟨rfl, hq _ R hw⟩
  | i :: is, d :: ds, _, _, _, _, hi, h, R, .cons r t, hw, hq => ⟨_, _, rfl, bindL_at (fun j hj => hi j (List.mem_cons_of_mem _ hj)) h (R.set r i) t (by rw [wipe_set (hi i List.mem_cons_self)]; exact hw) hq⟩
theorem bindT_at {t : TN} {d : D} {v : V} {δ δ' : DEnv} {σ : L2.St} {vs0 : List Nat} {σ0 : L2.St} {Q : L2.St → Hp → Prop} (S : StR C F ρ κ H) (hi : ∀ i ∈ (match t with | .inl i => [i] | .inr is => is), i ∈ vs0) (h : bindT t d δ κ = some δ') (R : RepS C F ρ δ σ) (r : Rep C F ρ d v) (hw : L2.wipe σ vs0 = σ0)
    (hq : ∀ σ', RepS C F ρ δ' σ' → L2.wipe σ' vs0 = σ0 → Q σ' H) : gvT C.K t v σ H Q := by
  cases t with
  | inl i =>
    cases h
    exact hq _ (R.set r i) (by rw [wipe_set (hi i List.mem_cons_self)]; exact hw)
  | inr is =>
    have h' : (match view d κ with
      | some (.tup, xs) => bindL is xs δ
      | _ => none) = some δ' := h
    cases ev : view d κ with
    | none => rw [ev] at h'; cases h'
    | some p =>
      obtain ⟨k, xs⟩ := p
      rw [ev] at h'
      cases k <;> first | (cases h'; done) | skip
      obtain ⟨a, vs, rfl, hk, rl⟩ := view_at S r ev
      have hlen : ∀ {is : List Nat} {xs : List D} {δ δ' : DEnv}, bindL is xs δ = some δ' → xs.length = is.length := by
        intro is
        induction is with
        | nil => intro xs δ δ' h; cases xs with
          | nil => rfl
          | cons => cases h
        | cons i is ih => intro xs δ δ' h; cases xs with
          | nil => cases h
          | cons x xs => exact congrArg (· + 1) (ih h)
      exact ⟨a, vs, rfl, hk, by rw [← rl.length]; exact hlen h', bindL_at hi h' R rl hw hq⟩
end
abbrev XF : DX := fun _ _ _ _ => False
abbrev WF : WX := fun _ _ _ _ => False
def lcLoop (n : Nat) (t : TN) (tt : DT) (e : DE) (gd : Kap → Prop) (vs : List Nat) (δ : DEnv) (fin : List D → Kap → Prop) : List D → List D → Kap → Prop
  | [], acc, κ => gd κ ∧ fin acc κ
  | d :: ds, acc, κ => gd κ ∧ ∃ δ1, bindT t d (dwipe δ vs) κ = some δ1 ∧ tt δ1 κ XF fun b κ2 => if b = true then e δ1 κ2 XF fun y κ3 => κ3 n = some (.live .lst acc) ∧ acc.length < sizeLine ∧ lcLoop n t tt e gd vs δ fin ds (acc ++ [y]) (kset κ3 n (.live .lst (acc ++ [y])))
      else lcLoop n t tt e gd vs δ fin ds acc κ2
def dLc (m : Bool) (it : DI) (t : TN) (tt : DT) (e : DE) (vs : List Nat) : DE := fun δ κ X Q => it δ κ X fun items gd κ1 => ∀ n, κ1 n = none →
  lcLoop n t tt e gd vs δ (fun acc κ' => κ' n = some (.live .lst acc) ∧ if m = true then Q (.cell n) κ' else Q (.lst acc) (kset κ' n .dead)) items [] (kset κ1 n (.live .lst []))
def tYesD : DT := fun _ κ _ Q => Q true κ
theorem lc_gd {n : Nat} {t : TN} {tt : DT} {e : DE} {gd : Kap → Prop} {vs : List Nat} {δ : DEnv} {fin : List D → Kap → Prop} {ds acc : List D} {κ : Kap} (h : lcLoop n t tt e gd vs δ fin ds acc κ) : gd κ := by
  cases ds with
  | nil => exact h.1
  | cons d ds => exact h.1
theorem lift_lc {C : Ctx} {W : WX} {m : Bool} {it : DI} {t : TN} {tt : DT} {e : DE} {vs : List Nat} {ttv : TT} {ev : TE} (ht : ∀ {σ H Q}, liftT C WF tt σ H Q → ttv σ H Q) (he : ∀ {σ H Q}, liftE C WF e σ H Q → ev σ H Q) (hi : ∀ i ∈ (match t with | .inl i => [i] | .inr is => is), i ∈ vs)
    {σ : L2.St} {H : Hp} {Q : VK} (h : liftE C W (dLc m it t tt e vs) σ H Q) : tLc (liftI C W it) (gvT C.K t) ttv ev vs σ H Q := by
  obtain ⟨F, ρ, κ, δ, XD, QD, S, R, h, P, PX⟩ := h
  refine ⟨F, ρ, κ, δ, XD, _, S, R, h, fun F1 ρ1 κ1 H1 J items gd e1 S1 hJ h1 D0 hD => ?_, PX⟩
  obtain ⟨n, hn⟩ := S1.fresh
  obtain ⟨ρ2, e2, hr2, S2⟩ := S1.cell (o := .lst []) (k := .lst) (vs := []) (xs := []) hD (fun _ q => q) .nil hn
  have h2 := h1 n hn
  refine ⟨fun i m H => ∃ F3 ρ3 κ3 acc, Ext F1 ρ2 F3 ρ3 ∧ StR C F3 ρ3 κ3 H ∧ i ≤ items.length ∧ m = items.length - i ∧ lcLoop n t tt e gd vs δ _ (items.drop i) acc κ3, ⟨_, F1, ρ2, _, [], Ext.refl _ _, S2, Nat.zero_le _, rfl, h2⟩, ?_⟩
  rintro i m' H ⟨F3, ρ3, κ3, acc, e3, S3, hi3, rfl, h3⟩
  have e23 := e2.trans e3
  have hr3 := e3.r _ _ hr2
  obtain ⟨q1, q2⟩ := hJ F3 ρ3 κ3 H i e23 S3 (lc_gd h3)
  by_cases hlt : i < items.length
  · have hd : items[i]? = some items[i] := List.getElem?_eq_getElem hlt
    obtain ⟨q3, q4⟩ := q2 _ hd
    rw [List.drop_eq_getElem_cons hlt] at h3
    obtain ⟨_, δ1, hb, h4⟩ := h3
    refine .inr ⟨q3, _, fun _ h => h, fun x H4 hy => ?_⟩
    obtain ⟨F4, e4, S4, R4⟩ := q4 x H4 hy
    have e34 := e23.trans e4
    refine bindT_at (σ0 := L2.wipe σ vs) S4 hi hb ((R.ext (e1.trans e34)).wipe vs) R4 (wipe_wipe fun _ h => h) fun σ5 R5 hw => ⟨hw, ht ⟨F4, ρ3, κ3, δ1, XF, _, S4, R5, h4, fun F5 ρ5 κ5 H5 b e5 S5 h5 => ?_, fun _ _ _ _ _ _ _ _ _ _ _ _ _ _ h => h.elim⟩⟩
    have e45 := e34.trans e5
    cases b with
    | true =>
      show ev σ5 H5 _
      refine he ⟨F5, ρ5, κ5, δ1, XF, _, S5, R5.ext e5, h5, fun F6 ρ6 κ6 H6 y v e6 S6 R6 ⟨h6, h7, h8⟩ => ?_, fun _ _ _ _ _ _ _ _ _ _ _ _ _ _ h => h.elim⟩
      have e36 := (e3.trans e4).trans (e5.trans e6)
      obtain ⟨a, ws, g1, g2, g3, g4⟩ := S6.live n _ _ h6
      rw [e36.r _ _ hr2] at g1
      cases g1
      have g3' : H6 D0 = some (.lst ws) := g3
      refine ⟨ws, g3', by rw [← g4.length]; exact h7, items.length - (i + 1), by omega, F6, ρ6, _, _, e36, ?_, hlt, rfl, h8⟩
      exact S6.write (k' := .lst) h6 (e36.r _ _ hr2) (fun _ q => q) (g4.append (.cons R6 .nil))
    | false =>
      show ∃ m', m' < items.length - i ∧ _
      exact ⟨items.length - (i + 1), by omega, F5, ρ5, κ5, acc, (e3.trans e4).trans e5, S5, hlt, rfl, h5⟩
  · have e : i = items.length := by omega
    subst e
    rw [List.drop_length] at h3
    obtain ⟨_, h4, h5⟩ := h3
    refine .inl ⟨q1 rfl, ?_⟩
    cases m with
    | true => exact P _ _ _ _ _ _ (e1.trans e23) S3 (.cell hr3) h5
    | false =>
      obtain ⟨F4, e4, r4, S4⟩ := S3.freeze h4 hr3
      exact P _ _ _ _ _ _ (e1.trans (e23.trans e4)) S4 r4 h5
section
variable {X : Cx} {W : WX} {elt tg iter : Expr} {ifs : List Expr} {it : DI} {tt : DT} {a : DE} {pos : Pos} {k : Nat} {scope : Scope}
abbrev PTsD (X : Cx) (W : WX) (ifs : List Expr) (dt : DT) : Prop := PTs X ifs (liftT (CtxOf X) W dt)
theorem pts_nilD : PTsD X W [] tYesD := ⟨fun pins s σ H Q I ⟨F, ρ, κ, δ, XD, QD, S, R, h, P, PX⟩ => pts_nil.run pins s σ H Q I (P _ _ _ _ _ (Ext.refl _ _) S h)⟩
theorem pts_oneD {e : Expr} (h : PTD X W e tt) : PTsD X W [e] tt := pts_one h
theorem pd_lc (m : Bool) (own : List (Str × Nat)) (t : TN) (G : Good k X W) (hi : PID X W tg iter it) (hg : ∀ (s : Shared) (H : Hp) (C : Addr) (cl : List (Str × Addr)) (fp : List Addr), PG (X.blk s H scope (compEnvC scope cl C X.env) fp) tg (gvT X.K t))
    (ht : ∀ (s : Shared) (H : Hp) (C : Addr) (cl : List (Str × Addr)) (fp : List Addr), PTsD (X.blk s H scope (compEnvC scope cl C X.env) fp) WF ifs tt) (he : ∀ (s : Shared) (H : Hp) (C : Addr) (cl : List (Str × Addr)) (fp : List Addr), PED (X.blk s H scope (compEnvC scope cl C X.env) fp) WF elt a)
    (ok : blkC X.N X.env.scope scope own = true := by kernel_rfl) (hin : ∀ i ∈ (match t with | .inl i => [i] | .inr is => is), i ∈ own.map (·.2) := by decide) (hs : ∀ x, foldedSetIterable iter X.env x = pure x := by intro _; rfl) :
    PED X W (.ListComp elt [⟨tg, iter, ifs, 0⟩] scope pos) (dLc m it t tt a (own.map (·.2))) := pe_weak (pe_lc G.calm G.nd hi (blkOk_by ok) hg ht he hs) fun _ _ _ => lift_lc id id hin
theorem sd_setLc (i : Nat) (m : Bool) (own : List (Str × Nat)) (t : TN) {y : Str} {py spos : Pos} (G : Good k X W) (hi : PID X W tg iter it) (hg : ∀ (s : Shared) (H : Hp) (C : Addr) (cl : List (Str × Addr)) (fp : List Addr), PG (X.blk s H scope (compEnvC scope cl C X.env) fp) tg (gvT X.K t))
    (ht : ∀ (s : Shared) (H : Hp) (C : Addr) (cl : List (Str × Addr)) (fp : List Addr), PTsD (X.blk s H scope (compEnvC scope cl C X.env) fp) WF ifs tt) (he : ∀ (s : Shared) (H : Hp) (C : Addr) (cl : List (Str × Addr)) (fp : List Addr), PED (X.blk s H scope (compEnvC scope cl C X.env) fp) WF elt a)
    (hsw : swapsWith (.ListComp elt [⟨tg, iter, ifs, 0⟩] scope pos) (some (.Name y py)) spos.line X.env = pure true := by exact sw_true rfl rfl rfl (by decide +kernel))
    (hy : X.N[i]? = some y := by rfl) (hyl : X.env.scope.names.lookup y = some .local := by rfl)
    (ok : blkC X.N X.env.scope scope own = true := by kernel_rfl) (hin : ∀ i ∈ (match t with | .inl i => [i] | .inr is => is), i ∈ own.map (·.2) := by decide) (hs : ∀ x, foldedSetIterable iter X.env x = pure x := by intro _; rfl) :
    PSD X W (.Assign [.Name y py] (.ListComp elt [⟨tg, iter, ifs, 0⟩] scope pos) spos) (sAsg (dLc m it t tt a (own.map (·.2))) (gN i)) :=
  ps_weak (ps_setLc G.calm G.nd hy hyl hsw hi (blkOk_by ok) hg ht he hs) fun T σ H ⟨F, ρ, κ, δ, XD, DD, S, R, h, P, PX⟩ =>
  lift_lc id id hin ⟨F, ρ, κ, δ, XD, _, S, R, h, fun F1 ρ1 κ1 H1 x v e1 S1 R1 h1 => P.nx _ _ _ _ _ _ e1 S1 ((R.ext e1).set R1 i) h1, PX⟩
end
end DL

/-! DL: defs, calls, the law's end. -/
namespace DL
open PySem PySem.Spec PyProof.Rows L2

def PostXE (C : Ctx) (F : Hp) (ρ : Loc0) (XD : Str → List D → Kap → Prop) (E : XK) : Prop := ∀ F' ρ' κ' H' c fs cls dd, Ext F ρ F' ρ' → StR C F' ρ' κ' H' → RepX C F' ρ' c fs cls dd → XD c fs κ' → E cls dd H'
/-- a def keeps a promise over data -/
structure FnG (P : Program) (w : World) (K : PySem.W.Frag) (mg : Str → Option Value) (base : Heap) (k : Nat) (f : Addr) (fd : FuncData) (ps : List Str) (sp : DSp) : Prop where
  len : ∀ ds κ XD Q, sp ds κ XD Q → ds.length = ps.length
  run : ∀ (A : Around) (outer : List Env) (s : Shared) (H : Hp) (args : Args) (us : List Value) (vs : List V) (ds : List D) (F : Hp) (ρ : Loc0) (κ : Kap) (XD : Str → List D → Kap → Prop) (QD : DQ) (Q : VK) (E : XK), Room k A → A.guards = some [] →
    Env0 P w K mg base A outer s H → BindsTo s fd args (ps.zip us) → Vals vs us → StR ⟨K, mg⟩ F ρ κ H → RepL ⟨K, mg⟩ F ρ ds vs → sp ds κ XD QD → Post ⟨K, mg⟩ F ρ QD Q → PostXE ⟨K, mg⟩ F ρ XD E →
    codeAny (model P w) A (.call (.ref f) args) (CR (L2N.CX P w) outer P w H s Q E) s
theorem FnG.mono {P : Program} {w : World} {K : PySem.W.Frag} {mg : Str → Option Value} {base : Heap} {j k : Nat} {f : Addr} {fd : FuncData} {ps : List Str} {sp : DSp} (F : FnG P w K mg base j f fd ps sp) (h : j ≤ k) : FnG P w K mg base k f fd ps sp :=
  ⟨F.len, fun A outer s H args us vs ds F0 ρ κ XD QD Q E hr => F.run A outer s H args us vs ds F0 ρ κ XD QD Q E (hr.mono h)⟩
theorem FnG.imp {P : Program} {w : World} {K : PySem.W.Frag} {mg : Str → Option Value} {base : Heap} {k : Nat} {f : Addr} {fd : FuncData} {ps : List Str} {sp sp' : DSp} (F : FnG P w K mg base k f fd ps sp) (h : ∀ ds κ X Q, sp' ds κ X Q → sp ds κ X Q) : FnG P w K mg base k f fd ps sp' :=
  ⟨fun ds κ X Q q => F.len ds κ X Q (h _ _ _ _ q), fun A outer s H args us vs ds F0 ρ κ XD QD Q E hr hg he hb hv S R hs => F.run A outer s H args us vs ds F0 ρ κ XD QD Q E hr hg he hb hv S R (h _ _ _ _ hs)⟩
/-- a def's promise, by its body -/
def startD (n : Nat) (ds : List D) : DEnv := ds.map some ++ List.replicate (n - ds.length) none
def spOf (n m : Nat) (b : DS) : DSp := fun ds κ XD Q => ds.length = m ∧ b (startD n ds) κ (fun _ c fs κ' => XD c fs κ') { nx := fun _ κ' => Q .non κ', rt := Q }
theorem repS_start {C : Ctx} {F : Hp} {ρ : Loc0} {N : List Str} {ds : List D} {vs : List V} (r : RepL C F ρ ds vs) : RepS C F ρ (startD N.length ds) (L2.start N vs) := by
  unfold startD L2.start
  refine ⟨by simp only [List.length_append, List.length_map, List.length_replicate, r.length], fun i d h => ?_⟩
  by_cases hi : i < ds.length
  · rw [List.getElem?_append_left (by rw [List.length_map]; exact hi), List.getElem?_map] at h
    rw [List.getElem?_append_left (by rw [List.length_map, ← r.length]; exact hi), List.getElem?_map]
    cases e : ds[i]? with
    | none => rw [e] at h; cases h
    | some d' =>
      rw [e] at h
      cases h
      obtain ⟨v, h1, h2⟩ := r.get e
      exact ⟨v, by rw [h1]; rfl, h2⟩
  · rw [List.getElem?_append_right (by rw [List.length_map]; omega), List.getElem?_replicate] at h
    split at h <;> cases h
abbrev cxD (P : Program) (w : World) (K : PySem.W.Frag) (mg : Str → Option Value) (base : Heap) (N : List Str) (qual : Str) (scope : Scope) (f : Addr) (cd : Value) (A : Around) (outer : List Env) (s : Shared) (H : Hp) (E : XK) : Cx :=
  cxOf (L2N.CX P w) P w K mg base N qual scope f cd A outer s H E
abbrev wxE (E : XK) : WX := fun cls d _ H => E cls d H
section
variable {P : Program} {w : World} {K : PySem.W.Frag} {mg : Str → Option Value} {base : Heap}
/-- THE RULE for a def -/
theorem Fn_ok {x qual : Str} {st : Stmt} {f : Addr} {fd : FuncData} {N ps : List Str} {k : Nat} {b : DS} (F : Fun K x qual st f fd) (S : FnScope N ps (defScope st)) (sm : ∃ o, base.get? sysModules = some o)
    (hbody : ∀ (cdv : Value) (A : Around) (outer : List Env) (s : Shared) (H : Hp) (E : XK), Good k (cxD P w K mg base N qual (defScope st) f cdv A outer s H E) (wxE E) → PSsD (cxD P w K mg base N qual (defScope st) f cdv A outer s H E) (wxE E) (defBody st) b) :
    FnG P w K mg base (k + 1) f fd ps (spOf N.length ps.length b) := by
  refine ⟨fun ds κ XD Q h => h.1, fun A outer s H args us vs ds F0 ρ κ XD QD Q E hr hg e0 hb rv S0 R0 hsp PQ PE => ?_⟩
  obtain ⟨oc, od, kV, doc, pm, an, cdv, ct, osl, rfl, lk, hcd⟩ := F.ex
  have hl : vs.length = ps.length := by rw [← R0.length, hsp.1]
  have KX : K.In s.heap := e0.mod.kin.keeps fun b o e => (e0.bs b o e).1
  have lim : s.heap.NoLimit := e0.mod.nolimit.keeps fun b o e => (e0.bs b o e).1
  have kinds : ∀ y ∈ ps.zip us, (defScope st).names.lookup y.1 = some .local ∨ ((defScope st).names.lookup y.1 = some .cell ∧ ((cellsFrom (s.heap.objs.size + 1) (defScope st).names []).lookup y.1).isSome = true) := fun y hy => by
    rcases S.par y.1 (List.of_mem_zip (a := y.1) (b := y.2) hy).1 with q | q
    · exact .inl q
    · exact .inr ⟨q, PySem.W.cellsFrom_some _ _ _ (.inl q)⟩
  refine codeAny_call_function hr.depth (KX _ _ lk) rfl S.co S.gen rfl (PySem.W.codeRec_of KX hcd) (hb _ _ _ _ (wpAny_newFunctionEnv_cells S.kind kinds fun env he s1 x => ?_))
  subst he
  refine ⟨lim.keeps x.toInCall.keep, codeAny_func ?_⟩
  have I := inv_start (CX := L2N.CX P w) (N := N) (qual := qual) (E := E) (f := f) (cd := cdv) S hr.hd e0 hl rv x
  have g : Good k (cxD P w K mg base N qual (defScope st) f cdv A outer s H E) (wxE E) :=
    ⟨L2N.takes_of rfl rfl rfl rfl, passes_of rfl, hr.deeper _, hg, sm, rfl, S.nd⟩
  refine wpAny_mono ((hbody cdv A outer s H E g).run [] s1 _ H ⟨fun _ H' => Q .non H', Q, fun _ _ => False, fun _ _ => False⟩ I
    ⟨F0, ρ, κ, startD N.length ds, _, _, S0, repS_start R0, hsp.2, ⟨fun F' ρ' κ' H' δ σ e S R q => PQ _ _ _ _ _ _ e S .non q, PQ, fun _ _ _ _ _ _ _ _ _ z => z.elim, fun _ _ _ _ _ _ _ _ _ z => z.elim⟩,
      fun F' ρ' κ' H' δ σ c fs cls dd e S R rx q => PE _ _ _ _ _ _ _ _ e S rx q⟩) (fun fl s' hs => ?_) fun e s' hs => hs
  cases fl with
  | ret u =>
    obtain ⟨v, σ', H', J, rv', q⟩ := hs
    exact ⟨v, H', J.os, J.bare, J.base, J.hok, rv', q⟩
  | next =>
    obtain ⟨σ', H', J, q⟩ := hs
    exact ⟨.non, H', J.os, J.bare, J.base, J.hok, rfl, q⟩
  | brk => obtain ⟨_, _, _, q⟩ := hs; exact q.elim
  | cont => obtain ⟨_, _, _, q⟩ := hs; exact q.elim
end
/-! ### calls -/
def dCall (sp : DSp) (dvs : List D) (as : DA) : DE := fun δ κ X Q => as δ κ X fun xs κ1 => sp (xs ++ dvs) κ1 (X δ) Q
section
variable {X : Cx} {W : WX} {k : Nat} {f : Addr} {fd : FuncData} {ps : List Str} {sp : DSp} {dvs : List D} {ds : List Value} {x : Str} {e : Expr} {es : List Expr} {as : DA} {p pos : Pos}
theorem run_fnG {pins : List (Addr × Obj)} {σ : L2.St} {δ : DEnv} {H : Hp} {s : Shared} {Q : VK} {us : List Value} {vs : List V} {args : Args} {xs : List D} {F : Hp} {ρ : Loc0} {κ : Kap} {XD : DX} {QD : DQ} (G : Good k X W) (F1 : FnG X.prog X.w X.K X.mg X.base k f fd ps sp) (I : L2.Inv X pins σ H s) (hb : BindsTo s fd args (ps.zip us)) (r : Vals vs us)
    (S : StR (CtxOf X) F ρ κ H) (R : RepS (CtxOf X) F ρ δ σ) (rr : RepL (CtxOf X) F ρ xs vs) (h : sp xs κ (XD δ) QD) (P : Post (CtxOf X) F ρ QD Q) (PX : PostX (CtxOf X) F ρ XD W) : wpAny (model X.prog X.w) X.A (call (.ref f) args.pos args.kw) (EP X pins σ Q) X.xe s := by
  refine wpAny_call (codeAny_mono (F1.run X.A X.stack s H args us vs xs F ρ κ _ _ Q (fun cls dd H' => W cls dd σ H') G.rm G.gd I.env0 hb r S rr h P fun F' ρ' κ' H' c fs cls dd e S' rx q => PX _ _ _ _ _ _ _ _ _ _ e S' (R.ext e) rx q) fun rs s' hq => ?_)
  cases rs with
  | error er => exact G.tk er s' (L2N.XE.of_call I (fun _ _ _ h => h) hq)
  | ok fl =>
    cases fl with
    | ret u => exact I.after hq
    | next => exact False.elim hq
    | brk => exact False.elim hq
    | cont => exact False.elim hq
theorem pd_call (G : Good k X W) (F1 : FnG X.prog X.w X.K X.mg X.base k f fd ps sp) (hm : X.mg x = some (.ref f)) (hk : PySem.W.keepIn X.K (.ref f) = true) (hb : Binds X.K fd ps ds) (hd : ∃ dv, Vals dv ds ∧ ∀ F ρ, RepL (CtxOf X) F ρ dvs dv)
    (ha : PAD X W (e :: es) as) (hg : Gl X x := by rfl) (hdb : (x == ("__debug__" : Str)) = false := by decide) (he : starEach (e :: es) X.env = (false, eval e X.env) :: starEach es X.env := by rfl) (hpl : (backTo pos (starEach es X.env)).any (·.1) = false := by rfl) :
    PED X W (.Call (.Name x p) (e :: es) [] pos) (dCall sp dvs as) := by
  refine ⟨fun pins s σ H Q I ⟨F, ρ, κ, δ, XD, QD, S, R, h, P, PX⟩ => ?_⟩
  refine wpAny_Call_Name_kw (ld_glob I hg hm ?_ hdb)
  refine PySem.W.callWith_K (h₀ := X.base) I.ok.mod.kin hk (thn (ha.run pos pins s σ H (fun vs H1 => ∃ F1 ρ1 κ1 xs, Ext F ρ F1 ρ1 ∧ StR (CtxOf X) F1 ρ1 κ1 H1 ∧ RepL (CtxOf X) F1 ρ1 xs vs ∧ sp (xs ++ dvs) κ1 (XD δ) QD) I
    ⟨F, ρ, κ, δ, XD, _, S, R, h, fun F1 ρ1 κ1 H1 xs vs e1 S1 R1 h1 => ⟨F1, ρ1, κ1, xs, e1, S1, R1, h1⟩, PX⟩) fun us s1 ⟨vs, H1, I1, r1, F2, ρ1, κ1, xs, e1, S1, R1, h1⟩ => ⟨I1.kIn, ?_⟩) he hpl
  obtain ⟨dv, v1, v2⟩ := hd
  have hl : (us ++ ds).length = ps.length := by
    rw [← F1.len _ _ _ _ h1, List.length_append, List.length_append, R1.length, Paired.length r1, (v2 F2 ρ1).length, Paired.length v1]
  exact run_fnG G F1 (args := ⟨us, []⟩) I1 (hb s1 us I1.kIn hl) (r1.append v1) S1 (R.ext e1) (R1.append (v2 _ _)) h1 (P.ext e1) (PX.ext e1)
theorem pd_call0 (G : Good k X W) (F1 : FnG X.prog X.w X.K X.mg X.base k f fd ps sp) (hm : X.mg x = some (.ref f)) (hk : PySem.W.keepIn X.K (.ref f) = true) (hb : Binds X.K fd ps ds) (hd : ∃ dv, Vals dv ds ∧ ∀ F ρ, RepL (CtxOf X) F ρ dvs dv)
    (hg : Gl X x := by rfl) (hdb : (x == ("__debug__" : Str)) = false := by decide) : PED X W (.Call (.Name x p) [] [] pos) (dCall sp dvs dNil) := by
  refine ⟨fun pins s σ H Q I ⟨F, ρ, κ, δ, XD, QD, S, R, h, P, PX⟩ => ?_⟩
  refine wpAny_Call_Name_kw (ld_glob I hg hm ?_ hdb)
  obtain ⟨dv, v1, v2⟩ := hd
  have hl : (([] : List Value) ++ ds).length = ps.length := by
    rw [← F1.len _ _ _ _ h, List.length_append, List.length_append, (v2 F ρ).length, Paired.length v1]; rfl
  exact PySem.W.callWith_K0 I.kIn hk (run_fnG G F1 (args := ⟨[], []⟩) I (hb s [] I.kIn hl) v1 S R (v2 _ _) h P PX)
end
/-- no defaults -/
theorem nodef {X : Cx} : ∃ dv, Vals dv ([] : List Value) ∧ ∀ F ρ, RepL (CtxOf X) F ρ [] dv := ⟨[], .nil, fun _ _ => .nil⟩

/-! ### the law's end -/
theorem repL_script {C : Ctx} {F : Hp} {ρ : Loc0} {a : Addr} {ns : List Int} (h : SqL C.K F a (ns.map V.int)) : RepL C F ρ [.node .klst (ns.map D.int)] [.ref a] :=
  .cons (.node (k := .klst) h RepL.ofInts) .nil
theorem law_end {P : Program} {w : World} {K : PySem.W.Frag} {mg mb : Str → Option Value} {k : Nat} {fa a : Addr} {fd : FuncData} {x : Str} {sp : DSp} {s1 : Shared} {vs : List Value} {ns : List Int}
    (KX : K.In s1.heap) (hns : s1.heap.Ns mainGlobals mg) (hb : s1.heap.Ns builtinsNs mb) (hbb : ∀ x : Str, x ≠ "__name__" → mb x = bootBuiltins x) (hlim : s1.heap.NoLimit) (hsm : ∃ mm, s1.heap.Ns sysModules mm) (hg : s1.gens = #[])
    (ha : s1.heap.get? a = some { cls := .type "list", data := .seq vs.toArray }) (hi : IntsAre vs ns) (hl : ns.length ≤ sizeLine) (hr : Room k callerA)
    (F : ∀ base : Heap, K.In base → base.Ns mainGlobals mg → (∃ o, base.get? sysModules = some o) → FnG P w K mg base k fa fd [x] sp) (hbind : ∀ (s : Shared) (u : Value), BindsTo s fd ⟨[u], []⟩ [(x, u)])
    (hsp : sp [.node .klst (ns.map D.int)] (fun _ => none) (fun _ _ _ => False) (fun d _ => d = .bl true)) :
    codeAny (model P w) callerA (.call (.ref fa) ⟨[.ref a], []⟩) (fun r s' => r = .ok (.ret (.bool true)) ∧ OldK s1.heap s'.heap ∧ s'.os = s1.os ∧ AllBare s'.gens) s1 := by
  have rv := vals_ints hi
  have lenV := hi.length
  -- an abstract heap in which at most the script is tracked
  have go : ∀ H : Hp, (∀ b u, H b = some u → b = a ∧ ∃ o xs, u = .frz o (.lst xs) ∧ s1.heap.get? a = some o) → SqL K H a (ns.map V.int) → HOk P w H s1.heap → (∀ u, H a = some u → K.lookup a = none) →
      codeAny (model P w) callerA (.call (.ref fa) ⟨[.ref a], []⟩) (fun r s' => r = .ok (.ret (.bool true)) ∧ OldK s1.heap s'.heap ∧ s'.os = s1.os ∧ AllBare s'.gens) s1 := by
    intro H hO hS hok hK
    have free : ∀ {b : Addr} {o : Obj}, s1.heap.get? b = some o → (∀ xs n, o.data ≠ .seq xs n) → H b = none := fun {b o} e d => by
      cases q : H b with
      | none => rfl
      | some u =>
        obtain ⟨rfl, _⟩ := hO b u q
        rw [ha] at e
        cases e
        exact absurd rfl (d _ _)
    have nsK : ∀ {b : Addr} {m : Str → Option Value}, s1.heap.Ns b m → (hidT s1.heap H).Ns b m := fun {b m} ⟨o, es, ep, e, d, r⟩ => ⟨o, es, ep, hidT_get e (free e fun xs n z => by rw [d] at z; cases z), d, r⟩
    have kin : K.In (hidT s1.heap H) := fun b o e => hidT_get (KX b o e) (by
      cases q : H b with
      | none => rfl
      | some u =>
        obtain ⟨rfl, _⟩ := hO b u q
        rw [hK u q] at e
        cases e)
    have hM : Mod K mg (hidT s1.heap H) := ⟨kin, nsK hns, ⟨mb, nsK hb, hbb⟩, let ⟨mc, h1, h2⟩ := hlim; ⟨mc, nsK h1, h2⟩⟩
    have e0 : Env0 P w K mg (hidT s1.heap H) callerA [] s1 H := ⟨rfl, hM, fun b o e => of_hidT e, Nat.le_of_eq (hidT_size _ _), trivial, fun b hb => (nomatch hb), hok, .of_eq hg⟩
    have sm : ∃ o, (hidT s1.heap H).get? sysModules = some o := by
      obtain ⟨mm, h⟩ := hsm
      obtain ⟨o, _, _, e, _⟩ := nsK h
      exact ⟨o, e⟩
    have st : StR ⟨K, mg⟩ H (fun _ => none) (fun _ => none) H := ⟨fun _ _ h => h, fun n k xs h => (nomatch h), fun n m a k xs k' xs' h => (nomatch h), fun _ _ => rfl, ⟨0, fun _ _ => rfl⟩⟩
    refine codeAny_mono ((F _ kin (nsK hns) sm).run callerA [] s1 H ⟨[.ref a], []⟩ [.ref a] [.ref a] _ H _ _ _ _ (fun v _ => v = .bl true) (fun _ _ _ => False) hr rfl e0 (hbind s1 (.ref a)) (.cons rfl .nil) st (repL_script hS) hsp
      (fun F' ρ' κ' H' d v e S r q => by subst q; cases r; rfl) (fun _ _ _ _ _ _ _ _ _ _ _ q => q.elim)) fun r s' h => ?_
    cases r with
    | error e =>
      obtain ⟨_, _, _, _, _, _, _, _, _, _, _, _, z⟩ := h
      exact z.elim
    | ok fl =>
      cases fl with
      | next => exact h.elim
      | brk => exact h.elim
      | cont => exact h.elim
      | ret u =>
        obtain ⟨v, H', os, bare, un, hok', r', q⟩ := h
        have q' : v = .bl true := q
        subst q'
        obtain rfl : u = Value.bool true := r'
        refine ⟨rfl, OldK.of_keep fun b o e => ?_, os, bare⟩
        cases q : H b with
        | none => exact un.keep b o e q (by intro z; exact (nomatch z)) (by simp)
        | some u =>
          obtain ⟨rfl, ob, xs, rfl, _⟩ := hO b u q
          have z2 := un.frzs b ob _ q
          obtain ⟨e1, _⟩ := hok b _ q
          obtain ⟨e2, _⟩ := hok' b _ z2
          rw [e] at e1
          cases e1
          exact e2
  cases hk : K.lookup a with
  | some o =>
    have e := KX a o hk
    rw [ha] at e
    cases e
    exact go (fun _ => none) (fun b u z => (nomatch z)) (.inr ⟨_, vs.toArray, _, hk, rfl, rfl, rfl, by rw [List.size_toArray, lenV]; exact hl, by simpa using rv⟩) (fun b u z => (nomatch z)) fun u z => (nomatch z)
  | none =>
    refine go (fun b => if b = a then some (.frz { cls := .type "list", data := .seq vs.toArray } (.lst (ns.map V.int))) else none) (fun b u z => ?_) (.inl (.inr ⟨{ cls := .type "list", data := .seq vs.toArray }, if_pos rfl⟩)) (fun b u z => ?_) fun _ _ => hk
    · by_cases hb : b = a
      · have z' := (if_pos hb).symm.trans z
        cases z'
        exact ⟨hb, _, _, rfl, ha⟩
      · have z' := (if_neg hb).symm.trans z
        cases z'
    · by_cases hb : b = a
      · have z' := (if_pos hb).symm.trans z
        cases z'
        subst hb
        exact ⟨ha, by rw [List.length_map]; exact hl, vs, _, rv, ha⟩
      · have z' := (if_neg hb).symm.trans z
        cases z'
theorem seer_sys {h : Heap} (x : h.NoSeer) : ∃ mm, h.Ns sysModules mm := let ⟨mm, e, _⟩ := x.mods; ⟨mm, e⟩
theorem walkD {l : PySem.W.OpenLaw} {n k : Nat} {q : Program} {loose : List Str} {XP : (Str → Option Value) → Heap → Prop} {YP : World → Heap → Prop} {d : DefRec} {K : Params → PySem.W.Frag} {sp : DSp} {x : Str}
    (hn : l.most = some n) (hn2 : n ≤ sizeLine) (hdf : d.params.defaults = []) (hr : Room k callerA) (himp : importsNone q = true) (hY : ∀ (w : World) (h : Heap), YP w h → (K w.params).In h)
    (F : ∀ (w : World) (mg : Str → Option Value) (fa : Addr) (h : Heap), (K w.params).In h → h.Ns mainGlobals mg → mg d.name = some (.ref fa) →
      ∃ fd : FuncData, (∀ (s : Shared) (u : Value), BindsTo s fd ⟨[u], []⟩ [(x, u)]) ∧
        ∀ base : Heap, (K w.params).In base → base.Ns mainGlobals mg → (∃ o, base.get? sysModules = some o) → FnG l.prog w (K w.params) mg base k fa fd [x] sp)
    (hsp : ∀ ns : List Int, ns.length ≤ n → sp [.node .klst (ns.map D.int)] (fun _ => none) (fun _ _ _ => False) (fun d _ => d = .bl true)) :
    PySem.W.WalkO q loose XP YP l.row.toRowW d [] (fun f vs => PySem.call f vs) := by
  refine Att.attach_call hn hdf fun w s0 s1 mg mb fa o pm cd doc a vs ns G Y ho hd hcd hmg hobj hints hlen hg => ?_
  have KX := hY w _ Y
  obtain ⟨fd, hb, hF⟩ := F w mg fa _ KX G.T.g hmg
  exact law_end KX G.T.g G.T.b G.T.builtins G.T.nolimit (seer_sys (G.T.seer himp)) hg hobj hints (Nat.le_trans hlen hn2) hr hF hb (hsp ns hlen)
end DL

/-! DL: isinstance, methods of texts and lists, own exceptions made and raised. -/
namespace DL
open PySem PySem.Spec PyProof.Rows L2

/-! ### types -/
/-- a thing's type: built-in, a class of objects, a class of exceptions -/
inductive TyK where
  | b (n : String)
  | o (c : Str)
  | e (c : Str)
  deriving DecidableEq
/-- a class asked for: built-in, own -/
inductive CK where
  | b (n : String)
  | c (c : Str)
  deriving DecidableEq
def kdTy : Kd → Option TyK
  | .lst => some (.b "list")
  | .klst => some (.b "list")
  | .tup => some (.b "tuple")
  | .dct _ => some (.b "dict")
  | .obj c _ => some (.o c)
  | .exc c _ => some (.e c)
  | .cau .. => none
def tyK (x : D) (κ : Kap) : Option TyK := match x with
  | .non => some (.b "NoneType")
  | .bl _ => some (.b "bool")
  | .int _ => some (.b "int")
  | .str _ => some (.b "str")
  | x => (view x κ).bind fun p => kdTy p.1
def clsK : D → Option CK
  | .ty n => some (.b n)
  | .glb c => some (.c c)
  | _ => none
def TyVal (mg : Str → Option Value) : TyK → Value → Prop
  | .b n, v => v = .type n
  | .o c, v => ∃ ca, mg c = some (.ref ca) ∧ v = .ref ca
  | .e c, v => ∃ ca, mg c = some (.ref ca) ∧ v = .ref ca
def CkVal (mg : Str → Option Value) : CK → Value → Prop
  | .b n, v => v = .type n
  | .c c, v => ∃ ca, mg c = some (.ref ca) ∧ v = .ref ca
/-- what the written part says of an instance's class, for isinstance -/
structure InsT (K : PySem.W.Frag) (C : Addr) : Prop where
  cl : Cls K C
  ha : PySem.W.findIn K (.ref C) "__class__" = some (some (.builtin "object.__class__"))
  hn : PySem.W.specialIn K (.builtin "object.__class__") "__get__" = some (some (.builtin "getset_descriptor.__get__"))
  ht : PySem.W.takesIn K (.builtin "object.__class__") = some true
  hm : PySem.W.mroIn K C (.type "object") = some true
abbrev KTab := TyK → CK → Option Bool
/-- a table of answers of isinstance, told rightly -/
structure KitT (K : PySem.W.Frag) (mg : Str → Option Value) (kt : KTab) : Prop where
  ok : ∀ t u b, kt t u = some b → ∀ tv uv, TyVal mg t tv → CkVal mg u uv → PySem.W.kitOne K tv uv = some b
  obj : ∀ c u b, kt (.o c) u = some b → ∀ ca, mg c = some (.ref ca) → InsT K ca
  exc : ∀ c u b, kt (.e c) u = some b → ∀ ca, mg c = some (.ref ca) → L2.ExcC K ca
def ktAny (kt : KTab) (t : TyK) : List D → Option Bool
  | [] => some false
  | d :: ds => match clsK d with
    | none => none
    | some u => match kt t u with
      | some true => some true
      | some false => ktAny kt t ds
      | none => none
def fIsi (kt : KTab) : DN := fun xs κ Q => match xs with
  | [x, .node .tup (c :: cs)] => ∃ t b, tyK x κ = some t ∧ ktAny kt t (c :: cs) = some b ∧ Q (.bl b) κ
  | [x, .ty n] => ∃ t b, tyK x κ = some t ∧ kt t (.b n) = some b ∧ Q (.bl b) κ
  | [x, .glb c] => ∃ t b, tyK x κ = some t ∧ kt t (.c c) = some b ∧ Q (.bl b) κ
  | _ => False
def rIsiD (C : Ctx) (kt : KTab) : List V → Hp → VK → Prop := fun vs H Q => ∃ F ρ κ xs QD, StR C F ρ κ H ∧ RepL C F ρ xs vs ∧ fIsi kt xs κ QD ∧ Post C F ρ QD Q
theorem sim_isi {C : Ctx} {kt : KTab} : SimN C (fIsi kt) (rIsiD C kt) := fun F ρ κ H xs vs QD Q S r h P => ⟨F, ρ, κ, xs, QD, S, r, h, P⟩
section
variable {X : Cx} {W : WX} {k : Nat} {kt : KTab} {pins : List (Addr × Obj)} {σ : L2.St} {H : Hp} {s : Shared} {F : Hp} {ρ : Loc0} {κ : Kap}
theorem excK {K : PySem.W.Frag} {ca a : Addr} {o : Obj} {od : Option Obj} (E : L2.ExcC K ca) : PySem.W.KitX K (.ref a) (.ref ca) (fun h => PySem.W.InstAt h a o ca od) :=
  PySem.W.kitx_exc (by obtain ⟨cd, h, _⟩ := PySem.W.any_some E.hd; rw [h]; rfl) E.hg E.hk E.hs E.ha E.hn E.ht E.hm
/-- what isinstance wants to know of a value -/
theorem kitD (T : KitT X.K X.mg kt) (I : L2.Inv X pins σ H s) (S : StR (CtxOf X) F ρ κ H) {x : D} {v : V} {u : Value} {t : TyK} (r : Rep (CtxOf X) F ρ x v) (rv : RelV v u) (ht : tyK x κ = some t) (hk : ∃ w b, kt t w = some b) :
    ∃ tv P, TyVal X.mg t tv ∧ PySem.W.KitX X.K u tv P ∧ P s.heap ∧ u ≠ .builtin "__main__.__loader__#opaque" := by
  have base : ∀ {tv : Value}, TyX X.K H v tv → TyVal X.mg t tv → ∃ tv P, TyVal X.mg t tv ∧ PySem.W.KitX X.K u tv P ∧ P s.heap ∧ u ≠ .builtin "__main__.__loader__#opaque" := fun {tv} tx h => by
    obtain ⟨P, Z, p, hx⟩ := kit_of I rv tx
    exact ⟨tv, P, h, Z, p, hx⟩
  have key : (view x κ).bind (fun p => kdTy p.1) = some t → ∃ tv P, TyVal X.mg t tv ∧ PySem.W.KitX X.K u tv P ∧ P s.heap ∧ u ≠ .builtin "__main__.__loader__#opaque" := by
    intro h
    cases ev : view x κ with
    | none => rw [ev] at h; cases h
    | some p =>
      obtain ⟨kd, xs⟩ := p
      rw [ev] at h
      obtain ⟨a, vs, rfl, hk', rl⟩ := view_at S r ev
      cases kd with
      | lst => cases h; exact base (.base (.lst hk')) rfl
      | klst =>
        cases h
        rcases hk' with (h1 | ⟨o, h1⟩) | ⟨o, its, n, h1, h2, _⟩
        · exact base (.base (.lst h1)) rfl
        · exact base (.base (.frz h1)) rfl
        · exact base (.kList h1 h2) rfl
      | tup =>
        cases h
        rcases hk' with (h1 | ⟨o, h1⟩) | ⟨o, its, n, h1, h2, _⟩
        · exact base (.base (.tup h1)) rfl
        · exact base (.fTuple h1) rfl
        · exact base (.kTuple h1 h2) rfl
      | dct ks =>
        cases h
        obtain ⟨kvs, h1, _⟩ := hk'
        exact base (.base (.dK h1)) rfl
      | cau c a1 C1 dd => cases h
      | obj c ns =>
        cases h
        obtain ⟨ca, dx, fs, h0, h1, _⟩ := hk'
        obtain ⟨w, b, hw⟩ := hk
        have q := T.obj c w b hw ca h0
        exact base (.base (.ins h1 q.cl q.ha q.hn q.ht q.hm)) ⟨ca, h0, rfl⟩
      | exc c ns =>
        cases h
        obtain ⟨ca, h0, h1⟩ := hk'
        obtain ⟨w, b, hw⟩ := hk
        have q := T.exc c w b hw ca h0
        cases rv
        rcases h1 with ⟨_, _, h1⟩ | ⟨d, fs, h1, h2, _⟩
        · obtain ⟨t1, ho⟩ := exo_at I.hok h1
          exact ⟨.ref ca, _, ⟨ca, h0, rfl⟩, excK (od := none) q, ⟨ho, rfl, rfl, trivial⟩, fun z => nomatch z⟩
        · obtain ⟨t1, ho⟩ := exo_at I.hok h1
          obtain ⟨mA, ⟨od, _, _, hd, _⟩, _⟩ := exd_at I.hok h2
          exact ⟨.ref ca, _, ⟨ca, h0, rfl⟩, excK (od := some od) q, ⟨ho, rfl, rfl, hd⟩, fun z => nomatch z⟩
  cases x with
  | non => cases r; cases ht; exact base (.base .non) rfl
  | bl b => cases r; cases ht; exact base (.base (.bl b)) rfl
  | int i => cases r; cases ht; exact base (.base (.int i)) rfl
  | str y => cases r; cases ht; exact base (.base (.str y)) rfl
  | _ => exact key ht
theorem ktAny_first {t : TyK} {c : D} {cs : List D} {b : Bool} (h : ktAny kt t (c :: cs) = some b) : ∃ w b, kt t w = some b := by
  unfold ktAny at h
  cases e : clsK c with
  | none => rw [e] at h; cases h
  | some u =>
    rw [e] at h
    cases e2 : kt t u with
    | none => simp only [e2] at h; cases h
    | some b' => exact ⟨u, b', e2⟩
theorem clsK_val {c : D} {v : V} {w : Value} {u : CK} (r : Rep (CtxOf X) F ρ c v) (rv : RelV v w) (e : clsK c = some u) : CkVal X.mg u w := by
  cases c <;> first | (cases e; done) | skip
  · cases e; cases r; exact rv
  · cases e
    cases r with
    | glb h => exact ⟨_, h, rv⟩
theorem kitAny_of (T : KitT X.K X.mg kt) {t : TyK} {tv : Value} (htv : TyVal X.mg t tv) : ∀ {cs : List D} {vs : List V} {us : List Value} {b : Bool}, RepL (CtxOf X) F ρ cs vs → Vals vs us → ktAny kt t cs = some b → PySem.W.kitAny X.K tv us = some b
  | _, _, _, _, .nil, .nil, h => by cases h; rfl
  | _, _, _, b, .cons (d := d) r rs, .cons rv rvs, h => by
    unfold ktAny at h
    cases e : clsK d with
    | none => rw [e] at h; cases h
    | some u =>
      rw [e] at h
      cases e2 : kt t u with
      | none => simp only [e2] at h; cases h
      | some b' =>
        simp only [e2] at h
        have q := T.ok t u b' e2 tv _ htv (clsK_val r rv e)
        cases b' with
        | true => cases h; exact kitAny_cons q (fun z => nomatch z) fun _ => rfl
        | false => exact kitAny_cons q (fun _ => kitAny_of T htv rs rvs h) fun z => nomatch z
theorem call_isiD (T : KitT X.K X.mg kt) : CallR X (.builtin "isinstance") (rIsiD (CtxOf X) kt) := by
  intro pins s σ H vs us Q I rv ⟨F, ρ, κ, xs, QD, S, r, h, P⟩
  have one : ∀ {x c : D} {t : TyK} {u : CK} {b : Bool}, RepL (CtxOf X) F ρ [x, c] vs → tyK x κ = some t → clsK c = some u → kt t u = some b → QD (.bl b) κ → wpAny (model X.prog X.w) X.A (call (.builtin "isinstance") us) (EP X pins σ Q) X.xe s := by
    intro x c t u b r h1 h2 h3 q
    obtain ⟨v, w, rfl, rx, rc⟩ := repL2 r
    obtain ⟨u1, u2, rfl, r1, r2⟩ := vals2 rv
    obtain ⟨tv, Pr, htv, Z, p, hx⟩ := kitD T I S rx r1 h1 ⟨u, b, h3⟩
    exact PySem.W.kia_one Z I.kIn p (T.ok t u b h3 tv u2 htv (clsK_val rc r2 h2)) hx fun tk => ⟨.bl b, H, I.tok tk, rfl, P _ _ _ _ _ _ (Ext.refl _ _) S (.bl b) q⟩
  unfold fIsi at h
  split at h
  · rename_i x c cs
    obtain ⟨t, b, h1, h2, q⟩ := h
    obtain ⟨v, w, rfl, rx, rc⟩ := repL2 r
    obtain ⟨u1, u2, rfl, r1, r2⟩ := vals2 rv
    obtain ⟨a, vs, rfl, hk, rl⟩ := view_at (k := .tup) (xs := c :: cs) S rc rfl
    cases r2
    obtain ⟨its, rvs, ⟨o, ho, hc, n, hd⟩, _⟩ := I.tuple hk
    obtain ⟨tv, Pr, htv, Z, p, hx⟩ := kitD T I S rx r1 h1 (ktAny_first h2)
    obtain ⟨oc, od, dt, sl⟩ := o
    simp only at hc hd
    subst hc hd
    exact PySem.W.kia_tup Z I.kIn p ho (kitAny_of T htv rl rvs h2) hx fun tk => ⟨.bl b, H, I.tok tk, rfl, P _ _ _ _ _ _ (Ext.refl _ _) S (.bl b) q⟩
  · obtain ⟨t, b, h1, h2, q⟩ := h
    exact one r h1 rfl h2 q
  · obtain ⟨t, b, h1, h2, q⟩ := h
    exact one r h1 rfl h2 q
  · exact h.elim
end

/-! ### methods of texts -/
def dM1 (f : D → D → Kap → DQ → Prop) (a b : DE) : DE := fun δ κ X Q => a δ κ X fun x κ1 => (∃ y, x = .str y) ∧ b δ κ1 X fun z κ2 => f x z κ2 Q
def dM0 (f : D → Kap → DQ → Prop) (a : DE) : DE := fun δ κ X Q => a δ κ X fun x κ1 => (∃ y, x = .str y) ∧ f x κ1 Q
theorem lift_m1 {C : Ctx} {W : WX} {f : D → D → Kap → DQ → Prop} {r : V → List V → Hp → VK → Prop} {a b : DE} (hs : Sim2 C f (fun x y H Q => r x [y] H Q)) {σ : L2.St} {H : Hp} {Q : VK} (h : liftE C W (dM1 f a b) σ H Q) : tM1 r (liftE C W a) (liftE C W b) σ H Q := by
  obtain ⟨F, ρ, κ, δ, XD, QD, S, R, h, P, PX⟩ := h
  refine ⟨F, ρ, κ, δ, XD, _, S, R, h, fun F1 ρ1 κ1 H1 x v e1 S1 R1 ⟨⟨y, hy⟩, h1⟩ => ?_, PX⟩
  subst hy
  cases R1
  exact ⟨⟨y, rfl⟩, F1, ρ1, κ1, δ, XD, _, S1, R.ext e1, h1, fun F2 ρ2 κ2 H2 z u e2 S2 R2 h2 => hs _ _ _ _ _ _ _ _ _ _ S2 (.str y) R2 h2 (P.ext (e1.trans e2)), PX.ext e1⟩
theorem lift_m0 {C : Ctx} {W : WX} {f : D → Kap → DQ → Prop} {r : V → List V → Hp → VK → Prop} {a : DE} (hs : Sim1 C f (fun x H Q => r x [] H Q)) {σ : L2.St} {H : Hp} {Q : VK} (h : liftE C W (dM0 f a) σ H Q) : tM0 r (liftE C W a) σ H Q := by
  obtain ⟨F, ρ, κ, δ, XD, QD, S, R, h, P, PX⟩ := h
  refine ⟨F, ρ, κ, δ, XD, _, S, R, h, fun F1 ρ1 κ1 H1 x v e1 S1 R1 ⟨⟨y, hy⟩, h1⟩ => ?_, PX⟩
  subst hy
  cases R1
  exact ⟨⟨y, rfl⟩, hs _ _ _ _ _ _ _ _ S1 (.str y) h1 (P.ext e1)⟩
def fJoin : D → D → Kap → DQ → Prop := fun x y κ Q => match x with
  | .str a => ∃ ys : List Str, (view y κ = some (.lst, ys.map D.str) ∨ view y κ = some (.tup, ys.map D.str)) ∧ (ys.map (·.length)).sum + ys.length * a.length ≤ 16777216 ∧ Q (.str (Txt.join a ys)) κ
  | _ => False
section
variable {X : Cx} {W : WX} {e1 e2 : Expr} {a b : DE} {apos pos : Pos}
theorem sim_join {C : Ctx} : Sim2 C fJoin (fun x y H Q => ∃ a p, ∃ ys : List Str, x = .str a ∧ [y] = [.ref p] ∧ (SqL C.K H p (ys.map V.str) ∨ SqT C.K H p (ys.map V.str)) ∧ (ys.map (·.length)).sum + ys.length * a.length ≤ 16777216 ∧ Q (.str (Txt.join a ys)) H) := by
  intro F ρ κ H x y v u QD Q S rx ry h P
  cases x <;> first | exact h.elim | skip
  cases rx
  obtain ⟨ys, h1, h2, h3⟩ := h
  rcases h1 with h1 | h1
  · obtain ⟨p, vs, rfl, hk, rl⟩ := view_at S ry h1
    have e := rl.strs
    subst e
    exact ⟨_, p, ys, rfl, rfl, .inl (SqL.of hk), h2, P _ _ _ _ _ _ (Ext.refl _ _) S (.str _) h3⟩
  · obtain ⟨p, vs, rfl, hk, rl⟩ := view_at S ry h1
    have e := rl.strs
    subst e
    exact ⟨_, p, ys, rfl, rfl, .inr hk, h2, P _ _ _ _ _ _ (Ext.refl _ _) S (.str _) h3⟩
theorem pd_join (ho : PED X W e1 a) (he : PED X W e2 b) (hs : starEach [e2] X.env = [(false, eval e2 X.env)] := by rfl) (hbase : attributeBase e1 "join" X.env (eval e1 X.env) = eval e1 X.env := by rfl) (hline : (apos.endLine == pos.line) = true := by rfl) :
    PED X W (.Call (.Attribute e1 "join" apos) [e2] [] pos) (dM1 fJoin a b) := pe_weak (pe_join ho he hs hbase hline) fun _ _ _ => lift_m1 sim_join
end

/-! ### methods of lists -/
def isSeq (T : String) (x : D) (κ : Kap) : Prop := match T with
  | "list" => ∃ xs, view x κ = some (.lst, xs)
  | _ => False
def dBM (T : String) (f : D1N) (a : DE) (as : DA) : DE := fun δ κ X Q => a δ κ X fun x κ1 => isSeq T x κ1 ∧ as δ κ1 X fun xs κ2 => f x xs κ2 Q
theorem isSeq_at {K : PySem.W.Frag} {mg : Str → Option Value} {F : Hp} {ρ : Loc0} {κ : Kap} {H : Hp} {T : String} {x : D} {v : V} (S : StR ⟨K, mg⟩ F ρ κ H) (r : Rep ⟨K, mg⟩ F ρ x v) (h : isSeq T x κ) : tyV K T v H := by
  unfold isSeq at h
  split at h
  · obtain ⟨xs, h⟩ := h
    obtain ⟨a, vs, rfl, hk, _⟩ := view_at S r h
    exact .inl ⟨rfl, vs, SqL.of hk⟩
  · exact h.elim
theorem lift_bm {K : PySem.W.Frag} {mg : Str → Option Value} {W : WX} {T : String} {f : D1N} {r : V → List V → Hp → VK → Prop} {a : DE} {as : DA} (hs : Sim1N ⟨K, mg⟩ f r) {σ : L2.St} {H : Hp} {Q : VK} (h : liftE ⟨K, mg⟩ W (dBM T f a as) σ H Q) : tBM K T r (liftE ⟨K, mg⟩ W a) (liftA ⟨K, mg⟩ W as) σ H Q := by
  obtain ⟨F, ρ, κ, δ, XD, QD, S, R, h, P, PX⟩ := h
  exact ⟨F, ρ, κ, δ, XD, _, S, R, h, fun F1 ρ1 κ1 H1 x v e1 S1 R1 ⟨h0, h1⟩ => ⟨isSeq_at S1 R1 h0, F1, ρ1, κ1, δ, XD, _, S1, R.ext e1, h1, fun F2 ρ2 κ2 H2 ys us e2 S2 R2 h2 => hs _ _ _ _ _ _ _ _ _ _ S2 (R1.ext e2) R2 h2 (P.ext (e1.trans e2)), PX.ext e1⟩, PX⟩
/-- a cell's list, changed -/
theorem cell_lst {C : Ctx} {F : Hp} {ρ : Loc0} {κ : Kap} {H : Hp} {n : Nat} {v : V} {xs : List D} (S : StR C F ρ κ H) (r : Rep C F ρ (.cell n) v) (h : κ n = some (.live .lst xs)) :
    ∃ a vs, v = .ref a ∧ ρ n = some a ∧ H a = some (.lst vs) ∧ RepL C F ρ xs vs ∧ ∀ ys ws, RepL C F ρ ys ws → StR C F ρ (kset κ n (.live .lst ys)) (upd H a (.lst ws)) := by
  obtain ⟨a, vs, rfl, h1, h2, h3⟩ := cell_at S r h
  exact ⟨a, vs, rfl, h1, h2, h3, fun ys ws r => S.write (k' := .lst) h h1 (fun _ q => q) r⟩
def fAppend : D1N := fun x ds κ Q => match x, ds with
  | .cell n, [d] => ∃ xs, κ n = some (.live .lst xs) ∧ xs.length < sizeLine ∧ Q .non (kset κ n (.live .lst (xs ++ [d])))
  | _, _ => False
theorem sim_append {C : Ctx} : Sim1N C fAppend rAppend := by
  intro F ρ κ H x v ds vs QD Q S rx rd h P
  match x, ds, h with
  | .cell n, [d], ⟨xs, h1, h2, h3⟩ =>
    obtain ⟨a, ws, rfl, h4, h5, h6, h7⟩ := cell_lst S rx h1
    obtain ⟨w, rfl, rw'⟩ := repL1 rd
    exact ⟨a, ws, w, rfl, rfl, h5, by rw [← h6.length]; exact h2, P _ _ _ _ _ _ (Ext.refl _ _) (h7 _ _ (h6.append (.cons rw' .nil))) .non h3⟩
section
variable {X : Cx} {W : WX} {o e : Expr} {es : List Expr} {a : DE} {as : DA} {apos cpos : Pos}
theorem pd_append (ho : PED X W o a) (ha : PAD X W (e :: es) as) (hbase : attributeBase o "append" X.env (eval o X.env) = eval o X.env := by rfl)
    (hfew : ((backTo cpos (starEach (e :: es) X.env)).all (fun x => !x.1) && (backToKw cpos (keywordEach [] X.env)).all (fun x => x.1.isSome) && decide ((e :: es).length + ([] : List Keyword).length + (if ([] : List Keyword).isEmpty then 0 else 1) < 30)) = true := by rfl)
    (hline : (apos.endLine == cpos.line) = true := by rfl) (hs : starEach (e :: es) X.env = (false, eval e X.env) :: starEach es X.env := by rfl) (hplain : (backTo cpos (starEach es X.env)).any (·.1) = false := by rfl) :
    PED X W (.Call (.Attribute o "append" apos) (e :: es) [] cpos) (dBM "list" fAppend a as) :=
  pe_weak (pe_bm PySem.F.plainAttrs_list PySem.F.slot_list_append PySem.F.type_list_append mt_append ho ha hbase hfew hline hs hplain) fun _ _ _ => lift_bm sim_append
end
end DL

/-! DL: own exceptions over ValueError, made and raised. -/
namespace DL
open PySem PySem.Spec PyProof.Rows L2

/-- an own class F over ValueError without an __init__ of its own: F.__init__ is ValueError's -/
structure BaseC (K : PySem.W.Frag) (mg : Str → Option Value) (x : Str) (ca : Addr) : Prop where
  m : mg x = some (.ref ca)
  ga : PySem.W.specialIn K (.ref ca) "__getattribute__" = some (some (.builtin "type.__getattribute__"))
  rd : PySem.W.readsIn K ca (.type "type") = true
  fi : PySem.W.findCls K (.ref ca) (.type "type") "__init__" = some (.val (.builtin "ValueError.__init__"))
section
variable {X : Cx} {e : Expr} {es : List Expr} {ta : TA} {x : Str} {ca : Addr} {p1 p2 pos : Pos}
theorem pe_finit {pl : Sem Bool} (B : BaseC X.K X.mg x ca) (ha : PA X (e :: es) ta) (hg : Gl X x := by rfl) (hdb : (x == ("__debug__" : Str)) = false := by decide)
    (hc : eval (.Call (.Attribute (.Name x p1) "__init__" p2) (e :: es) [] pos) X.env = (do
      let ov ← eval (.Name x p1) X.env
      standAt p2.atName
      let (f, first) ← holding [ov] (getMethod ov "__init__" pl)
      callWith pos f first (backTo pos (starEach (e :: es) X.env)) (backToKw pos (keywordEach [] X.env))) := by rfl)
    (he : starEach (e :: es) X.env = (false, eval e X.env) :: starEach es X.env := by rfl) (hpl : (backTo pos (starEach es X.env)).any (·.1) = false := by rfl) :
    PE X (.Call (.Attribute (.Name x p1) "__init__" p2) (e :: es) [] pos) (tVeI X.K ta) := by
  refine ⟨fun pins s σ H Q I h => PySem.W.methodCall_KW (ld_glob I hg B.m ?_ hdb) hc⟩
  refine PySem.W.method_cls I.kIn B.ga (PySem.W.cls_value I.kIn B.rd B.fi (by decide +kernel) ?_)
  refine PyProof.Rows.callWith_method1 (thn (ha.run pos pins _ σ H _ (I.tok _) h) fun us s1 ⟨vs, H1, I1, r1, a, C, ws, ev, hl, T, ea, q⟩ => ?_) he hpl
  subst ev
  cases r1 with
  | @cons _ u0 _ ur ra rw' =>
    cases (show u0 = Value.ref a from ra)
    exact oinit_ok T I1 ea (by rw [← Paired.length rw', sizeLine_eq]; omega) fun s' J => ⟨.non, H1, J, rfl, q⟩
end
/-- an __init__ that lays one field -/
def spEx1 (K : PySem.W.Frag) (f : Str) : Sp := fun vs H Q _ => ∃ (a C : Addr) (y : V), vs = [.ref a, y] ∧ OexC K C ∧ PySem.W.findIn K (.ref C) f = some none ∧ H a = some (exo a C none) ∧ ∀ dx, H dx = none → dx ≠ a → Q .non (upd (upd H dx (exd dx [(f, y)])) a (exo a C (some dx)))
/-- .. two -/
def spEx2 (K : PySem.W.Frag) (f g : Str) : Sp := fun vs H Q _ => ∃ (a C : Addr) (y z : V), vs = [.ref a, y, z] ∧ OexC K C ∧ PySem.W.findIn K (.ref C) f = some none ∧ PySem.W.findIn K (.ref C) g = some none ∧ H a = some (exo a C none) ∧
  ∀ dx, H dx = none → dx ≠ a → Q .non (upd (upd H dx (exd dx [(g, z), (f, y)])) a (exo a C (some dx)))
/-- .. none -/
def spEx0 (K : PySem.W.Frag) : Sp := fun vs H Q _ => ∃ (a C : Addr), vs = [.ref a] ∧ OexC K C ∧ H a = some (exo a C none) ∧ Q .non H
section
variable {P : Program} {w : World} {K : PySem.W.Frag} {mg : Str → Option Value} {base : Heap}
/-- the first statement of such an __init__, F.__init__(self, '..') -/
abbrev InitHead (P : Program) (w : World) (K : PySem.W.Frag) (mg : Str → Option Value) (base : Heap) (N : List Str) (qual : Str) (st s1 : Stmt) (f : Addr) : Prop :=
  ∀ (cdv : Value) (A : Around) (outer : List Env) (s : Shared) (H : Hp) (E : XK), ∃ t : Str, PS (cxOf CX0 P w K mg base N qual (defScope st) f cdv A outer s H E).nox s1 (tDrop (tVeI K (tCons (tVar 0) (tCons (tC (.str t)) tNil))))
theorem ex1_ok {qual : Str} {st s1 : Stmt} {f : Addr} {fd : FuncData} {par fl : Str} {p7 p8 p9 p10 : Pos} (F : Fun K "__init__" qual st f fd) (hi : InitHead P w K mg base ["self", par] qual st s1 f)
    (hb : defBody st = [s1, .Assign [.Attribute (.Name "self" p7) fl p8] (.Name par p9) p10])
    (S : FnScope ["self", par] ["self", par] (defScope st)) (h2 : (defScope st).names.lookup (Str.ofString "self") = some NameKind.local) (h3 : (defScope st).names.lookup par = some NameKind.local)
    (hdp : (par == ("__debug__" : Str)) = false) (hdc : (par == ("__classdict__" : Str)) = false) :
    FnOk P w K mg base CX0 1 f fd ["self", par] (spEx1 K fl) := by
  refine F.ok S (fun vs H Q E h => ?_) (fun cdv A outer s H vs Q E hr h => ?_)
  · obtain ⟨a, C, y, rfl, _⟩ := h; rfl
  · obtain ⟨a, C, y, rfl, hC, hf, ha, q⟩ := h
    rw [hb]
    obtain ⟨t, ht⟩ := hi cdv A outer s H E
    refine ⟨_, pss_cons ht (pss_one (ps_ost (pe_var (i := 0) rfl (.inl h2)) (pe_var (i := 1) rfl (.inl h3) hdp hdc))), ?_⟩
    refine ⟨_, rfl, a, C, _, rfl, (by simp), hC, ha, ?_⟩
    exact ⟨_, rfl, _, rfl, a, C, rfl, hC, hf, .inl ⟨ha, fun dx h1 h2 => q dx h1 h2⟩⟩
theorem ex2_ok {qual : Str} {st s1 : Stmt} {f : Addr} {fd : FuncData} {par par2 fl fl2 : Str} {p7 p8 p9 p10 p11 p12 p13 p14 : Pos} (F : Fun K "__init__" qual st f fd) (hi : InitHead P w K mg base ["self", par, par2] qual st s1 f)
    (hb : defBody st = [s1, .Assign [.Attribute (.Name "self" p7) fl p8] (.Name par p9) p10, .Assign [.Attribute (.Name "self" p11) fl2 p12] (.Name par2 p13) p14])
    (S : FnScope ["self", par, par2] ["self", par, par2] (defScope st)) (h2 : (defScope st).names.lookup (Str.ofString "self") = some NameKind.local) (h3 : (defScope st).names.lookup par = some NameKind.local) (h4 : (defScope st).names.lookup par2 = some NameKind.local)
    (hdp : (par == ("__debug__" : Str)) = false) (hdc : (par == ("__classdict__" : Str)) = false) (hdp2 : (par2 == ("__debug__" : Str)) = false) (hdc2 : (par2 == ("__classdict__" : Str)) = false) :
    FnOk P w K mg base CX0 1 f fd ["self", par, par2] (spEx2 K fl fl2) := by
  refine F.ok S (fun vs H Q E h => ?_) (fun cdv A outer s H vs Q E hr h => ?_)
  · obtain ⟨a, C, y, z, rfl, _⟩ := h; rfl
  · obtain ⟨a, C, y, z, rfl, hC, hf, hf2, ha, q⟩ := h
    rw [hb]
    obtain ⟨t, ht⟩ := hi cdv A outer s H E
    refine ⟨_, pss_cons ht (pss_cons (ps_ost (pe_var (i := 0) rfl (.inl h2)) (pe_var (i := 1) rfl (.inl h3) hdp hdc)) (pss_one (ps_ost (pe_var (i := 0) rfl (.inl h2)) (pe_var (i := 2) rfl (.inl h4) hdp2 hdc2)))), ?_⟩
    refine ⟨_, rfl, a, C, _, rfl, (by simp), hC, ha, ?_⟩
    refine ⟨_, rfl, _, rfl, a, C, rfl, hC, hf, .inl ⟨ha, fun dx h1 h2 => ?_⟩⟩
    refine ⟨_, rfl, _, rfl, a, C, rfl, hC, hf2, .inr ⟨dx, _, upd_same, (by rw [upd_ne h2]; exact upd_same), by simp, ?_⟩⟩
    have e : upd (upd (upd H dx (exd dx [(fl, y)])) a (exo a C (some dx))) dx (exd dx [(fl2, z), (fl, y)]) = upd (upd H dx (exd dx [(fl2, z), (fl, y)])) a (exo a C (some dx)) := by
      funext b'
      unfold upd
      by_cases e1 : b' = dx
      · subst e1; rw [if_pos rfl, if_neg h2, if_pos rfl]
      · rw [if_neg e1, if_neg e1]
        by_cases e2 : b' = a
        · rw [if_pos e2, if_pos e2]
        · rw [if_neg e2, if_neg e2, if_neg e1]
    show Q .non _
    rw [e]
    exact q dx h1 h2
end

/-! ### made as a value -/
/-- an own exception class c: its fields (as they lie, the last one first), how it is made -/
structure ExcM (P : Program) (w : World) (K : PySem.W.Frag) (mg : Str → Option Value) (base : Heap) (c : Str) (ca fI : Addr) (fd : FuncData) (ps : List Str) (sp : Sp) : Prop where
  m : mg c = some (.ref ca)
  ox : OexC K ca
  ini : PySem.W.findIn K (.ref ca) "__init__" = some (some (.ref fI))
  ty : PySem.W.typeIn K (.ref fI) = some (.type "function")
  fn : FnOk P w K mg base CX0 1 fI fd ps sp
  bd : Binds K fd ps []
def dMk (c : Str) (ns : List Str) (as : DA) : DE := fun δ κ X Q => as δ κ X fun xs κ1 => xs.length = ns.length ∧ xs.length ≤ 100 ∧ Q (.node (.exc c ns) xs.reverse) κ1
/-- what an __init__'s promise must give -/
def ExGives (K : PySem.W.Frag) (ns : List Str) (sp : Sp) : Prop := ∀ (a C : Addr) (ys : List V) (H : Hp) (Q : VK) (E : XK), ys.length = ns.length → OexC K C → (∀ f ∈ ns, PySem.W.findIn K (.ref C) f = some none) → H a = some (exo a C none) →
  ((ns = [] → Q .non H) ∧ (ns ≠ [] → ∀ dx, H dx = none → dx ≠ a → Q .non (upd (upd H dx (exd dx (ns.zip ys.reverse))) a (exo a C (some dx))))) → sp (.ref a :: ys) H Q E
theorem exGives1 {K : PySem.W.Frag} {f : Str} : ExGives K [f] (spEx1 K f) := fun a C ys H Q E hl hC hf ha hq => by
  match ys, hl with
  | [y], _ => exact ⟨a, C, y, rfl, hC, hf f (by simp), ha, hq.2 (by simp)⟩
theorem exGives2 {K : PySem.W.Frag} {f g : Str} : ExGives K [g, f] (spEx2 K f g) := fun a C ys H Q E hl hC hf ha hq => by
  match ys, hl with
  | [y, z], _ => exact ⟨a, C, y, z, rfl, hC, hf f (by simp), hf g (by simp), ha, hq.2 (by simp)⟩
theorem exGives0 {K : PySem.W.Frag} : ExGives K [] (spEx0 K) := fun a C ys H Q E hl hC hf ha hq => by
  match ys, hl with
  | [], _ => exact ⟨a, C, rfl, hC, ha, hq.1 rfl⟩
theorem upd_drop {H : Hp} {a : Addr} {o o' : HO} : upd (upd H a o) a o' = upd H a o' := upd_upd
theorem exo_heap {H : Hp} {a dx : Addr} {o o' u : HO} (h : dx ≠ a) : upd (upd (upd H a o) dx u) a o' = upd (upd H dx u) a o' := by
  funext b
  by_cases e : b = a <;> by_cases e2 : b = dx <;> simp [upd, e, e2]
section
variable {X : Cx} {W : WX} {k : Nat} {c : Str} {ca fI : Addr} {fd : FuncData} {ps : List Str} {sp : Sp} {ns : List Str} {e : Expr} {es : List Expr} {as : DA} {p pos : Pos}
theorem zip_parts {ns : List Str} {vs : List V} (h : vs.length = ns.length) : (ns.zip vs.reverse).map (·.1) = ns ∧ (ns.zip vs.reverse).map (·.2) = vs.reverse :=
  ⟨List.map_fst_zip (by rw [List.length_reverse, h]; exact Nat.le_refl _), List.map_snd_zip (by rw [List.length_reverse, h]; exact Nat.le_refl _)⟩
theorem RepL.reverse {C : Ctx} {F : Hp} {ρ : Loc0} : ∀ {xs : List D} {vs : List V}, RepL C F ρ xs vs → RepL C F ρ xs.reverse vs.reverse
  | _, _, .nil => .nil
  | _, _, .cons h t => by
    rw [List.reverse_cons, List.reverse_cons]
    exact (RepL.reverse t).append (.cons h .nil)
theorem pd_mkExc (G : Good (k + 2) X W) (M : ExcM X.prog X.w X.K X.mg X.base c ca fI fd ps sp) (hg : ExGives X.K ns sp) (hf : ∀ f ∈ ns, PySem.W.findIn X.K (.ref ca) f = some none) (ha : PAD X W (e :: es) as) (hgl : Gl X c := by rfl) (hdb : (c == ("__debug__" : Str)) = false := by decide)
    (he : starEach (e :: es) X.env = (false, eval e X.env) :: starEach es X.env := by rfl) (hpl : (backTo pos (starEach es X.env)).any (·.1) = false := by rfl) : PED X W (.Call (.Name c p) (e :: es) [] pos) (dMk c ns as) := by
  refine ⟨fun pins s σ H Q I ⟨F, ρ, κ, δ, XD, QD, S, R, h, P, PX⟩ => ?_⟩
  obtain ⟨nm, q, N, bs, bm, sn, sub, ab, col, dd, k0, k1, k2, k3, k5, hC, hbm⟩ := M.ox.cls
  refine wpAny_Call_Name_kw (ld_glob I hgl M.m ?_ hdb)
  refine PySem.W.callWith_K (h₀ := X.base) I.ok.mod.kin M.ox.kC (thn (ha.run pos pins s σ H (fun vs H1 => ∃ F1 ρ1 κ1 xs, Ext F ρ F1 ρ1 ∧ StR (CtxOf X) F1 ρ1 κ1 H1 ∧ RepL (CtxOf X) F1 ρ1 xs vs ∧ xs.length = ns.length ∧ xs.length ≤ 100 ∧ QD (.node (.exc c ns) xs.reverse) κ1) I
    ⟨F, ρ, κ, δ, XD, _, S, R, h, fun F1 ρ1 κ1 H1 xs vs e1 S1 R1 h1 => ⟨F1, ρ1, κ1, xs, e1, S1, R1, h1⟩, PX⟩) fun us s1 ⟨vs, H1, I1, r1, F1, ρ1, κ1, xs, e1, S1, R1, hn, h100, hQ⟩ => ⟨I1.kIn, ?_⟩) he hpl
  show wpAny _ _ (call (.ref ca) us) _ _ _
  obtain ⟨hp, g, dr, tk, os⟩ := s1
  have hsz : hp.objs.size ≤ hp.objs.size + 1 := Nat.le_succ _
  have hnn : H1 (hp.objs.size + 1) = none := I1.hok.fresh hsz
  have kk : ∀ b o, hp.get? b = some o → ((hp.push (PySem.W.kdv_tup us)).push (PySem.HandSPX.excO ca hp.objs.size)).get? b = some o := fun b o e => Heap.get?_push_of_some _ (Heap.get?_push_of_some _ e)
  have hget : ((hp.push (PySem.W.kdv_tup us)).push (PySem.HandSPX.excO ca hp.objs.size)).get? (hp.objs.size + 1) = some (PySem.HandSPX.excO ca hp.objs.size) := by heap_get
  have I2 : L2.Inv X pins σ (upd H1 (hp.objs.size + 1) (exo (hp.objs.size + 1) ca none)) ⟨(hp.push (PySem.W.kdv_tup us)).push (PySem.HandSPX.excO ca hp.objs.size), g, dr, tk, os⟩ := I1.laid (t' := tk) (o := exo (hp.objs.size + 1) ca none) kk hsz (exo_ok hget)
  have lv : vs.length = ns.length := by rw [← R1.length, hn]
  have hq := hg (hp.objs.size + 1) ca vs (upd H1 (hp.objs.size + 1) (exo (hp.objs.size + 1) ca none)) (fun v H2 => v = .non ∧ Q (.ref (hp.objs.size + 1)) H2) E0 lv M.ox hf upd_same ⟨fun hnil => ⟨rfl, by
      subst hnil
      cases xs with
      | cons => simp at hn
      | nil =>
        cases R1
        obtain ⟨ex, S2⟩ := S1.laid (o := exo (hp.objs.size + 1) ca none) hnn
        exact P _ _ _ _ _ _ (e1.trans ex) S2 (.node (k := .exc c []) ⟨ca, M.m, .inl ⟨rfl, rfl, upd_same⟩⟩ .nil) hQ⟩, fun hne dx hdx hda => ⟨rfl, by
      rw [exo_heap hda]
      have hdx' : H1 dx = none := by rw [upd_ne hda] at hdx; exact hdx
      obtain ⟨z1, z2⟩ := zip_parts lv
      obtain ⟨ex, S2⟩ := S1.laid (o := exd dx (ns.zip vs.reverse)) hdx'
      obtain ⟨ex2, S3⟩ := S2.laid (p := hp.objs.size + 1) (o := exo (hp.objs.size + 1) ca (some dx)) (by rw [upd_ne hda.symm]; exact hnn)
      exact P _ _ _ _ _ _ (e1.trans (ex.trans ex2)) S3 (.node (k := .exc c ns) ⟨ca, M.m, .inr ⟨dx, _, upd_same, by rw [upd_ne hda]; exact upd_same, z1, z2⟩⟩ ((R1.ext (ex.trans ex2)).reverse)) hQ⟩⟩
  have hl : (Value.ref (hp.objs.size + 1) :: us ++ []).length = ps.length := by
    have e := M.fn.len _ _ _ _ hq
    rw [List.length_cons] at e
    rw [List.append_nil, List.length_cons, ← Paired.length r1]
    exact e
  have hbd := M.bd _ (Value.ref (hp.objs.size + 1) :: us) I2.kIn hl
  rw [List.append_nil] at hbd
  have hus : us.length ≤ sizeLine := by
    rw [← Paired.length r1, lv, ← hn, sizeLine_eq]
    omega
  refine wpAny_call (PySem.HandSPX.call_own PySem.F.excBase_ValueError (fun Y => PySem.HandSPX.refsVE_contains Y bm hbm) (I1.kIn _ _ hC) (PySem.W.looks_findIn I1.kIn M.ini) (fun self => PySem.W.bind_fn I1.kIn self M.ty) hus
    (codeAny_mono (M.fn.run _ X.stack _ _ ⟨Value.ref (hp.objs.size + 1) :: us, []⟩ (Value.ref (hp.objs.size + 1) :: us) (V.ref (hp.objs.size + 1) :: vs) _ E0 ((G.rm.mono (by omega : 2 ≤ k + 2)).make ca us []) (I2.env0.make ca us []) hbd (.cons rfl r1) hq) fun r s' hq' => ?_))
  cases r with
  | error er => exact hq'.elim
  | ok fl =>
    cases fl with
    | ret u =>
      obtain ⟨v, H', J, rv, ev, q2⟩ := I2.after (X := X) (pins := pins) (σ := σ) hq'
      subst ev
      exact ⟨rv, .ref (hp.objs.size + 1), H', J, rfl, q2⟩
    | next => exact False.elim hq'
    | brk => exact False.elim hq'
    | cont => exact False.elim hq'
end
end DL

/-! DL: displays of dicts, defs by name. -/
namespace DL
open PySem PySem.Spec PyProof.Rows L2

theorem takesN0 {X : Cx} : L2N.Takes X (fun _ _ _ _ => False) := fun _ _ ⟨_, _, _, _, _, _, _, _, _, _, _, _, _, _, _, _, z⟩ => z.elim
theorem Good.blk {k : Nat} {X : Cx} {W : WX} (G : Good k X W) {s : Shared} {H : Hp} {scope : Scope} {cenv : Env} {fp : List Addr} : Good k (X.blk s H scope cenv fp) WF :=
  ⟨takesN0, PassesOwn.never, G.rm, G.gd, G.sm, G.calm, G.nd⟩
def fNeg : D1 := fun x κ Q => match x with
  | .int i => Q (.int (-i)) κ
  | _ => False
theorem sim_neg {C : Ctx} : Sim1 C fNeg (rU fun i => .int (-i)) := by
  intro F ρ κ H x v QD Q S r h P
  cases x <;> first | exact h.elim | skip
  cases r
  exact ⟨_, rfl, P _ _ _ _ _ _ (Ext.refl _ _) S (.int _) h⟩
theorem pd_neg {X : Cx} {W : WX} {e : Expr} {a : DE} {pos : Pos} (ha : PED X W e a) : PED X W (.UnaryOp .USub e pos) (dUn fNeg a) := pd_un un_neg sim_neg ha

/-! ### dicts written out -/
def dDct0 (m : Bool) : DE := fun _ κ _ Q => fNew m (.dct []) [] κ Q
theorem pd_dct0 {X : Cx} {W : WX} {pos : Pos} (m : Bool) : PED X W (.Dict [] [] pos) (dDct0 m) := pe_weak pe_dnewK fun σ H Q ⟨F, ρ, κ, δ, XD, QD, S, R, h, P, PX⟩ =>
  new_dct (kvs := []) S .nil h P
def dPairs : List (DE × DE) → DEnv → Kap → DX → (List (D × D) → Kap → Prop) → Prop
  | [], _, κ, _, Q => Q [] κ
  | (a, b) :: r, δ, κ, X, Q => a δ κ X fun x κ1 => b δ κ1 X fun y κ2 => dPairs r δ κ2 X fun ps κ3 => Q ((x, y) :: ps) κ3
def dDisp (m : Bool) (prs : List (DE × DE)) : DE := fun δ κ X Q => ∀ n, κ n = none → dPairs prs δ (kset κ n (.live (.dct []) [])) X fun ps κ1 => κ1 n = some (.live (.dct []) []) ∧ ∃ ks : List Key, ps.map (·.1) = ks.map keyD ∧ ks.Nodup ∧ ks.length ≤ 15 ∧
  match m with
  | true => Q (.cell n) (kset κ1 n (.live (.dct ks) (ps.map (·.2))))
  | false => Q (.node (.dct ks) (ps.map (·.2))) (kset κ1 n .dead)
inductive RepP (C : Ctx) (F : Hp) (ρ : Loc0) : List (D × D) → List (V × V) → Prop
  | nil : RepP C F ρ [] []
  | cons {x y : D} {v u : V} {ps : List (D × D)} {qs : List (V × V)} (h1 : Rep C F ρ x v) (h2 : Rep C F ρ y u) (t : RepP C F ρ ps qs) : RepP C F ρ ((x, y) :: ps) ((v, u) :: qs)
theorem RepP.ext {C : Ctx} {F F' : Hp} {ρ ρ' : Loc0} (e : Ext F ρ F' ρ') : ∀ {ps : List (D × D)} {qs : List (V × V)}, RepP C F ρ ps qs → RepP C F' ρ' ps qs
  | _, _, .nil => .nil
  | _, _, .cons h1 h2 t => .cons (h1.ext e) (h2.ext e) (RepP.ext e t)
theorem RepP.snd {C : Ctx} {F : Hp} {ρ : Loc0} : ∀ {ps : List (D × D)} {qs : List (V × V)}, RepP C F ρ ps qs → RepL C F ρ (ps.map (·.2)) (qs.map (·.2))
  | _, _, .nil => .nil
  | _, _, .cons _ h2 t => .cons h2 (RepP.snd t)
theorem RepP.keys {C : Ctx} {F : Hp} {ρ : Loc0} : ∀ {ks : List Key} {ps : List (D × D)} {qs : List (V × V)}, RepP C F ρ ps qs → ps.map (·.1) = ks.map keyD → ∃ kvs : List (Key × V), qs = kvs.map (fun kv => (kV kv.1, kv.2)) ∧ kvs.map (·.1) = ks ∧ kvs.map (·.2) = qs.map (·.2)
  | [], _, _, .nil, _ => ⟨[], rfl, rfl, rfl⟩
  | k :: ks, _, _, .cons (u := u) h1 _ t, h => by
    rw [List.map_cons, List.map_cons] at h
    obtain ⟨e1, e2⟩ := List.cons.inj h
    obtain ⟨kvs, q1, q2, q3⟩ := RepP.keys t e2
    have e1' := e1
    subst e1
    refine ⟨(k, u) :: kvs, ?_, by rw [List.map_cons, q2], by rw [List.map_cons, List.map_cons, q3]⟩
    rw [List.map_cons, ← q1]
    cases k with
    | inl i => cases h1; rfl
    | inr x => cases h1; rfl
theorem merge_nodup : ∀ {kvs acc : List (Key × V)}, (acc.map (·.1) ++ kvs.map (·.1)).Nodup → mergeK acc kvs = acc ++ kvs
  | [], acc, _ => by unfold mergeK; simp
  | (k, v) :: r, acc, h => by
    unfold mergeK
    rw [List.foldl_cons]
    have hk : ∀ p ∈ acc, p.1 ≠ k := fun p hp e => by
      rw [List.nodup_append] at h
      exact h.2.2 p.1 (List.mem_map.mpr ⟨p, hp, rfl⟩) k (by simp) e
    have e : putK acc k v = acc ++ [(k, v)] := by
      unfold putK
      rw [if_neg]
      rw [List.any_eq_true]
      rintro ⟨p, hp, q⟩
      exact hk p hp (of_decide_eq_true q)
    show mergeK (putK acc k v) r = _
    rw [e, merge_nodup (by simpa [List.append_assoc] using h), List.append_assoc]
    rfl
theorem lift_pairs {C : Ctx} {W : WX} {Qv : List (V × V) → Hp → Prop} : ∀ {prs : List (DE × DE)} {F : Hp} {ρ : Loc0} {κ : Kap} {δ : DEnv} {σ : L2.St} {H : Hp} {XD : DX} {QD : List (D × D) → Kap → Prop}, StR C F ρ κ H → RepS C F ρ δ σ → dPairs prs δ κ XD QD → PostX C F ρ XD W →
    (∀ F' ρ' κ' H' ps qs, Ext F ρ F' ρ' → StR C F' ρ' κ' H' → RepP C F' ρ' ps qs → QD ps κ' → Qv qs H') → tPairs (prs.map fun p => (liftE C W p.1, liftE C W p.2)) σ H Qv
  | [], F, ρ, κ, δ, σ, H, XD, QD, S, R, h, PX, P => P _ _ _ _ _ _ (Ext.refl _ _) S .nil h
  | (a, b) :: r, F, ρ, κ, δ, σ, H, XD, QD, S, R, h, PX, P => ⟨F, ρ, κ, δ, XD, _, S, R, h, fun F1 ρ1 κ1 H1 x v e1 S1 R1 h1 => ⟨F1, ρ1, κ1, δ, XD, _, S1, R.ext e1, h1, fun F2 ρ2 κ2 H2 y u e2 S2 R2 h2 =>
      lift_pairs S2 (R.ext (e1.trans e2)) h2 (PX.ext (e1.trans e2)) fun F3 ρ3 κ3 H3 ps qs e3 S3 R3 h3 => P _ _ _ _ _ _ (e1.trans (e2.trans e3)) S3 (.cons (R1.ext (e2.trans e3)) (R2.ext e3) R3) h3, PX.ext e1⟩, PX⟩
abbrev PPsD (X : Cx) (W : WX) (pos : Pos) (keys : List (Option Expr)) (values : List Expr) (prs : List (DE × DE)) : Prop := PPs X pos keys values (prs.map fun p => (liftE (CtxOf X) W p.1, liftE (CtxOf X) W p.2))
section
variable {X : Cx} {W : WX} {pos : Pos} {keys : List (Option Expr)} {values : List Expr} {prs : List (DE × DE)} {k v : Expr} {a b : DE}
theorem pps_nilD : PPsD X W pos [] [] [] := pps_nil
theorem pps_consD (h1 : PED X W k a) (h2 : PED X W v b) (h : PPsD X W pos keys values prs) : PPsD X W pos (some k :: keys) (v :: values) ((a, b) :: prs) := pps_cons h1 h2 h
theorem pd_disp (m : Bool) (h : PPsD X W pos keys values prs) (hall : keys.all (·.isSome) = true := by rfl) (hl : keys.length = values.length := by rfl) (h0 : keys ≠ [] := by exact fun z => nomatch z) (h15 : keys.length ≤ 15 := by decide) : PED X W (.Dict keys values pos) (dDisp m prs) :=
  pe_weak (pe_disp h hall hl h0 h15) fun σ H Q ⟨F, ρ, κ, δ, XD, QD, S, R, h, P, PX⟩ p hp => by
  obtain ⟨n, hn⟩ := S.fresh
  obtain ⟨ρ1, e1, hr, S1⟩ := S.cell (o := .dK []) (k := .dct []) (vs := []) (xs := []) hp (fun _ q => ⟨[], q, rfl, rfl⟩) .nil hn
  refine lift_pairs S1 (R.ext e1) (h n hn) (PX.ext e1) fun F2 ρ2 κ2 H2 ps qs e2 S2 R2 ⟨h1, ks, h2, h3, h4, h5⟩ => ?_
  obtain ⟨b, vs, g1, g2, ⟨kvs0, g3, g4, _⟩, g5⟩ := S2.live n _ _ h1
  rw [e2.r _ _ hr] at g1
  cases g1
  have hk0 : kvs0 = [] := by cases kvs0 with | nil => rfl | cons => cases g4
  subst hk0
  obtain ⟨kvs, q1, q2, q3⟩ := R2.keys h2
  refine ⟨g3, kvs, q1, by rw [← List.length_map (f := (·.1)), q2]; exact h4, ?_⟩
  have em : mergeK [] kvs = kvs := by rw [merge_nodup (by rw [q2]; exact h3)]; rfl
  rw [em]
  have S3 : StR (CtxOf X) F2 ρ2 (kset κ2 n (.live (.dct ks) (ps.map (·.2)))) (upd H2 p (.dK kvs)) := S2.write (k' := .dct ks) h1 (e2.r _ _ hr) (fun _ q => ⟨kvs, q, q2, q3⟩) R2.snd
  cases m with
  | true => exact P _ _ _ _ _ _ (e1.trans e2) S3 (.cell (e2.r _ _ hr)) h5
  | false =>
    obtain ⟨F3, e3, r3, S4⟩ := S3.freeze kset_same (e2.r _ _ hr)
    rw [kset_kset] at S4
    exact P _ _ _ _ _ _ (e1.trans (e2.trans e3)) S4 r3 h5
end

/-! ### defs by name -/
/-- a def of the text stands under its name and keeps a promise -/
structure OkD (P : Program) (w : World) (K : PySem.W.Frag) (mg : Str → Option Value) (base : Heap) (k : Nat) (x : Str) (f : Addr) (fd : FuncData) (ps : List Str) (sp : DSp) : Prop where
  m : mg x = some (.ref f)
  kp : PySem.W.keepIn K (.ref f) = true
  fn : FnG P w K mg base k f fd ps sp
  bd : Binds K fd ps []
def Ok (P : Program) (w : World) (K : PySem.W.Frag) (mg : Str → Option Value) (base : Heap) (k : Nat) (x : Str) (ps : List Str) (sp : DSp) : Prop := ∃ f fd, OkD P w K mg base k x f fd ps sp
theorem Ok.mono {P : Program} {w : World} {K : PySem.W.Frag} {mg : Str → Option Value} {base : Heap} {j k : Nat} {x : Str} {ps : List Str} {sp : DSp} (O : Ok P w K mg base j x ps sp) (h : j ≤ k) : Ok P w K mg base k x ps sp :=
  let ⟨f, fd, o⟩ := O; ⟨f, fd, o.m, o.kp, o.fn.mono h, o.bd⟩
section
variable {X : Cx} {W : WX} {j k : Nat} {ps : List Str} {sp : DSp} {x : Str} {e : Expr} {es : List Expr} {as : DA} {p pos : Pos}
theorem pd_callN (G : Good k X W) (O : Ok X.prog X.w X.K X.mg X.base k x ps sp) (ha : PAD X W (e :: es) as) (hg : Gl X x := by rfl) (hdb : (x == ("__debug__" : Str)) = false := by decide)
    (he : starEach (e :: es) X.env = (false, eval e X.env) :: starEach es X.env := by rfl) (hpl : (backTo pos (starEach es X.env)).any (·.1) = false := by rfl) : PED X W (.Call (.Name x p) (e :: es) [] pos) (dCall sp [] as) := by
  obtain ⟨f, fd, o⟩ := O
  exact pd_call G o.fn o.m o.kp o.bd nodef ha hg hdb he hpl
theorem pd_callN0 (G : Good k X W) (O : Ok X.prog X.w X.K X.mg X.base k x ps sp) (hg : Gl X x := by rfl) (hdb : (x == ("__debug__" : Str)) = false := by decide) : PED X W (.Call (.Name x p) [] [] pos) (dCall sp [] dNil) := by
  obtain ⟨f, fd, o⟩ := O
  exact pd_call0 G o.fn o.m o.kp o.bd nodef hg hdb
end
/-- what is known of a def ahead of its proof -/
structure DefAt (K : PySem.W.Frag) (mg : Str → Option Value) (x : Str) (st : Stmt) (f : Addr) (fd : FuncData) : Prop where
  m : mg x = some (.ref f)
  F : Fun K x x st f fd
section
variable {P : Program} {w : World} {K : PySem.W.Frag} {mg : Str → Option Value} {base : Heap}
theorem ok_def {x : Str} {st : Stmt} {f : Addr} {fd : FuncData} {N ps : List Str} {k : Nat} {b : DS} (D : DefAt K mg x st f fd) (S : FnScope N ps (defScope st)) (sm : ∃ o, base.get? sysModules = some o)
    (hbind : ∀ (kV doc pm : Value) (an : Option Addr) (cdv ct : Value) (us : List Value), us.length = ps.length → bindArgs (PySem.W.fnOf x x (defArgs st) (defBody st) (defScope st) .none kV doc pm an cdv ct) ⟨us, []⟩ = pure (ps.zip us))
    (hbody : ∀ (cdv : Value) (A : Around) (outer : List Env) (s : Shared) (H : Hp) (E : XK), Good k (cxD P w K mg base N x (defScope st) f cdv A outer s H E) (wxE E) → PSsD (cxD P w K mg base N x (defScope st) f cdv A outer s H E) (wxE E) (defBody st) b) :
    Ok P w K mg base (k + 1) x ps (spOf N.length ps.length b) :=
  ⟨f, fd, D.m, D.F.kp, Fn_ok D.F S sm hbody, D.F.binds hbind⟩
end
/-! ### exceptions by name -/
def ExOk (P : Program) (w : World) (K : PySem.W.Frag) (mg : Str → Option Value) (base : Heap) (c : Str) (ns : List Str) : Prop :=
  ∃ ca fI fd ps sp, ExcM P w K mg base c ca fI fd ps sp ∧ ExGives K ns sp ∧ ∀ f ∈ ns, PySem.W.findIn K (.ref ca) f = some none
theorem pd_mkE {X : Cx} {W : WX} {k : Nat} {c : Str} {ns : List Str} {e : Expr} {es : List Expr} {as : DA} {p pos : Pos} (G : Good (k + 2) X W) (O : ExOk X.prog X.w X.K X.mg X.base c ns) (ha : PAD X W (e :: es) as) (hgl : Gl X c := by rfl) (hdb : (c == ("__debug__" : Str)) = false := by decide)
    (he : starEach (e :: es) X.env = (false, eval e X.env) :: starEach es X.env := by rfl) (hpl : (backTo pos (starEach es X.env)).any (·.1) = false := by rfl) : PED X W (.Call (.Name c p) (e :: es) [] pos) (dMk c ns as) := by
  obtain ⟨ca, fI, fd, ps, sp, M, hg, hf⟩ := O
  exact pd_mkExc G M hg hf ha hgl hdb he hpl
theorem pd_glbRefE {X : Cx} {W : WX} {x : Str} {p : Pos} (hm : ∃ f, X.mg x = some (.ref f)) (hg : Gl X x := by rfl) (hdb : (x == ("__debug__" : Str)) = false := by decide) : PED X W (.Name x p) (dC (.glb x)) := by
  obtain ⟨f, hm⟩ := hm
  exact pd_glbRef hm hg hdb
end DL

/-! DL: from what the top has left to what the defs lean on. -/
namespace DL
open PySem PySem.Spec PyProof.Rows L2

section
variable {K : PySem.W.Frag} {mg : Str → Option Value} {h : Heap}
theorem defAt_of {x : Str} {st : Stmt} {f : Addr} {oc : Value} {od an : Option Addr} {osl : Array (Option Value)} {kV doc pm cdv ct : Value} (X : K.In h) (G : h.Ns mainGlobals mg) (a : PySem.W.nsIn K mainGlobals x = some (some (.ref f)))
    (l : K.lookup f = some ⟨oc, od, .func (PySem.W.fnOf x x (defArgs st) (defBody st) (defScope st) .none kV doc pm an cdv ct), osl⟩) (c : PySem.W.codeIn K cdv x = true) (k : PySem.W.keepIn K (.ref f) = true) :
    DefAt K mg x st f (PySem.W.fnOf x x (defArgs st) (defBody st) (defScope st) .none kV doc pm an cdv ct) := ⟨PySem.W.mg_of X G a, fun_mk l c k⟩
theorem glb_of {x : Str} {v : Value} (X : K.In h) (G : h.Ns mainGlobals mg) (a : PySem.W.nsIn K mainGlobals x = some (some v)) : mg x = some v := PySem.W.mg_of X G a
theorem bltn_of {x : Str} (X : K.In h) (G : h.Ns mainGlobals mg) (a : PySem.W.nsIn K mainGlobals x = some none) : mg x = none := PySem.W.mg_none_of X G a
theorem baseC_of {x : Str} {ca : Addr} (X : K.In h) (G : h.Ns mainGlobals mg) (a : PySem.W.nsIn K mainGlobals x = some (some (.ref ca))) (ga : PySem.W.specialIn K (.ref ca) "__getattribute__" = some (some (.builtin "type.__getattribute__")))
    (rd : PySem.W.readsIn K ca (.type "type") = true) (fi : PySem.W.findCls K (.ref ca) (.type "type") "__init__" = some (.val (.builtin "ValueError.__init__"))) : BaseC K mg x ca := ⟨PySem.W.mg_of X G a, ga, rd, fi⟩
theorem oexC_of {C : Addr} {nm q : Str} {N : Addr} {bs bm : List Value} {sn : List Str} {sub : List Value} {ab : Bool} {col : Option Bool} {dd : Option Addr} {m0 m1 m2 m3 m5 : Option Value}
    (xL : K.lookup C = some (excClassObj nm q C N bs bm true sn sub ab col dd m0 m1 m2 m3 m5 "ValueError.__new__")) (hb : PySem.HandSPX.refsVE bm = true) (sa : PySem.W.findIn K (.ref C) "__setattr__" = some (some (.builtin "object.__setattr__")))
    (e : PySem.W.subIn K (.ref C) (.type "BaseException") = some true) (t : PySem.W.typeIn K (.ref C) = some (.type "type")) (k : PySem.W.keepIn K (.ref C) = true) : OexC K C := ⟨⟨nm, q, N, bs, bm, sn, sub, ab, col, dd, m0, m1, m2, m3, m5, xL, hb⟩, sa, e, t, k⟩
end
/-! tables of isinstance -/
abbrev KRow := TyK × CK × Bool
def ktOf (tab : List KRow) : KTab := fun t u => match t, u with
  | .b m, .b n => kitB m n
  | t, u => (tab.find? fun p => decide (p.1 = t ∧ p.2.1 = u)).map (·.2.2)
def KFact (K : PySem.W.Frag) (mg : Str → Option Value) (p : KRow) : Prop := (∃ tv uv, TyVal mg p.1 tv ∧ CkVal mg p.2.1 uv ∧ PySem.W.kitOne K tv uv = some p.2.2) ∧ match p.1 with
  | .b _ => True
  | .o c => ∃ ca, mg c = some (.ref ca) ∧ InsT K ca
  | .e c => ∃ ca, mg c = some (.ref ca) ∧ L2.ExcC K ca
theorem tyVal_inj {mg : Str → Option Value} {t : TyK} {a b : Value} (h : TyVal mg t a) (h' : TyVal mg t b) : a = b := by
  cases t with
  | b n => exact (show a = .type n from h).trans (show b = .type n from h').symm
  | o c =>
    obtain ⟨x, hx, rfl⟩ := h
    obtain ⟨y, hy, rfl⟩ := h'
    rw [hx] at hy
    cases hy
    rfl
  | e c =>
    obtain ⟨x, hx, rfl⟩ := h
    obtain ⟨y, hy, rfl⟩ := h'
    rw [hx] at hy
    cases hy
    rfl
theorem ckVal_inj {mg : Str → Option Value} {t : CK} {a b : Value} (h : CkVal mg t a) (h' : CkVal mg t b) : a = b := by
  cases t with
  | b n => exact (show a = .type n from h).trans (show b = .type n from h').symm
  | c c =>
    obtain ⟨x, hx, rfl⟩ := h
    obtain ⟨y, hy, rfl⟩ := h'
    rw [hx] at hy
    cases hy
    rfl
theorem kitT_of {K : PySem.W.Frag} {mg : Str → Option Value} {tab : List KRow} (h : ∀ p ∈ tab, KFact K mg p) : KitT K mg (ktOf tab) := by
  have look : ∀ {t : TyK} {u : CK} {b : Bool}, (tab.find? fun p => decide (p.1 = t ∧ p.2.1 = u)).map (·.2.2) = some b → KFact K mg (t, u, b) := fun {t u b} e => by
    obtain ⟨p, hp, rfl⟩ := Option.map_eq_some_iff.mp e
    have h1 := List.mem_of_find?_eq_some hp
    have h2 := List.find?_some hp
    obtain ⟨rfl, rfl⟩ := of_decide_eq_true h2
    exact h p h1
  have use : ∀ {t : TyK} {u : CK} {b : Bool}, KFact K mg (t, u, b) → ∀ tv uv, TyVal mg t tv → CkVal mg u uv → PySem.W.kitOne K tv uv = some b := fun {t u b} ⟨⟨tv, uv, h1, h2, h3⟩, _⟩ tv' uv' q1 q2 => by
    rw [← tyVal_inj h1 q1, ← ckVal_inj h2 q2]
    exact h3
  refine ⟨fun t u b e tv uv h1 h2 => ?_, fun c u b e ca hc => ?_, fun c u b e ca hc => ?_⟩
  · cases t with
    | b m =>
      cases u with
      | b n =>
        cases (show tv = .type m from h1)
        cases (show uv = .type n from h2)
        exact kit_ty e
      | c c => exact use (look e) tv uv h1 h2
    | o c => exact use (look e) tv uv h1 h2
    | e c => exact use (look e) tv uv h1 h2
  · obtain ⟨_, ca', h1, h2⟩ := look (t := .o c) e
    rw [hc] at h1
    cases h1
    exact h2
  · obtain ⟨_, ca', h1, h2⟩ := look (t := .e c) e
    rw [hc] at h1
    cases h1
    exact h2
theorem kfact_e {K : PySem.W.Frag} {mg : Str → Option Value} {c : Str} {n : String} {b : Bool} {ca : Addr} (m : mg c = some (.ref ca)) (e : L2.ExcC K ca) (k : PySem.W.kitOne K (.ref ca) (.type n) = some b) : KFact K mg (.e c, .b n, b) := ⟨⟨_, _, ⟨ca, m, rfl⟩, rfl, k⟩, ca, m, e⟩
theorem kfact_ec {K : PySem.W.Frag} {mg : Str → Option Value} {c d : Str} {b : Bool} {ca da : Addr} (m : mg c = some (.ref ca)) (m' : mg d = some (.ref da)) (e : L2.ExcC K ca) (k : PySem.W.kitOne K (.ref ca) (.ref da) = some b) : KFact K mg (.e c, .c d, b) := ⟨⟨_, _, ⟨ca, m, rfl⟩, ⟨da, m', rfl⟩, k⟩, ca, m, e⟩
theorem kfact_bc {K : PySem.W.Frag} {mg : Str → Option Value} {d : Str} {n : String} {b : Bool} {da : Addr} (m' : mg d = some (.ref da)) (k : PySem.W.kitOne K (.type n) (.ref da) = some b) : KFact K mg (.b n, .c d, b) := ⟨⟨_, _, rfl, ⟨da, m', rfl⟩, k⟩, trivial⟩
/-! kitB, told -/
theorem kitB_refl (n : String) (h : (Value.type n == Value.type n) = true) : kitB n n = some true := by unfold kitB; rw [if_pos h]
end DL

/-! DL: calls with keywords, defaults; defs that call themselves. -/
namespace DL
open PySem PySem.Spec PyProof.Rows L2

/-- items by their places -/
def pick {α : Type} : List Nat → List α → List α
  | [], _ => []
  | i :: is, l => match l[i]? with
    | some a => a :: pick is l
    | none => pick is l
section
variable {C : Ctx} {F : Hp} {ρ : Loc0}
theorem RepL.getN : ∀ {ds : List D} {vs : List V} {i : Nat}, RepL C F ρ ds vs → ds[i]? = none → vs[i]? = none
  | _, _, i, r, h => by
    rw [List.getElem?_eq_none_iff] at h ⊢
    rw [← r.length]
    exact h
theorem RepL.pick : ∀ {is : List Nat} {ds : List D} {vs : List V}, RepL C F ρ ds vs → RepL C F ρ (pick is ds) (pick is vs)
  | [], _, _, _ => .nil
  | i :: is, ds, vs, r => by
    unfold DL.pick
    cases e : ds[i]? with
    | none => rw [r.getN e]; exact RepL.pick r
    | some d =>
      obtain ⟨v, h1, h2⟩ := r.get e
      rw [h1]
      exact .cons h2 (RepL.pick r)
end
theorem vals_get : ∀ {vs : List V} {us : List Value} {i : Nat}, Vals vs us → (∃ v u, vs[i]? = some v ∧ us[i]? = some u ∧ RelV v u) ∨ (vs[i]? = none ∧ us[i]? = none)
  | [], _, i, .nil => .inr ⟨rfl, rfl⟩
  | v :: vs, _, 0, .cons h t => .inl ⟨v, _, rfl, rfl, h⟩
  | v :: vs, _, i + 1, .cons h t => by
    rw [List.getElem?_cons_succ, List.getElem?_cons_succ]
    exact vals_get t
theorem vals_pick : ∀ {is : List Nat} {vs : List V} {us : List Value}, Vals vs us → Vals (pick is vs) (pick is us)
  | [], _, _, _ => .nil
  | i :: is, vs, us, r => by
    unfold pick
    rcases vals_get (i := i) r with ⟨v, u, h1, h2, h3⟩ | ⟨h1, h2⟩
    · rw [h1, h2]
      exact .cons h3 (vals_pick r)
    · rw [h1, h2]
      exact vals_pick r
/-- a def that may be called with n values by place and the keywords ks; is tells where each parameter's value stands among the values by place, the keywords' values and the defaults dds -/
def OkC (P : Program) (w : World) (K : PySem.W.Frag) (mg : Str → Option Value) (base : Heap) (k : Nat) (x : Str) (n : Nat) (ks : List Str) (is : List Nat) (dds : List D) (sp : DSp) : Prop :=
  ∃ f fd ps, ∃ dvs : List V, ∃ its : List Value, mg x = some (.ref f) ∧ PySem.W.keepIn K (.ref f) = true ∧ FnG P w K mg base k f fd ps sp ∧ KBn K fd ps n ks (fun us ws => pick is (us ++ (ws ++ its))) (fun vs zs => pick is (vs ++ (zs ++ dvs))) ∧ ∀ F ρ, RepL ⟨K, mg⟩ F ρ dds dvs
theorem OkC.mono {P : Program} {w : World} {K : PySem.W.Frag} {mg : Str → Option Value} {base : Heap} {j k : Nat} {x : Str} {n : Nat} {ks : List Str} {is : List Nat} {dds : List D} {sp : DSp} (O : OkC P w K mg base j x n ks is dds sp) (h : j ≤ k) : OkC P w K mg base k x n ks is dds sp :=
  let ⟨f, fd, ps, dvs, its, h1, h2, h3, h4⟩ := O; ⟨f, fd, ps, dvs, its, h1, h2, h3.mono h, h4⟩
def cC (sp : DSp) (n m : Nat) (is : List Nat) (dds xs ys : List D) (κ : Kap) (X : Str → List D → Kap → Prop) (Q : DQ) : Prop := xs.length = n ∧ ys.length = m ∧ sp (pick is (xs ++ (ys ++ dds))) κ X Q
def dCallC (sp : DSp) (n m : Nat) (is : List Nat) (dds : List D) (as kw : DA) : DE := fun δ κ X Q => as δ κ X fun xs κ1 => kw δ κ1 X fun ys κ2 => cC sp n m is dds xs ys κ2 (X δ) Q
abbrev PKD (X : Cx) (W : WX) (kws : List Keyword) (d : DA) : Prop := PK X kws (liftA (CtxOf X) W d)
section
variable {X : Cx} {W : WX} {k n m : Nat} {f : Addr} {fd : FuncData} {ps ks : List Str} {is : List Nat} {sp : DSp} {dds : List D} {x : Str} {e : Expr} {es : List Expr} {kws : List Keyword} {as kw : DA} {a : DE} {p pos kpos : Pos} {nm : Option Str}
theorem pk_weak {t t' : TA} (h : PK X kws t) (w : ∀ σ H Q, t' σ H Q → t σ H Q) : PK X kws t' := ⟨fun pos pins s σ H Q I q => h.run pos pins s σ H Q I (w σ H Q q)⟩
theorem pk_nilD : PKD X W [] dNil := pk_weak pk_nil fun _ _ _ h => lift_nil h
theorem pk_consD (ha : PED X W e a) (hr : PKD X W kws kw) : PKD X W (⟨nm, e, kpos⟩ :: kws) (dCons a kw) := pk_weak (pk_cons ha hr) fun _ _ _ h => lift_cons h
theorem run_fnC {pins : List (Addr × Obj)} {σ : L2.St} {δ : DEnv} {H : Hp} {s : Shared} {Q : VK} {us ws its : List Value} {vs zs dvs : List V} {xs ys : List D} {F : Hp} {ρ : Loc0} {κ : Kap} {XD : DX} {QD : DQ} (G : Good k X W) (F1 : FnG X.prog X.w X.K X.mg X.base k f fd ps sp) (I : L2.Inv X pins σ H s)
    (hb : KBn X.K fd ps n ks (fun us ws => pick is (us ++ (ws ++ its))) (fun vs zs => pick is (vs ++ (zs ++ dvs)))) (hd : ∀ F ρ, RepL (CtxOf X) F ρ dds dvs) (r : Vals vs us) (rz : Vals zs ws)
    (S : StR (CtxOf X) F ρ κ H) (R : RepS (CtxOf X) F ρ δ σ) (rr : RepL (CtxOf X) F ρ xs vs) (rq : RepL (CtxOf X) F ρ ys zs) (h : cC sp n m is dds xs ys κ (XD δ) QD) (hm : ks.length = m) (P : Post (CtxOf X) F ρ QD Q) (PX : PostX (CtxOf X) F ρ XD W) : wpAny (model X.prog X.w) X.A (call (.ref f) us (ks.zip ws)) (EP X pins σ Q) X.xe s := by
  obtain ⟨h1, h2, h3⟩ := h
  have l1 : us.length = n := by rw [← Paired.length r, ← rr.length, h1]
  have l2 : ws.length = ks.length := by rw [← Paired.length rz, ← rq.length, h2, hm]
  have rep : RepL (CtxOf X) F ρ (pick is (xs ++ (ys ++ dds))) (pick is (vs ++ (zs ++ dvs))) := RepL.pick (rr.append (rq.append (hd F ρ)))
  refine wpAny_call (codeAny_mono (F1.run X.A X.stack s H ⟨us, ks.zip ws⟩ _ _ _ F ρ κ _ _ Q (fun cls dd H' => W cls dd σ H') G.rm G.gd I.env0 (hb.to s us ws I.kIn l1 l2) (hb.rel r rz) S rep h3 P fun F' ρ' κ' H' c fs cls dd e S' rx q => PX _ _ _ _ _ _ _ _ _ _ e S' (R.ext e) rx q) fun rs s' hq => ?_)
  cases rs with
  | error er => exact G.tk er s' (L2N.XE.of_call I (fun _ _ _ h => h) hq)
  | ok fl =>
    cases fl with
    | ret u => exact I.after hq
    | next => exact False.elim hq
    | brk => exact False.elim hq
    | cont => exact False.elim hq
theorem pd_callC (G : Good k X W) (O : OkC X.prog X.w X.K X.mg X.base k x n [] is dds sp) (ha : PAD X W (e :: es) as) (hg : Gl X x := by rfl) (hdb : (x == ("__debug__" : Str)) = false := by decide) (he : starEach (e :: es) X.env = (false, eval e X.env) :: starEach es X.env := by rfl)
    (hpl : (backTo pos (starEach es X.env)).any (·.1) = false := by rfl) : PED X W (.Call (.Name x p) (e :: es) [] pos) (dCallC sp n 0 is dds as dNil) := by
  obtain ⟨f, fd, ps, dvs, its, hm, hk, F1, hb, hd⟩ := O
  refine ⟨fun pins s σ H Q I ⟨F, ρ, κ, δ, XD, QD, S, R, h, P, PX⟩ => ?_⟩
  refine wpAny_Call_Name_kw (ld_glob I hg hm ?_ hdb)
  refine PySem.W.callWith_K (h₀ := X.base) I.ok.mod.kin hk (thn (ha.run pos pins s σ H (fun vs H1 => ∃ F1 ρ1 κ1 xs, Ext F ρ F1 ρ1 ∧ StR (CtxOf X) F1 ρ1 κ1 H1 ∧ RepL (CtxOf X) F1 ρ1 xs vs ∧ cC sp n 0 is dds xs [] κ1 (XD δ) QD) I
    ⟨F, ρ, κ, δ, XD, _, S, R, h, fun F1 ρ1 κ1 H1 xs vs e1 S1 R1 h1 => ⟨F1, ρ1, κ1, xs, e1, S1, R1, h1⟩, PX⟩) fun us s1 ⟨vs, H1, I1, r1, F2, ρ1, κ1, xs, e1, S1, R1, h1⟩ => ⟨I1.kIn, ?_⟩) he hpl
  exact run_fnC G F1 I1 hb hd r1 .nil S1 (R.ext e1) R1 .nil h1 rfl (P.ext e1) (PX.ext e1)
theorem pd_callCK (G : Good k X W) (O : OkC X.prog X.w X.K X.mg X.base k x n ks is dds sp) (ha : PAD X W (e :: es) as) (hkw : PKD X W kws kw) (hg : Gl X x := by rfl) (hdb : (x == ("__debug__" : Str)) = false := by decide) (he : starEach (e :: es) X.env = (false, eval e X.env) :: starEach es X.env := by rfl)
    (hall : (backToKw pos (keywordEach kws X.env)).all (·.1.isSome) = true := by rfl) (hks : (backToKw pos (keywordEach kws X.env)).filterMap (·.1) = ks := by rfl)
    (hpl : ((backTo pos (starEach (e :: es) X.env)).any (·.1) || (backToKw pos (keywordEach kws X.env)).any (·.1.isNone)) = false := by rfl) : PED X W (.Call (.Name x p) (e :: es) kws pos) (dCallC sp n ks.length is dds as kw) := by
  obtain ⟨f, fd, ps, dvs, its, hm, hk, F1, hb, hd⟩ := O
  refine ⟨fun pins s σ H Q I ⟨F, ρ, κ, δ, XD, QD, S, R, h, P, PX⟩ => ?_⟩
  refine wpAny_Call_Name_kw (ld_glob I hg hm ?_ hdb)
  refine PySem.W.callWith_KW (h₀ := X.base) I.ok.mod.kin hk hall (thn (ha.run pos pins s σ H (fun vs H1 => ∃ F1 ρ1 κ1 xs, Ext F ρ F1 ρ1 ∧ StR (CtxOf X) F1 ρ1 κ1 H1 ∧ RepL (CtxOf X) F1 ρ1 xs vs ∧ kw δ κ1 XD fun ys κ2 => cC sp n ks.length is dds xs ys κ2 (XD δ) QD) I
    ⟨F, ρ, κ, δ, XD, _, S, R, h, fun F1 ρ1 κ1 H1 xs vs e1 S1 R1 h1 => ⟨F1, ρ1, κ1, xs, e1, S1, R1, h1⟩, PX⟩) fun us s1 ⟨vs, H1, I1, r1, F2, ρ1, κ1, xs, e1, S1, R1, h1⟩ => ?_) hpl he
  refine thn (hkw.run pos pins s1 σ H1 (fun zs H2 => ∃ F3 ρ3 κ3 ys, Ext F2 ρ1 F3 ρ3 ∧ StR (CtxOf X) F3 ρ3 κ3 H2 ∧ RepL (CtxOf X) F3 ρ3 ys zs ∧ cC sp n ks.length is dds xs ys κ3 (XD δ) QD) I1
    ⟨F2, ρ1, κ1, δ, XD, _, S1, R.ext e1, h1, fun F3 ρ3 κ3 H3 ys zs e3 S3 R3 h3 => ⟨F3, ρ3, κ3, ys, e3, S3, R3, h3⟩, PX.ext e1⟩) fun ws s2 ⟨zs, H2, I2, rz, F3, ρ3, κ3, ys, e3, S3, R3, h3⟩ => ⟨I2.kIn, ?_⟩
  rw [hks]
  exact run_fnC G F1 I2 hb hd r1 rz S3 (R.ext (e1.trans e3)) (R1.ext e3) R3 h3 rfl (P.ext (e1.trans e3)) (PX.ext (e1.trans e3))
theorem pd_callCK0 (G : Good k X W) (O : OkC X.prog X.w X.K X.mg X.base k x 0 ks is dds sp) (hkw : PKD X W kws kw) (hg : Gl X x := by rfl) (hdb : (x == ("__debug__" : Str)) = false := by decide)
    (hall : (backToKw pos (keywordEach kws X.env)).all (·.1.isSome) = true := by rfl) (hks : (backToKw pos (keywordEach kws X.env)).filterMap (·.1) = ks := by rfl)
    (hpl : ((backTo pos (starEach [] X.env)).any (·.1) || (backToKw pos (keywordEach kws X.env)).any (·.1.isNone)) = false := by rfl) : PED X W (.Call (.Name x p) [] kws pos) (dCallC sp 0 ks.length is dds dNil kw) := by
  obtain ⟨f, fd, ps, dvs, its, hm, hk, F1, hb, hd⟩ := O
  refine ⟨fun pins s σ H Q I ⟨F, ρ, κ, δ, XD, QD, S, R, h, P, PX⟩ => ?_⟩
  refine wpAny_Call_Name_kw (ld_glob I hg hm ?_ hdb)
  refine PySem.W.callWith_KW0 (h₀ := X.base) I.ok.mod.kin hk hall (thn (hkw.run pos pins s σ H (fun zs H2 => ∃ F3 ρ3 κ3 ys, Ext F ρ F3 ρ3 ∧ StR (CtxOf X) F3 ρ3 κ3 H2 ∧ RepL (CtxOf X) F3 ρ3 ys zs ∧ cC sp 0 ks.length is dds [] ys κ3 (XD δ) QD) I
    ⟨F, ρ, κ, δ, XD, _, S, R, h, fun F3 ρ3 κ3 H3 ys zs e3 S3 R3 h3 => ⟨F3, ρ3, κ3, ys, e3, S3, R3, h3⟩, PX⟩) fun ws s2 ⟨zs, H2, I2, rz, F3, ρ3, κ3, ys, e3, S3, R3, h3⟩ => ⟨I2.kIn, ?_⟩) hpl
  rw [hks]
  exact run_fnC G F1 I2 hb hd .nil rz S3 (R.ext e3) .nil R3 h3 rfl (P.ext e3) (PX.ext e3)
end
/-! a def without defaults, called with keywords -/
section
variable {P : Program} {w : World} {K : PySem.W.Frag} {mg : Str → Option Value} {base : Heap}
theorem okC_of {x : Str} {st : Stmt} {f : Addr} {fd : FuncData} {ps ks : List Str} {k n : Nat} {is : List Nat} {sp : DSp} (D : DefAt K mg x st f fd) (F1 : FnG P w K mg base k f fd ps sp)
    (hbind : ∀ (kV doc pm : Value) (an : Option Addr) (cdv ct : Value) (us ws : List Value), us.length = n → ws.length = ks.length → bindArgs (PySem.W.fnOf x x (defArgs st) (defBody st) (defScope st) .none kV doc pm an cdv ct) ⟨us, ks.zip ws⟩ = pure (ps.zip (pick is (us ++ (ws ++ []))))) :
    OkC P w K mg base k x n ks is [] sp := by
  obtain ⟨oc, od, kV, doc, pm, an, cdv, ct, osl, rfl, lk, hcd⟩ := D.F.ex
  exact ⟨f, _, ps, [], [], D.m, D.F.kp, F1, ⟨fun s us ws _ l1 l2 => .of_eq (hbind kV doc pm an cdv ct us ws l1 l2), fun r1 r2 => vals_pick (r1.append (r2.append .nil))⟩, fun _ _ => .nil⟩
theorem fnG_no {f : Addr} {fd : FuncData} {ps : List Str} {k : Nat} : FnG P w K mg base k f fd ps (fun _ _ _ _ => False) :=
  ⟨fun _ _ _ _ h => h.elim, fun _ _ _ _ _ _ _ _ _ _ _ _ _ _ _ _ _ _ _ _ _ _ h => h.elim⟩
theorem ok_mk {x : Str} {st : Stmt} {f : Addr} {fd : FuncData} {ps : List Str} {k : Nat} {sp : DSp} (D : DefAt K mg x st f fd) (F1 : FnG P w K mg base k f fd ps sp)
    (hbind : ∀ (kV doc pm : Value) (an : Option Addr) (cdv ct : Value) (us : List Value), us.length = ps.length → bindArgs (PySem.W.fnOf x x (defArgs st) (defBody st) (defScope st) .none kV doc pm an cdv ct) ⟨us, []⟩ = pure (ps.zip us)) : Ok P w K mg base k x ps sp :=
  ⟨f, fd, D.m, D.F.kp, F1, D.F.binds hbind⟩
end
end DL

/-! DLk: defs with defaults. -/
namespace DL
open PySem PySem.Spec PyProof.Rows L2
/-- where a def with defaults stands -/
structure DefD (K : PySem.W.Frag) (mg : Str → Option Value) (x : Str) (st : Stmt) (f : Addr) (fd : FuncData) (dvs : List V) (kws : List (Str × V)) : Prop where
  m : mg x = some (.ref f)
  F : FunD K x x (defArgs st) (defBody st) (defScope st) dvs kws f fd
section
variable {P : Program} {w : World} {K : PySem.W.Frag} {mg : Str → Option Value} {base : Heap}
/-- THE RULE for a def with defaults -/
theorem Fn_okD {x qual : Str} {st : Stmt} {dvs : List V} {kws : List (Str × V)} {f : Addr} {fd : FuncData} {N ps : List Str} {k : Nat} {b : DS} (F : FunD K x qual (defArgs st) (defBody st) (defScope st) dvs kws f fd) (S : FnScope N ps (defScope st)) (sm : ∃ o, base.get? sysModules = some o)
    (hbody : ∀ (cdv : Value) (A : Around) (outer : List Env) (s : Shared) (H : Hp) (E : XK), Good k (cxD P w K mg base N qual (defScope st) f cdv A outer s H E) (wxE E) → PSsD (cxD P w K mg base N qual (defScope st) f cdv A outer s H E) (wxE E) (defBody st) b) :
    FnG P w K mg base (k + 1) f fd ps (spOf N.length ps.length b) := by
  refine ⟨fun ds κ XD Q h => h.1, fun A outer s H args us vs ds F0 ρ κ XD QD Q E hr hg e0 hb rv S0 R0 hsp PQ PE => ?_⟩
  obtain ⟨oc, od, dV, kV, doc, pm, an, cdv, ct, osl, rfl, lk, hcd, _, _⟩ := F.ex
  have hl : vs.length = ps.length := by rw [← R0.length, hsp.1]
  have KX : K.In s.heap := e0.mod.kin.keeps fun b o e => (e0.bs b o e).1
  have lim : s.heap.NoLimit := e0.mod.nolimit.keeps fun b o e => (e0.bs b o e).1
  have kinds : ∀ y ∈ ps.zip us, (defScope st).names.lookup y.1 = some .local ∨ ((defScope st).names.lookup y.1 = some .cell ∧ ((cellsFrom (s.heap.objs.size + 1) (defScope st).names []).lookup y.1).isSome = true) := fun y hy => by
    rcases S.par y.1 (List.of_mem_zip (a := y.1) (b := y.2) hy).1 with q | q
    · exact .inl q
    · exact .inr ⟨q, PySem.W.cellsFrom_some _ _ _ (.inl q)⟩
  refine codeAny_call_function hr.depth (KX _ _ lk) rfl S.co S.gen rfl (PySem.W.codeRec_of KX hcd) (hb _ _ _ _ (wpAny_newFunctionEnv_cells S.kind kinds fun env he s1 x => ?_))
  subst he
  refine ⟨lim.keeps x.toInCall.keep, codeAny_func ?_⟩
  have I := inv_start (CX := L2N.CX P w) (N := N) (qual := qual) (E := E) (f := f) (cd := cdv) S hr.hd e0 hl rv x
  have g : Good k (cxD P w K mg base N qual (defScope st) f cdv A outer s H E) (wxE E) :=
    ⟨L2N.takes_of rfl rfl rfl rfl, passes_of rfl, hr.deeper _, hg, sm, rfl, S.nd⟩
  refine wpAny_mono ((hbody cdv A outer s H E g).run [] s1 _ H ⟨fun _ H' => Q .non H', Q, fun _ _ => False, fun _ _ => False⟩ I
    ⟨F0, ρ, κ, startD N.length ds, _, _, S0, repS_start R0, hsp.2, ⟨fun F' ρ' κ' H' δ σ e S R q => PQ _ _ _ _ _ _ e S .non q, PQ, fun _ _ _ _ _ _ _ _ _ z => z.elim, fun _ _ _ _ _ _ _ _ _ z => z.elim⟩,
      fun F' ρ' κ' H' δ σ c fs cls dd e S R rx q => PE _ _ _ _ _ _ _ _ e S rx q⟩) (fun fl s' hs => ?_) fun e s' hs => hs
  cases fl with
  | ret u =>
    obtain ⟨v, σ', H', J, rv', q⟩ := hs
    exact ⟨v, H', J.os, J.bare, J.base, J.hok, rv', q⟩
  | next =>
    obtain ⟨σ', H', J, q⟩ := hs
    exact ⟨.non, H', J.os, J.bare, J.base, J.hok, rfl, q⟩
  | brk => obtain ⟨_, _, _, q⟩ := hs; exact q.elim
  | cont => obtain ⟨_, _, _, q⟩ := hs; exact q.elim

variable {x : Str} {st : Stmt} {f : Addr} {fd : FuncData} {ps ks : List Str} {k n : Nat} {is : List Nat} {sp : DSp} {dds : List D} {dvs : List V} {kws : List (Str × V)}
theorem okC_d (D : DefD K mg x st f fd dvs kws) (F1 : FnG P w K mg base k f fd ps sp) (hd : dvs ≠ []) (hdd : ∀ F ρ, RepL ⟨K, mg⟩ F ρ dds dvs)
    (h : ∀ (T : Addr) (kV doc pm : Value) (an : Option Addr) (cdv ct : Value) (us its ws : List Value), us.length = n → its.length = dvs.length → ws.length = ks.length →
      ∃ k, bindArgs (PySem.W.fnOf x x (defArgs st) (defBody st) (defScope st) (.ref T) kV doc pm an cdv ct) ⟨us, ks.zip ws⟩ = seqItems? (.ref T) >>= k ∧ k (some its.toArray) = pure (ps.zip (pick is (us ++ (ws ++ its))))) :
    OkC P w K mg base k x n ks is dds sp := by
  obtain ⟨its, hb⟩ := D.F.kbindsD n ks (fun us its ws => pick is (us ++ (ws ++ its))) hd (fun r1 r2 r3 => vals_pick (r1.append (r3.append r2))) h
  exact ⟨f, fd, ps, dvs, its, D.m, D.F.kp, F1, hb, hdd⟩
theorem okC_k (D : DefD K mg x st f fd [] kws) (F1 : FnG P w K mg base k f fd ps sp) (ms : List (Str × V)) (hk : kws ≠ []) (hms : ∀ q ∈ ms, q ∈ kws) (hdd : ∀ F ρ, RepL ⟨K, mg⟩ F ρ dds (ms.map (·.2)))
    (h : ∀ (Da : Addr) (doc pm : Value) (an : Option Addr) (cdv ct : Value) (us mv ws : List Value), us.length = n → mv.length = ms.length → ws.length = ks.length →
      KwChain Da ((ms.map (·.1)).zip mv) (bindArgs (PySem.W.fnOf x x (defArgs st) (defBody st) (defScope st) .none (.ref Da) doc pm an cdv ct) ⟨us, ks.zip ws⟩) (ps.zip (pick is (us ++ (ws ++ mv))))) :
    OkC P w K mg base k x n ks is dds sp := by
  obtain ⟨mv, hb⟩ := D.F.kbinds0 n ks ms (fun us mv ws => pick is (us ++ (ws ++ mv))) hk hms (fun r1 r2 r3 => vals_pick (r1.append (r3.append r2))) h
  exact ⟨f, fd, ps, ms.map (·.2), mv, D.m, D.F.kp, F1, hb, hdd⟩
theorem okC_dk (D : DefD K mg x st f fd dvs kws) (F1 : FnG P w K mg base k f fd ps sp) (ms : List (Str × V)) (hd : dvs ≠ []) (hk : kws ≠ []) (hms : ∀ q ∈ ms, q ∈ kws) (hdd : ∀ F ρ, RepL ⟨K, mg⟩ F ρ dds (dvs ++ ms.map (·.2)))
    (h : ∀ (T Da : Addr) (doc pm : Value) (an : Option Addr) (cdv ct : Value) (us its mv ws : List Value), us.length = n → its.length = dvs.length → mv.length = ms.length → ws.length = ks.length →
      ∃ k, bindArgs (PySem.W.fnOf x x (defArgs st) (defBody st) (defScope st) (.ref T) (.ref Da) doc pm an cdv ct) ⟨us, ks.zip ws⟩ = seqItems? (.ref T) >>= k ∧ KwChain Da ((ms.map (·.1)).zip mv) (k (some its.toArray)) (ps.zip (pick is (us ++ (ws ++ (its ++ mv)))))) :
    OkC P w K mg base k x n ks is dds sp := by
  obtain ⟨its, mv, hb⟩ := D.F.kbinds n ks ms (fun us its mv ws => pick is (us ++ (ws ++ (its ++ mv)))) hd hk hms (fun r1 r2 r3 r4 => vals_pick (r1.append (r4.append (r2.append r3)))) h
  exact ⟨f, fd, ps, dvs ++ ms.map (·.2), its ++ mv, D.m, D.F.kp, F1, by simpa only [List.append_assoc] using hb, hdd⟩
theorem defD_of {h : Heap} {x : Str} {f : Addr} {oc : Value} {od an : Option Addr} {osl : Array (Option Value)} {dV kV doc pm cdv ct : Value} {dvs : List V} {kws : List (Str × V)} (X : K.In h) (G : h.Ns mainGlobals mg) (a : PySem.W.nsIn K mainGlobals x = some (some (.ref f)))
    (l : K.lookup f = some ⟨oc, od, .func (PySem.W.fnOf x x (defArgs st) (defBody st) (defScope st) dV kV doc pm an cdv ct), osl⟩) (c : PySem.W.codeIn K cdv x = true) (k : PySem.W.keepIn K (.ref f) = true) (hd : DflV K dV dvs) (hk : KwdV K kV kws) :
    DefD K mg x st f (PySem.W.fnOf x x (defArgs st) (defBody st) (defScope st) dV kV doc pm an cdv ct) dvs kws := ⟨PySem.W.mg_of X G a, ⟨⟨oc, od, dV, kV, doc, pm, an, cdv, ct, osl, rfl, l, c, hd, hk⟩, k⟩⟩
theorem dfl_of {T : Addr} {cls : Value} {dd : Option Addr} {its : List Value} {m : Nat} {sl : Array (Option Value)} (h : dvs ≠ []) (l : K.lookup T = some ⟨cls, dd, .seq its.toArray m, sl⟩) (r : Vals dvs its) : DflV K (.ref T) dvs := .inr ⟨h, T, _, its, m, rfl, l, rfl, r⟩
theorem dfl_no : DflV K .none [] := .inl ⟨rfl, rfl⟩
theorem kwd_no {kV : Value} : KwdV K kV [] := .inl rfl
theorem kwd_of {Da : Addr} (h : ∀ q ∈ kws, ∃ u, PySem.W.nsIn K Da q.1 = some (some u) ∧ RelV q.2 u) : KwdV K (.ref Da) kws := .inr ⟨Da, rfl, h⟩
end
end DL

/-! DLm: raise, try. -/
namespace DL
open PySem PySem.Spec PyProof.Rows L2
/-! ### raise -/
/-- an exception's fields, name and value in turn -/
def xfl : List Str → List D → List D
  | n :: ns, d :: ds => .str n :: d :: xfl ns ds
  | _, _ => []
theorem xfl_rep {C : Ctx} {F : Hp} {ρ : Loc0} : ∀ {ns : List Str} {ds : List D} {vs : List V}, RepL C F ρ ds vs → RepL C F ρ (xfl ns ds) (xflat (ns.zip vs))
  | [], _, _, _ => .nil
  | _ :: _, _, _, .nil => .nil
  | n :: ns, _, _, .cons h t => .cons (.str n) (.cons h (xfl_rep t))
/-! ### an own exception, made where none is handled: its context is None -/
abbrev mkHp (h : Heap) (C : Addr) (us : List Value) : Heap := (h.push (PySem.W.kdv_tup us)).push (PySem.HandSPX.excO C h.objs.size)
theorem pmk_oexN {X : Cx} {CX : CXT} {x : Str} {C fI : Addr} {k : Nat} {fd : FuncData} {ps : List Str} {sp : L2.Sp} {e : Expr} {es : List Expr} {ta : TA} {p pos : Pos}
    (T : OexC X.K C) (findI : PySem.W.findIn X.K (.ref C) "__init__" = some (some (.ref fI))) (typeI : PySem.W.typeIn X.K (.ref fI) = some (.type "function")) (fn : FnOk X.prog X.w X.K X.mg X.base CX k fI fd ps sp)
    (room : Room (k + 1) X.A) (binds : Binds X.K fd ps []) (pass : Passes CX X (fun _ _ _ => False)) (gl : Gl X x) (top : X.mg x = some (.ref C)) (args : PA X (e :: es) ta) (nodbg : (x == ("__debug__" : Str)) = false)
    (star : starEach (e :: es) X.env = (false, eval e X.env) :: starEach es X.env) (plain : (backTo pos (starEach es X.env)).any (·.1) = false) : L2N.PMk X (.Call (.Name x p) (e :: es) [] pos) (tMkO C sp [] ta) := by
  intro pins s σ H Q I todo
  have cls := T.cls
  obtain ⟨_, _, _, _, bm, _, _, _, _, _, _, _, _, _, _, atC, inBm⟩ := cls
  refine wpAny_Call_Name_kw
    (ld_glob I gl top ?_ nodbg)
  refine PySem.W.callWith_K (h₀ := X.base) I.ok.mod.kin T.kC
    (thn (args.run pos pins s σ H _ I todo) ?_) star plain
  rintro us ⟨hp, g, dr, tk, os⟩ ⟨vs, H1, I1, rel, small, next⟩
  refine ⟨I1.kIn, ?_⟩
  show wpAny _ _ (call (.ref C) us) _ _ _
  generalize ea : hp.objs.size + 1 = a
  have fits : hp.objs.size ≤ a := by omega
  have new : H1 a = none := I1.hok.fresh fits
  have here := next a new
  rw [List.append_nil] at here
  have grows : ∀ b o, hp.get? b = some o → (mkHp hp C us).get? b = some o :=
    fun b o z => Heap.get?_push_of_some _ (Heap.get?_push_of_some _ z)
  have stands : (mkHp hp C us).get? a = some (PySem.HandSPX.excO C hp.objs.size) := by
    rw [← ea]
    heap_get
  have J := I1.laid (t' := tk) (a := a) (o := exo a C none) (h' := mkHp hp C us) grows fits (exo_ok stands)
  have rel2 : Vals (V.ref a :: vs) (Value.ref a :: us) := .cons rfl rel
  have count : (Value.ref a :: us ++ []).length = ps.length := by
    have z := rel2.length
    rw [fn.len _ _ _ _ here] at z
    rw [List.append_nil]
    exact z.symm
  have few : us.length ≤ sizeLine := by
    have := Paired.length rel
    have : sizeLine = 16777216 := sizeLine_eq
    omega
  have bound := binds _ (Value.ref a :: us) J.kIn count
  rw [List.append_nil] at bound
  have walked := fn.run _ X.stack _ _ ⟨Value.ref a :: us, []⟩ (Value.ref a :: us) _ _ (fun _ _ _ => False) (room.make C us []) (J.env0.make C us []) bound rel2 here
  subst ea
  refine wpAny_call (PySem.HandSPX.call_own F.excBase_ValueError (fun Y => PySem.HandSPX.refsVE_contains Y bm inBm) (I1.kIn _ _ atC) (PySem.W.looks_findIn I1.kIn findI)
    (fun self => PySem.W.bind_fn I1.kIn self typeI) few (codeAny_mono walked fun r s' done => ?_))
  match r, done with
  | .error er, done => exact pass pins σ _ _ er s' J done
  | .ok .next, done | .ok .brk, done | .ok .cont, done => exact done.elim
  | .ok (.ret u), ⟨v, H2, sameOs, bare, un, ok, rv, isNon, d, fs, atA, atD, freeD, want⟩ =>
    subst isNon
    obtain ⟨h2, g2, d2, t2, os'⟩ := s'
    obtain ⟨t0, G, J2, back, goneA, obj, off⟩ := mk_end0 (d2 := d2) (t2 := t2) I1 fits grows un ok sameOs bare atA atD freeD
    exact ⟨rv, _, _, _, ⟨G, g2, d2, t2, os'⟩, _, .ref C, some d, rfl, J2, back, goneA, obj, ⟨rfl, rfl, fun ws z => by cases z; rfl⟩, rfl, rfl, off, rfl, bare, raises_own T.exC T.tyC, want⟩
def sRz (c : Str) (ns : List Str) (as : DA) : DS := fun δ κ X T => as δ κ X fun xs κ1 => xs.length = ns.length ∧ xs.length ≤ 100 ∧ X δ c (xfl ns xs.reverse) κ1
section
variable {X : Cx} {W : WX} {k : Nat} {c : Str} {ns : List Str} {e : Expr} {es : List Expr} {as : DA} {p pos pos2 : Pos}
theorem sd_raise (G : Good (k + 2) X W) (O : ExOk X.prog X.w X.K X.mg X.base c ns) (hne : ns ≠ []) (ha : PAD X W (e :: es) as) (hgl : Gl X c := by rfl) (hdb : (c == ("__debug__" : Str)) = false := by decide)
    (he : starEach (e :: es) X.env = (false, eval e X.env) :: starEach es X.env := by rfl) (hpl : (backTo pos (starEach es X.env)).any (·.1) = false := by rfl) : PSD X W (.Raise (some (.Call (.Name c p) (e :: es) [] pos)) none pos2) (sRz c ns as) := by
  obtain ⟨ca, fI, fd, ps, sp, M, hg, hf⟩ := O
  refine ps_weak (L2N.ps_raise G.calm G.tk (pmk_oexN (ta := fun σ H Q => liftA (CtxOf X) W as σ H Q) M.ox M.ini M.ty M.fn (G.rm.mono (by omega : 2 ≤ k + 2)) M.bd (fun _ _ _ _ _ _ _ z => z.elim) hgl M.m ha hdb he hpl)) ?_
  rintro T σ H ⟨F, ρ, κ, δ, XD, DD, S, R, h, P, PX⟩
  refine ⟨F, ρ, κ, δ, XD, _, S, R, h, ?_, PX⟩
  rintro F1 ρ1 κ1 H1 xs vs e1 S1 R1 ⟨hn, h100, hX⟩
  have lv : vs.length = ns.length := by rw [← R1.length, hn]
  refine ⟨by rw [← R1.length]; omega, fun a na => ?_⟩
  rw [List.append_nil]
  refine hg a ca vs _ _ _ lv M.ox hf upd_same ⟨fun z => absurd z hne, fun _ dx hdx hda => ⟨rfl, dx, ns.zip vs.reverse, upd_same, by rw [upd_ne hda]; exact upd_same, by rw [upd_ne hda] at hdx; exact hdx, ?_⟩⟩
  have hdx' : H1 dx = none := by rw [upd_ne hda] at hdx; exact hdx
  obtain ⟨ex, S2⟩ := S1.laid (p := dx) (o := .xd (ns.zip vs.reverse)) hdx'
  have eH : upd (del (upd (upd (upd H1 a (exo a ca none)) dx (exd dx (ns.zip vs.reverse))) a (exo a ca (some dx))) a) dx (.xd (ns.zip vs.reverse)) = upd H1 dx (.xd (ns.zip vs.reverse)) := by
    funext b
    by_cases e1 : b = dx
    · rw [e1, upd_same, upd_same]
    · rw [upd_ne e1, upd_ne e1]
      by_cases e2 : b = a
      · rw [e2, del_same, na]
      · rw [del_ne e2, upd_ne e2, upd_ne e1, upd_ne e2]
  rw [eH]
  exact PX _ _ _ _ _ _ _ _ _ _ (e1.trans ex) S2 (R.ext (e1.trans ex)) ⟨⟨M.m, ca, rfl⟩, _, xfl_rep ((R1.ext ex).reverse), .inr ⟨dx, _, rfl, upd_same, rfl⟩⟩ hX
end
/-! ### except: the field of what was caught -/
def fldOf (f : Str) : List D → Option D
  | .str n :: d :: r => if n = f then some d else fldOf f r
  | _ => none
/-- which fields may be read of which caught class -/
def XfOk (K : PySem.W.Frag) (mg : Str → Option Value) (xf : Str → Str → Bool) : Prop := ∀ c f, xf c f = true → ∃ C, mg c = some (.ref C) ∧ XfC K C ∧ PySem.W.findIn K (.ref C) f = some none
theorem fldOf_lookup {C : Ctx} {F : Hp} {ρ : Loc0} {f : Str} : ∀ {fs : List (Str × V)} {ds : List D} {d : D}, RepL C F ρ ds (xflat fs) → fldOf f ds = some d → ∃ v, fs.lookup f = some v ∧ Rep C F ρ d v
  | [], _, _, .nil, h => by cases h
  | (n, v) :: fs, _, d, .cons (.str _) (.cons (d := d1) h1 t), h => by
    have h' : (if n = f then some d1 else fldOf f _) = some d := h
    by_cases e : n = f
    · rw [if_pos e] at h'
      cases h'
      exact ⟨v, by rw [e, List.lookup_cons]; simp, h1⟩
    · rw [if_neg e] at h'
      obtain ⟨w, h2, h3⟩ := fldOf_lookup t h'
      refine ⟨w, ?_, h3⟩
      rw [List.lookup_cons]
      have : (f == n) = false := by
        cases q : (f == n) with
        | false => rfl
        | true => exact absurd (eq_of_beq q).symm e
      rw [this]
      exact h2
/-- what a suite knows of the caught one -/
structure Caught (X : Cx) (a C : Addr) (dd : Option Addr) (oe : Obj) : Prop where
  z : L2N.Zn (.ref C) dd oe
  f : ∃ vs, oe.data = .fields vs
section
variable {X : Cx} {W : WX} {a C : Addr} {dd : Option Addr} {oe : Obj} {pn : List (Addr × Obj)} {x f : Str} {p pos : Pos} {i : Nat} {xf : Str → Str → Bool}
def dXf (xf : Str → Str → Bool) (i : Nat) (f : Str) (a C : Addr) (dd : Option Addr) : DE := fun δ κ _ QD => ∃ c fs d, δ[i]? = some (some (.node (.cau c a C dd) fs)) ∧ xf c f = true ∧ fldOf f fs = some d ∧ QD d κ
theorem pd_xf (T : XfOk X.K X.mg xf) (Z : Caught X a C dd oe) (hi : X.N[i]? = some x := by rfl) (hx : (X.env.scope.names.lookup x) = some .local := by rfl)
    (hdb : (x == ("__debug__" : Str)) = false := by decide) (hdc : (x == ("__classdict__" : Str)) = false := by decide) (hb : attributeBase (.Name x p) f X.env (eval (.Name x p) X.env) = eval (.Name x p) X.env := by rfl) :
    PED (X.suite a ((a, oe) :: pn)) W (.Attribute (.Name x p) f pos) (dXf xf i f a C dd) := by
  refine ⟨fun pins s σ H Q I ⟨F, ρ, κ, δ, XD, QD, S, R, ⟨c, fs, d, hδ, hxf, hfl, hQ⟩, P, PX⟩ => ?_⟩
  obtain ⟨C', h1, h2, h3⟩ := T c f hxf
  obtain ⟨v, hv, rv⟩ := R.2 i _ hδ
  cases rv with
  | @node _ _ a2 vs hk rl =>
    obtain ⟨e1, e2, e3⟩ := hk
    subst e1
    rw [show (CtxOf X).mg c = X.mg c from rfl, h1] at e2
    cases e2
    rcases e3 with ⟨e3, e4⟩ | ⟨d2, fs2, e3, e4, e5⟩
    · subst e4
      cases rl
      cases hfl
    · subst e5
      obtain ⟨w, hw, rw'⟩ := fldOf_lookup rl hfl
      exact (pe_xf (pn := pn) h2 h3 Z.z.zc Z.f (pe_var (X := X.suite a2 ((a2, oe) :: pn)) (i := i) (x := x) hi (.inl hx) hdb hdc) hb).run pins s σ H Q I ⟨_, hv, rfl, rfl, d2, fs2, w, e3, S.sub _ _ e4, hw, P _ _ _ _ _ _ (Ext.refl _ _) S rw' hQ⟩
end
end DL

/-! DLn: try, clauses with names and without. -/
namespace DL
open PySem PySem.Spec PyProof.Rows L2
/-- a clause: the class's value, the slot of its name, what its suite does -/
structure Hd where
  c : Value
  i : Option Nat
  ts : Addr → Value → Option Addr → TS
def endsG (D : Ends) (i : Nat) : Ends := { nx := fun τ G => D.nx (τ.set i none) G, rt := D.rt, bk := fun τ G => D.bk (τ.set i none) G, ct := fun τ G => D.ct (τ.set i none) G }
def Hd.go (h : Hd) (D : Ends) (a : Addr) (cls : Value) (d : Option Addr) (σ : L2.St) (H : Hp) : Prop := match h.i with
  | none => h.ts a cls d D σ H
  | some i => h.ts a cls d (endsG D i) (σ.set i (some (.ref a))) H
def wantG (K : PySem.W.Frag) (Wo : WX) (D : Ends) : List Hd → WX
  | [] => Wo
  | h :: l => fun cls d σ H => ∃ b, PySem.W.exmOne K cls h.c = some b ∧ (b = true → ∀ a, H a = none → h.go D a cls d σ H) ∧ (b = false → wantG K Wo D l cls d σ H)
/-- what is known of a clause's suite -/
def SuiteG (X : Cx) (suite : List Stmt) (ts : Addr → Value → Option Addr → TS) : Prop := ∀ (a : Addr) (oe : Obj) (cls : Value) (d : Option Addr) (pn : List (Addr × Obj)), L2N.Zn cls d oe → (∃ vs, oe.data = .fields vs) → PSs (X.suite a ((a, oe) :: pn)) suite (ts a cls d)
inductive HdsG (X : Cx) : List ExceptHandler → List Hd → Prop
  | nil : HdsG X [] []
  | one {x : Str} {c : Value} {ts : Addr → Value → Option Addr → TS} {s0 : Stmt} {suite : List Stmt} {q q' : Pos} {hds : List ExceptHandler} {l : List Hd} (n : Names X x c) (u : SuiteG X (s0 :: suite) ts) (r : HdsG X hds l) : HdsG X (.ExceptHandler (some (.Name x q)) none (s0 :: suite) q' :: hds) (⟨c, none, ts⟩ :: l)
  | asn {x y : Str} {c : Value} {i : Nat} {ts : Addr → Value → Option Addr → TS} {s0 : Stmt} {suite : List Stmt} {q q' : Pos} {hds : List ExceptHandler} {l : List Hd} (n : Names X x c) (hi : X.N[i]? = some y) (hk : X.env.kindOf y = some .local) (u : SuiteG X (s0 :: suite) ts) (r : HdsG X hds l) :
      HdsG X (.ExceptHandler (some (.Name x q)) (some y) (s0 :: suite) q' :: hds) (⟨c, some i, ts⟩ :: l)
section
variable {X : Cx} {body : List Stmt} {h0 : ExceptHandler} {hds : List ExceptHandler} {l : List Hd} {pos : Pos} {tb : WX → TS} {Wo : WX}
theorem ps_try_gen (stk : X.stack = X.env :: X.outer) (frm : X.env.frame = some X.env.locals) (dup : X.N.Nodup) (tk : L2N.Takes X Wo)
    (run : ∀ (W : WX) (ps : List (Addr × Obj)) (xe : Value → Shared → Prop), L2N.Takes (X.tr ps xe) W → PassesOwn (model X.prog X.w) X.A X.env xe → PSs (X.tr ps xe) body (tb W)) (hh : HdsG X (h0 :: hds) l) :
    PS X (.Try body (h0 :: hds) [] [] pos) (fun D σ H => tb (wantG X.K Wo D l) D σ H) := by
  refine ⟨fun qs s σ H D I want => ?_⟩
  have good := I.ok
  have frames : X.A.frames = some (X.env :: X.outer) := by rw [good.frames, stk]
  refine wpAny_Try_except (wpAny_mono ((run (wantG X.K Wo D l) (X.pn ++ qs) (fun ex t1 => wpAny (model X.prog X.w) X.A (noteFrame ex X.env) (fun _ t2 => wpAny (model X.prog X.w) X.A (setFlight ex none) (fun _ t3 =>
    wpAny (model X.prog X.w) X.A (handleBy ex X.env (h0 :: hds)) (SP X qs D) X.xe t3) X.xe t2) X.xe t1) (fun val t caught => ?_) PassesOwn.looking).run [] s σ H D (I.toTry _) want) (fun fl t1 done => ?_) fun _ _ z => z)
  · obtain ⟨a, B, t0, qs2, τ, G, cls, d, rfl, J2, inB, same, sky2, free, os2, bare2, todo⟩ := caught
    have J := J2.ofTry good
    rw [show (X.tr (X.pn ++ qs) _).stack = X.env :: X.outer from stk] at sky2
    show wpAny (model X.prog X.w) X.A (noteFrame (.ref a) X.env) _ _ _
    refine L2N.Sky.land L2N.Zn.steady frames frm sky2 fun hp3 fly same3 => ?_
    have J3 : L2.Inv X qs τ G { t with heap := hp3 } := J.landed inB fly.1 (same.trans same3) os2 bare2
    obtain ⟨ob3, fs3, at3, z3, dt3⟩ := fly.there
    have off : a ∉ frs (X.env :: X.outer) := fun hm => by
      obtain ⟨_, ob4, at4, no4⟩ := fly.2.2.1.mem hm
      rw [at3] at at4
      cases at4
      exact no4 _ dt3
    have offL : a ≠ X.env.locals := fun z => off (List.mem_filterMap.mpr ⟨_, List.mem_cons_self, frm.trans (congrArg some z.symm)⟩)
    have offF : a ∉ X.fs := fun hm => by
      obtain ⟨en, hen, q⟩ := List.mem_filterMap.mp hm
      exact off (List.mem_filterMap.mpr ⟨en, List.mem_cons_of_mem _ hen, q⟩)
    have S3 := J3.suite at3 dt3 free offL offF
    have onward : wantG X.K Wo D [] cls d τ G → wpAny (model X.prog X.w) X.A (handleBy (.ref a) X.env []) (SP X qs D) X.xe { t with heap := hp3 } := fun w => by
      refine wpAny_handleBy_nil ?_
      obtain ⟨_, _, _, ob, fs, T, _, _, atA, _, dtA, isT, _⟩ := id fly
      unfold PySem.passOn
      refine wpAny_bind (wpAny_field atA dtA isT ?_)
      rw [if_neg (show ¬ ((Value.ref T == Value.none) = true) from by simp)]
      have last : wpAny (model X.prog X.w) X.A (setFlight (.ref a) X.env.frame) (fun _ t4 => wpAny (model X.prog X.w) X.A (throw (.ref a) : Sem Flow) (SP X qs D) X.xe t4) X.xe { t with heap := hp3 } := by
        rw [frm]
        exact HandSPX.setFlight_upZ fly fun hp4 held same4 => wpAny_throw (tk _ _ ⟨a, B, t0, qs, τ, G, cls, d, rfl, J, inB, (same.trans same3).trans same4, .inr (.inr (by rw [stk]; exact held)), free, os2, bare2, w⟩)
      first
        | exact wpAny_bind (wpAny_pure (wpAny_bind last))
        | exact wpAny_bind last
    have reads : ∀ {x : Str} {c : Value} {q : Pos} {Q : Value → Shared → Prop} {E : Value → Shared → Prop}, Names X x c → Q c { t with heap := hp3 } → wpAny (model X.prog X.w) (X.A.mark (some (.ref a))) (eval (.Name x q) X.env) Q E { t with heap := hp3 } := fun {x c q Q E} hn hq => by
      obtain ⟨gl, nodbg, inM | ⟨notM, bv, nn⟩⟩ := hn
      · exact ld_glob (X := X.suite a ((a, ob3) :: (X.pn ++ qs))) S3 gl inM hq nodbg
      · exact ld_blt (X := X.suite a ((a, ob3) :: (X.pn ++ qs))) S3 gl notM bv hq nn nodbg
    have kind : PySem.W.Looks (model X.prog X.w) hp3 (typeOf (.ref a)) cls := fun A Q E t' kp q => wpAny_typeOf_ref (kp _ _ at3) (by rw [z3.1]; exact q)
    have go : ∀ {hs' : List ExceptHandler} {l' : List Hd}, HdsG X hs' l' → wantG X.K Wo D l' cls d τ G → wpAny (model X.prog X.w) X.A (handleBy (.ref a) X.env hs') (SP X qs D) X.xe { t with heap := hp3 } := by
      intro hs' l' hk
      induction hk with
      | nil => exact onward
      | @one x c ts s0 suite q q' hs2 l2 hn hu r ih =>
        rintro ⟨b, hb, yes, no⟩
        refine wpAny_handleBy_cons (codeAny_handlers_test (reads hn ((PySem.W.exm_one (M := model X.prog X.w) J3.kIn kind hb).here ?_))) (by intro z; cases z)
        cases b with
        | false => exact ih (no rfl)
        | true =>
          refine codeAny_handlers_suite (HandSPX.lands_againZ fly fun hp4 fly4 same4 => ?_)
          have J4 : L2.Inv X qs τ G { t with heap := hp4 } := J.landed inB fly4.1 ((same.trans same3).trans same4) os2 bare2
          obtain ⟨ob4, fs4, at4, z4, dt4⟩ := fly4.there
          have S4 := J4.suite at4 dt4 free offL offF
          refine wpAny_mono ((hu a ob4 cls d (X.pn ++ qs) z4 ⟨_, dt4⟩).run [] _ _ G _ S4 (yes rfl a free)) (fun fl t6 sp => ?_) (fun _ _ z => False.elim z)
          cases fl with
          | ret u =>
            obtain ⟨v6, τ6, G6, S6, r6, q6⟩ := sp
            exact ⟨_, _, _, S6.unsuite good, r6, q6⟩
          | next =>
            obtain ⟨τ6, G6, S6, q6⟩ := sp
            exact ⟨_, _, S6.unsuite good, q6⟩
          | brk =>
            obtain ⟨τ6, G6, S6, q6⟩ := sp
            exact ⟨_, _, S6.unsuite good, q6⟩
          | cont =>
            obtain ⟨τ6, G6, S6, q6⟩ := sp
            exact ⟨_, _, S6.unsuite good, q6⟩
      | @asn x y c i ts s0 suite q q' hs2 l2 hn hi hk hu r ih =>
        rintro ⟨b, hb, yes, no⟩
        refine wpAny_handleBy_cons (codeAny_handlers_test (reads hn ((PySem.W.exm_one (M := model X.prog X.w) J3.kIn kind hb).here ?_))) (by intro z; cases z)
        cases b with
        | false => exact ih (no rfl)
        | true =>
          refine codeAny_handlers_suite_as (HandSPX.lands_againZ fly fun hp4 fly4 same4 => ?_)
          have J4 : L2.Inv X qs τ G { t with heap := hp4 } := J.landed inB fly4.1 ((same.trans same3).trans same4) os2 bare2
          obtain ⟨ob4, fs4, at4, z4, dt4⟩ := fly4.there
          have S4 := J4.suite at4 dt4 free offL offF
          refine store_ok (X := X.suite a ((a, ob4) :: (X.pn ++ qs))) (v := .ref a) S4 dup hi (.inl hk) rfl (fun t5 S5 => ?_) (.inr hk)
          refine wpAny_mono ((hu a ob4 cls d (X.pn ++ qs) z4 ⟨_, dt4⟩).run [] t5 _ G _ S5 (yes rfl a free)) (fun fl t6 sp => ?_) (fun _ _ z => False.elim z)
          have off2 : ∀ {τ6 : L2.St} {G6 : Hp} {Q : Shared → Prop}, L2.Inv (X.suite a ((a, ob4) :: (X.pn ++ qs))) [] τ6 G6 t6 → (∀ t7, L2.Inv X qs (τ6.set i none) G6 t7 → Q t7) →
              wpAny (model X.prog X.w) X.A (do bindName X.env y .none; unbindBehindTheSuite X.env y q') (fun _ t7 => Q t7) X.xe t6 := fun S6 hq => gone_ok (S6.unsuite good) dup hi hk hq
          cases fl with
          | ret u =>
            obtain ⟨v6, τ6, G6, S6, r6, q6⟩ := sp
            exact off2 S6 fun t7 J7 => ⟨_, _, _, J7, r6, q6⟩
          | next =>
            obtain ⟨τ6, G6, S6, q6⟩ := sp
            exact off2 S6 fun t7 J7 => ⟨_, _, J7, q6⟩
          | brk =>
            obtain ⟨τ6, G6, S6, q6⟩ := sp
            exact off2 S6 fun t7 J7 => ⟨_, _, J7, q6⟩
          | cont =>
            obtain ⟨τ6, G6, S6, q6⟩ := sp
            exact off2 S6 fun t7 J7 => ⟨_, _, J7, q6⟩
    exact go hh todo
  · cases fl with
    | ret u =>
      obtain ⟨v, τ, G, J, r, q⟩ := done
      exact ⟨v, τ, G, J.ofTry good, r, q⟩
    | next =>
      obtain ⟨τ, G, J, q⟩ := done
      exact wpAny_execs_nil ⟨τ, G, J.ofTry good, q⟩
    | brk =>
      obtain ⟨τ, G, J, q⟩ := done
      exact ⟨τ, G, J.ofTry good, q⟩
    | cont =>
      obtain ⟨τ, G, J, q⟩ := done
      exact ⟨τ, G, J.ofTry good, q⟩
end
/-! ### try over data -/
/-- which exception is one of a clause's class -/
def XtOk (K : PySem.W.Frag) (mg : Str → Option Value) (xt : Str → Str → Option Bool) : Prop := ∀ c x b, xt c x = some b → ∃ C hv, mg c = some (.ref C) ∧ (mg x = some hv ∨ (mg x = none ∧ bootBuiltins x = some hv)) ∧ PySem.W.exmOne K (.ref C) hv = some b
abbrev HdD := Str × Option Nat × (Addr → Addr → Option Addr → DS)
def XN : DX := fun _ _ _ _ => False
def DEnds.un (T : DEnds) (i : Nat) : DEnds := { nx := fun δ κ => T.nx (δ.set i none) κ, rt := T.rt, bk := fun δ κ => T.bk (δ.set i none) κ, ct := fun δ κ => T.ct (δ.set i none) κ }
def hPick (xt : Str → Str → Option Bool) : List HdD → DX → DEnds → DX
  | [], X, _ => X
  | (x, o, s) :: r, X, T => fun δ c fs κ => ∃ b, xt c x = some b ∧ if b = true then ∀ a C dd, match o with
      | none => s a C dd δ κ XN T
      | some i => s a C dd (δ.set i (some (.node (.cau c a C dd) fs))) κ XN (T.un i)
    else hPick xt r X T δ c fs κ
def sTry (xt : Str → Str → Option Bool) (b : DS) (hs : List HdD) : DS := fun δ κ X T => b δ κ (hPick xt hs X T) T
def WN : WX := fun _ _ _ _ => False
def SuiteD (X : Cx) (suite : List Stmt) (s : Addr → Addr → Option Addr → DS) : Prop := ∀ (a C : Addr) (dd : Option Addr) (oe : Obj) (pn : List (Addr × Obj)), Caught X a C dd oe → PSsD (X.suite a ((a, oe) :: pn)) WN suite (s a C dd)
inductive HdsD (X : Cx) : List ExceptHandler → List HdD → Prop
  | nil : HdsD X [] []
  | one {x : Str} {hv : Value} {s : Addr → Addr → Option Addr → DS} {s0 : Stmt} {suite : List Stmt} {q q' : Pos} {hds : List ExceptHandler} {l : List HdD} (n : Names X x hv) (u : SuiteD X (s0 :: suite) s) (r : HdsD X hds l) : HdsD X (.ExceptHandler (some (.Name x q)) none (s0 :: suite) q' :: hds) ((x, none, s) :: l)
  | asn {x y : Str} {hv : Value} {i : Nat} {s : Addr → Addr → Option Addr → DS} {s0 : Stmt} {suite : List Stmt} {q q' : Pos} {hds : List ExceptHandler} {l : List HdD} (n : Names X x hv) (hi : X.N[i]? = some y) (hk : X.env.kindOf y = some .local) (u : SuiteD X (s0 :: suite) s) (r : HdsD X hds l) :
      HdsD X (.ExceptHandler (some (.Name x q)) (some y) (s0 :: suite) q' :: hds) ((x, some i, s) :: l)
def tsD (X : Cx) (s : Addr → Addr → Option Addr → DS) : Addr → Value → Option Addr → TS := fun a cls d D σ H => ∃ C, cls = .ref C ∧ liftS (CtxOf X) WN (s a C d) D σ H
theorem suite_g {X : Cx} {suite : List Stmt} {s : Addr → Addr → Option Addr → DS} (u : SuiteD X suite s) : SuiteG X suite (tsD X s) := fun a oe cls d pn hz hf => ⟨fun ps sh σ H D I ⟨C, e, q⟩ => by
  subst e
  exact (u a C d oe pn ⟨hz, hf⟩).run ps sh σ H D I q⟩
theorem postE_un {C : Ctx} {F : Hp} {ρ : Loc0} {DD : DEnds} {T : Ends} (P : PostE C F ρ DD T) (i : Nat) : PostE C F ρ (DD.un i) (endsG T i) :=
  ⟨fun _ _ _ _ _ _ e S R q => P.nx _ _ _ _ _ _ e S (R.unset i) q, P.rt, fun _ _ _ _ _ _ e S R q => P.bk _ _ _ _ _ _ e S (R.unset i) q, fun _ _ _ _ _ _ e S R q => P.ct _ _ _ _ _ _ e S (R.unset i) q⟩
theorem hds_g {X : Cx} {xt : Str → Str → Option Bool} {W : WX} (T : XtOk X.K X.mg xt) : ∀ {hds : List ExceptHandler} {l : List HdD}, HdsD X hds l → ∃ lg, HdsG X hds lg ∧ ∀ (F : Hp) (ρ : Loc0) (XD : DX) (DD : DEnds) (D : Ends), PostE (CtxOf X) F ρ DD D → PostX (CtxOf X) F ρ XD W →
    PostX (CtxOf X) F ρ (hPick xt l XD DD) (wantG X.K W D lg)
  | _, _, .nil => ⟨[], .nil, fun F ρ XD DD D _ PX => PX⟩
  | _, _, .one (x := x) (hv := hv) (s := s) n u r => by
    obtain ⟨lg, h1, h2⟩ := hds_g T r
    refine ⟨_, .one n (suite_g u) h1, fun F ρ XD DD D P PX F' ρ' κ' H' δ σ c fs cls dd e S R rx q => ?_⟩
    obtain ⟨b, hb, q⟩ := q
    obtain ⟨C, hv', m1, m2, m3⟩ := T c x b hb
    obtain ⟨⟨m4, C', rfl⟩, _⟩ := id rx
    rw [show (CtxOf X).mg c = X.mg c from rfl, m1] at m4
    cases m4
    have ev : hv' = hv := by
      obtain ⟨_, _, m5 | ⟨m5, m6, _⟩⟩ := n
      · rcases m2 with m2 | ⟨m2, _⟩
        · exact Option.some.inj (m2.symm.trans m5)
        · rw [m5] at m2; cases m2
      · rcases m2 with m2 | ⟨_, m2⟩
        · rw [m5] at m2; cases m2
        · exact Option.some.inj (m2.symm.trans m6)
    subst ev
    refine ⟨b, m3, fun hb1 a na => ?_, fun hb0 => ?_⟩
    · rw [if_pos hb1] at q
      exact ⟨C, rfl, F', ρ', κ', δ, XN, DD, S, R, q a C dd, P.ext e, fun _ _ _ _ _ _ _ _ _ _ _ _ _ _ z => z.elim⟩
    · rw [if_neg (by rw [hb0]; decide)] at q
      exact h2 F ρ XD DD D P PX _ _ _ _ _ _ _ _ _ _ e S R rx q
  | _, _, .asn (x := x) (hv := hv) (i := i) (s := s) n hi hk u r => by
    obtain ⟨lg, h1, h2⟩ := hds_g T r
    refine ⟨_, .asn n hi hk (suite_g u) h1, fun F ρ XD DD D P PX F' ρ' κ' H' δ σ c fs cls dd e S R rx q => ?_⟩
    obtain ⟨b, hb, q⟩ := q
    obtain ⟨C, hv', m1, m2, m3⟩ := T c x b hb
    obtain ⟨⟨m4, C', rfl⟩, vs, rl, hd⟩ := id rx
    rw [show (CtxOf X).mg c = X.mg c from rfl, m1] at m4
    cases m4
    have ev : hv' = hv := by
      obtain ⟨_, _, m5 | ⟨m5, m6, _⟩⟩ := n
      · rcases m2 with m2 | ⟨m2, _⟩
        · exact Option.some.inj (m2.symm.trans m5)
        · rw [m5] at m2; cases m2
      · rcases m2 with m2 | ⟨_, m2⟩
        · rw [m5] at m2; cases m2
        · exact Option.some.inj (m2.symm.trans m6)
    subst ev
    refine ⟨b, m3, fun hb1 a na => ?_, fun hb0 => ?_⟩
    · rw [if_pos hb1] at q
      refine ⟨C, rfl, F', ρ', κ', _, XN, _, S, R.set (.node (k := .cau c a C dd) ⟨rfl, m1, ?_⟩ rl) i, q a C dd, postE_un (P.ext e) i, fun _ _ _ _ _ _ _ _ _ _ _ _ _ _ z => z.elim⟩
      rcases hd with ⟨z1, z2⟩ | ⟨d, ns, z1, z2, z3⟩
      · exact .inl ⟨z2, z1⟩
      · exact .inr ⟨d, ns, z1, z2, z3⟩
    · rw [if_neg (by rw [hb0]; decide)] at q
      exact h2 F ρ XD DD D P PX _ _ _ _ _ _ _ _ _ _ e S R rx q
section
variable {X : Cx} {body : List Stmt} {h0 : ExceptHandler} {hds : List ExceptHandler} {l : List HdD} {pos : Pos} {b : DS} {W : WX} {k : Nat} {xt : Str → Str → Option Bool}
theorem sd_try (G : Good k X W) (T : XtOk X.K X.mg xt) (run : ∀ (W' : WX) (ps : List (Addr × Obj)) (xe : Value → Shared → Prop), Good k (X.tr ps xe) W' → PSsD (X.tr ps xe) W' body b) (hh : HdsD X (h0 :: hds) l)
    (stk : X.stack = X.env :: X.outer := by rfl) (frm : X.env.frame = some X.env.locals := by rfl) : PSD X W (.Try body (h0 :: hds) [] [] pos) (sTry xt b l) := by
  obtain ⟨lg, h1, h2⟩ := hds_g (W := W) T hh
  refine ps_weak (ps_try_gen (tb := fun W' => liftS (CtxOf X) W' b) stk frm G.nd G.tk (fun W' ps xe tk po => run W' ps xe ⟨tk, po, G.rm, G.gd, G.sm, G.calm, G.nd⟩) h1) ?_
  rintro D σ H ⟨F, ρ, κ, δ, XD, DD, S, R, q, P, PX⟩
  exact ⟨F, ρ, κ, δ, _, DD, S, R, q, P, h2 F ρ XD DD D P PX⟩
end
end DL

/-! DLo: stores into dicts, list.index. -/
namespace DL
open PySem PySem.Spec PyProof.Rows L2
def hasKey (ks : List Key) (k : Key) : Bool := ks.any fun k' => decide (k' = k)
def putKs (ks : List Key) (k : Key) : List Key := if hasKey ks k = true then ks else ks ++ [k]
def putVs {α : Type} (ks : List Key) (xs : List α) (k : Key) (d : α) : List α := if hasKey ks k = true then List.zipWith (fun k' x => if k' = k then d else x) ks xs else xs ++ [d]
theorem zipW_rep {C : Ctx} {F : Hp} {ρ : Loc0} {d : D} {v : V} {k : Key} (r : Rep C F ρ d v) : ∀ {ks : List Key} {xs : List D} {vs : List V}, RepL C F ρ xs vs → RepL C F ρ (List.zipWith (fun k' x => if k' = k then d else x) ks xs) (List.zipWith (fun k' x => if k' = k then v else x) ks vs)
  | [], _, _, _ => .nil
  | _ :: _, _, _, .nil => .nil
  | k' :: ks, _, _, .cons h t => .cons (by
      show Rep C F ρ (if k' = k then d else _) (if k' = k then v else _)
      by_cases e : k' = k
      · rw [if_pos e, if_pos e]; exact r
      · rw [if_neg e, if_neg e]; exact h) (zipW_rep r t)
theorem putV_rep {C : Ctx} {F : Hp} {ρ : Loc0} {d : D} {v : V} {k : Key} {ks : List Key} {xs : List D} {vs : List V} (r : Rep C F ρ d v) (h : RepL C F ρ xs vs) : RepL C F ρ (putVs ks xs k d) (putVs ks vs k v) := by
  unfold putVs
  split
  · exact zipW_rep r h
  · exact h.append (.cons r .nil)
theorem any_key (kvs : List (Key × V)) (k : Key) : (kvs.any fun kv => decide (kv.1 = k)) = hasKey (kvs.map (·.1)) k := by
  unfold hasKey
  rw [List.any_map]
  rfl
theorem putK_parts (kvs : List (Key × V)) (k : Key) (v : V) : (putK kvs k v).map (·.1) = putKs (kvs.map (·.1)) k ∧ (putK kvs k v).map (·.2) = putVs (kvs.map (·.1)) (kvs.map (·.2)) k v := by
  unfold putK putKs putVs
  rw [any_key]
  by_cases h : hasKey (kvs.map (·.1)) k = true
  · rw [if_pos h, if_pos h, if_pos h]
    clear h
    induction kvs with
    | nil => exact ⟨rfl, rfl⟩
    | cons p r ih =>
      obtain ⟨i1, i2⟩ := ih
      by_cases e : p.1 = k
      · refine ⟨?_, ?_⟩
        · rw [List.map_cons, List.map_cons, List.map_cons, i1, if_pos e]
        · rw [List.map_cons, List.map_cons, List.map_cons, List.map_cons, List.zipWith_cons_cons, i2, if_pos e, if_pos e]
      · refine ⟨?_, ?_⟩
        · rw [List.map_cons, List.map_cons, List.map_cons, i1, if_neg e]
        · rw [List.map_cons, List.map_cons, List.map_cons, List.map_cons, List.zipWith_cons_cons, i2, if_neg e, if_neg e]
  · rw [if_neg h, if_neg h, if_neg h]
    rw [List.map_append, List.map_append]
    exact ⟨rfl, rfl⟩
def keyO : D → Option Key
  | .int i => some (.inl i)
  | .str x => some (.inr x)
  | _ => none
theorem keyO_rep {C : Ctx} {F : Hp} {ρ : Loc0} {d : D} {v : V} {k : Key} (r : Rep C F ρ d v) (h : keyO d = some k) : v = kV k := by
  cases r <;> first | (cases h; rfl) | cases h
/-- d[k] = v of a dict that is a cell -/
def fSetD : D → D → D → Kap → (Kap → Prop) → Prop := fun o i d κ Q => ∃ n ks xs k, o = .cell n ∧ κ n = some (.live (.dct ks) xs) ∧ keyO i = some k ∧ ks.length < sizeLine ∧ Q (kset κ n (.live (.dct (putKs ks k)) (putVs ks xs k d)))
section
variable {X : Cx} {W : WX} {k : Nat} {e1 e2 : Expr} {a b : DE} {pos : Pos}
theorem pg_subDD (G : Good k X W) (ho : PED X W e1 a) (hi : PED X W e2 b)
    (ha : ∀ v, assign (.Subscript e1 e2 pos) X.env v = (do
      let ov ← holding [v] (eval e1 X.env)
      let iv ← holding [v, ov] (eval e2 X.env)
      standAt pos
      holding [v, ov, iv] (setItem ov iv v)
      release [v, ov, iv] []) := by intro _; rfl) : PGD X W (.Subscript e1 e2 pos) (gSubD a b fSetD) :=
  pg_weak (pg_sub ho hi (set_dict (by have := G.rm.un; omega)) ha) fun v σ H Q ⟨F, ρ, κ, δ, d, XD, QD, S, R, rr, h, P, PX⟩ =>
  ⟨F, ρ, κ, δ, XD, _, S, R, h, fun F1 ρ1 κ1 H1 x u e1 S1 R1 h1 => ⟨F1, ρ1, κ1, δ, XD, _, S1, R.ext e1, h1, fun F2 ρ2 κ2 H2 y w e2 S2 R2 h2 => by
    obtain ⟨n, ks, xs, k, rfl, h3, h4, h5, h6⟩ := h2
    have e12 := e1.trans e2
    obtain ⟨p, vs, rfl, hr, ⟨kvs, g1, g2, g3⟩, rl⟩ := cell_at S2 (R1.ext e2) h3
    have ek := keyO_rep R2 h4
    subst ek g2 g3
    obtain ⟨z1, z2⟩ := putK_parts kvs k v
    refine ⟨p, _, rfl, DPut.k g1 (by rw [List.length_map] at h5; exact h5), ?_⟩
    exact P _ _ _ _ _ _ e12 (S2.write (k' := .dct (putKs (kvs.map (·.1)) k)) (o := .dK (putK kvs k v)) h3 hr (fun H' q => ⟨_, q, z1, z2⟩) (putV_rep (rr.ext e12) rl)) (R.ext e12) h6, PX.ext e1⟩, PX⟩
end
/-! ### list.index of truths -/
def fIndexB : D1N := fun x ds κ Q => ∃ (bs : List Bool) (b : Bool) (j : Nat), x = .node .lst (bs.map D.bl) ∧ ds = [.bl b] ∧ bs[j]? = some b ∧ (∀ m, m < j → bs[m]? ≠ some b) ∧ Q (.int (j : Nat)) κ
theorem sim_indexB {C : Ctx} : Sim1N C fIndexB (rIndex C.K) := by
  intro F ρ κ H x v ds vs QD Q S rx rd h P
  obtain ⟨bs, b, j, rfl, rfl, h1, h2, h3⟩ := h
  obtain ⟨a, ws, rfl, hk, rl⟩ := view_at S rx rfl
  have e := rl.bls
  subst e
  obtain ⟨w, rfl, rw'⟩ := repL1 rd
  cases rw'
  refine ⟨a, _, _, j, .bl b, rfl, rfl, SqL.of hk, rfl, ?_, by rw [List.getElem?_map, h1]; rfl, by cases b <;> rfl, fun m z' hm hz => ?_, P _ _ _ _ _ _ (Ext.refl _ _) S (.int _) h3⟩
  · rw [List.all_map]
    exact List.all_eq_true.mpr fun _ _ => rfl
  · rw [List.getElem?_map] at hz
    cases q : bs[m]? with
    | none => rw [q] at hz; cases hz
    | some c =>
      rw [q] at hz
      cases hz
      have := h2 m hm
      rw [q] at this
      cases b <;> cases c <;> first | rfl | exact absurd rfl this
section
variable {X : Cx} {W : WX} {o e : Expr} {es : List Expr} {a : DE} {as : DA} {apos cpos : Pos}
theorem pd_indexB (ho : PED X W o a) (ha : PAD X W (e :: es) as) (hbase : attributeBase o "index" X.env (eval o X.env) = eval o X.env := by rfl)
    (hfew : ((backTo cpos (starEach (e :: es) X.env)).all (fun x => !x.1) && (backToKw cpos (keywordEach [] X.env)).all (fun x => x.1.isSome) && decide ((e :: es).length + ([] : List Keyword).length + (if ([] : List Keyword).isEmpty then 0 else 1) < 30)) = true := by rfl)
    (hline : (apos.endLine == cpos.line) = true := by rfl) (hs : starEach (e :: es) X.env = (false, eval e X.env) :: starEach es X.env := by rfl) (hplain : (backTo cpos (starEach es X.env)).any (·.1) = false := by rfl) :
    PED X W (.Call (.Attribute o "index" apos) (e :: es) [] cpos) (dBM "list" fIndexB a as) :=
  pe_weak (pe_bm PySem.F.plainAttrs_list PySem.F.slot_list_index PySem.F.type_list_index mt_index ho ha hbase hfew hline hs hplain) fun _ _ _ => lift_bm sim_indexB
end
/-! ### tables of exceptions -/
def xtOf (tab : List (Str × Str × Bool)) (c x : Str) : Option Bool := (tab.find? fun r => decide (r.1 = c) && decide (r.2.1 = x)).map (·.2.2)
theorem xtOk_of {K : PySem.W.Frag} {mg : Str → Option Value} {tab : List (Str × Str × Bool)} (h : ∀ r ∈ tab, ∃ C hv, mg r.1 = some (.ref C) ∧ (mg r.2.1 = some hv ∨ (mg r.2.1 = none ∧ bootBuiltins r.2.1 = some hv)) ∧ PySem.W.exmOne K (.ref C) hv = some r.2.2) : XtOk K mg (xtOf tab) := by
  intro c x b e
  unfold xtOf at e
  cases q : tab.find? fun r => decide (r.1 = c) && decide (r.2.1 = x) with
  | none => rw [q] at e; cases e
  | some r =>
    rw [q] at e
    cases e
    have hp := List.find?_some q
    have hm := List.mem_of_find?_eq_some q
    rw [Bool.and_eq_true_iff, decide_eq_true_iff, decide_eq_true_iff] at hp
    obtain ⟨rfl, rfl⟩ := hp
    exact h r hm
def xfOf (tab : List (Str × Str)) (c f : Str) : Bool := tab.any fun r => decide (r.1 = c) && decide (r.2 = f)
theorem xfOk_of {K : PySem.W.Frag} {mg : Str → Option Value} {tab : List (Str × Str)} (h : ∀ r ∈ tab, ∃ C, mg r.1 = some (.ref C) ∧ XfC K C ∧ PySem.W.findIn K (.ref C) r.2 = some none) : XfOk K mg (xfOf tab) := by
  intro c f e
  unfold xfOf at e
  obtain ⟨r, hm, hp⟩ := List.any_eq_true.mp e
  rw [Bool.and_eq_true_iff, decide_eq_true_iff, decide_eq_true_iff] at hp
  obtain ⟨rfl, rfl⟩ := hp
  exact h r hm
theorem exm_of {K : PySem.W.Frag} {cls : Value} {C : Addr} {b : Bool} (h1 : PySem.W.subIn K (.ref C) (.type "BaseException") = some true) (h2 : PySem.W.kitOne K (.type "int") (.ref C) = some false) (h3 : PySem.W.subIn K cls (.ref C) = some b) : PySem.W.exmOne K cls (.ref C) = some b := by
  have h4 : PySem.W.kitCls K (.type "int") (.ref C) = some false := h2
  unfold PySem.W.exmOne
  rw [h1]
  unfold PySem.W.kitCls at h4 ⊢
  dsimp only at h4 ⊢
  split at h4
  · rename_i hc
    rw [if_pos hc]
    exact h3
  · cases h4
theorem exm_ofT {K : PySem.W.Frag} {cls : Value} {T : String} {b : Bool} (h1 : PySem.W.subIn K (.type T) (.type "BaseException") = some true) (h2 : PySem.W.kitMeta T = true) (h3 : PySem.W.subIn K cls (.type T) = some b) : PySem.W.exmOne K cls (.type T) = some b := by
  unfold PySem.W.exmOne
  rw [h1]
  unfold PySem.W.kitCls
  dsimp only
  rw [if_pos h2]
  exact h3
/-! ### steps -/
section
variable {δ : DEnv} {κ : Kap} {X : DX} {Q : DQ} {as : DA} {b : DS} {c f : Str} {ns : List Str} {xs fs : List D} {T : DEnds} {xt : Str → Str → Option Bool} {xf : Str → Str → Bool} {hs : List HdD} {x : Str} {o : Option Nat} {s : Addr → Addr → Option Addr → DS} {i : Nat}
theorem s_rz (h : as δ κ X fun xs κ1 => xs.length = ns.length ∧ xs.length ≤ 100 ∧ X δ c (xfl ns xs.reverse) κ1) : sRz c ns as δ κ X T := h
theorem s_rz3 {Y : Str → List D → Kap → Prop} (h1 : xs.length = ns.length) (h2 : xs.length ≤ 100) (h3 : xfl ns xs.reverse = fs) (h : Y c fs κ) : xs.length = ns.length ∧ xs.length ≤ 100 ∧ Y c (xfl ns xs.reverse) κ := ⟨h1, h2, by rw [h3]; exact h⟩
theorem g_set {d : D} {δ' : DEnv} {QG : DEnv → Kap → Prop} (e : δ.set i (some d) = δ') (h : QG δ' κ) : gN i d δ κ X QG := by
  subst e
  exact h
theorem s_try (h : b δ κ (hPick xt hs X T) T) : sTry xt b hs δ κ X T := h
theorem hp_no (e : xt c x = some false) (h : hPick xt hs X T δ c fs κ) : hPick xt ((x, o, s) :: hs) X T δ c fs κ := ⟨false, e, by rw [if_neg (by decide)]; exact h⟩
theorem hp_one (e : xt c x = some true) (h : ∀ a C dd, s a C dd δ κ XN T) : hPick xt ((x, none, s) :: hs) X T δ c fs κ := ⟨true, e, by rw [if_pos rfl]; exact h⟩
theorem hp_as {n : DEnv → Kap → Prop} {rt : DQ} {bk ct : DEnv → Kap → Prop} (e : xt c x = some true) (h : ∀ a C dd, s a C dd (δ.set i (some (.node (.cau c a C dd) fs))) κ XN ⟨fun δ κ => n (δ.set i none) κ, rt, fun δ κ => bk (δ.set i none) κ, fun δ κ => ct (δ.set i none) κ⟩) : hPick xt ((x, some i, s) :: hs) X ⟨n, rt, bk, ct⟩ δ c fs κ := ⟨true, e, by rw [if_pos rfl]; exact h⟩
theorem fld_1 {n : Str} {d : D} {r : List D} : fldOf n (.str n :: d :: r) = some d := by
  show (if n = n then some d else _) = _
  rw [if_pos rfl]
theorem fld_2 {n m : Str} {d e : D} {r : List D} (h : m ≠ n) (q : fldOf n r = some e) : fldOf n (.str m :: d :: r) = some e := by
  show (if m = n then some d else _) = _
  rw [if_neg h]
  exact q
theorem e_xf {a C : Addr} {dd : Option Addr} {d : D} (e : δ[i]? = some (some (.node (.cau c a C dd) fs))) (h1 : xf c f = true) (h2 : fldOf f fs = some d) (h : Q d κ) : dXf xf i f a C dd δ κ X Q := ⟨c, fs, d, e, h1, h2, h⟩
end
end DL

/-! DLp: tuples that stand in the globals, three at once, == in a suite. -/
namespace DL
open PySem PySem.Spec PyProof.Rows L2
/-- a tuple that the top has left -/
def TupK (K : PySem.W.Frag) (a : Addr) (vs : List V) : Prop := ∃ (o : Obj) (its : Array Value) (n : Nat), K.lookup a = some o ∧ o.cls = .type "tuple" ∧ o.data = .seq its n ∧ its.size ≤ sizeLine ∧ Vals vs its.toList
theorem tupK_of {K : PySem.W.Frag} {a : Addr} {vs : List V} {its : List Value} {dd : Option Addr} {n : Nat} {sl : Array (Option Value)} (l : K.lookup a = some ⟨.type "tuple", dd, .seq its.toArray n, sl⟩) (hl : its.length ≤ 16777216) (r : Vals vs its) : TupK K a vs :=
  ⟨_, its.toArray, n, l, rfl, rfl, by rw [List.size_toArray]; exact hl, r⟩
theorem TupK.rep {K : PySem.W.Frag} {mg : Str → Option Value} {a : Addr} {vs : List V} {ds : List D} (h : TupK K a vs) {F : Hp} {ρ : Loc0} (r : RepL ⟨K, mg⟩ F ρ ds vs) : Rep ⟨K, mg⟩ F ρ (.node .tup ds) (.ref a) := .node (k := .tup) (.inr h) r
section
variable {X : Cx} {W : WX} {k : Nat} {x : Str} {p pos : Pos} {vs : List V} {ds : List D}
theorem pd_glbTup (hm : ∃ a, X.mg x = some (.ref a) ∧ TupK X.K a vs) (r : ∀ F ρ, RepL (CtxOf X) F ρ ds vs) (hg : Gl X x := by rfl) (hdb : (x == ("__debug__" : Str)) = false := by decide) : PED X W (.Name x p) (dC (.node .tup ds)) := by
  obtain ⟨a, hm, ht⟩ := hm
  refine ⟨fun pins s σ H Q I ⟨F, ρ, κ, δ, XD, QD, S, R, h, P, PX⟩ => ?_⟩
  exact ld_glob I hg hm ⟨.ref a, H, I, rfl, P _ _ _ _ _ _ (Ext.refl _ _) S (ht.rep (r _ _)) h⟩ hdb
end
def sPar3 (i j l : Nat) (as : DA) : DS := fun δ κ X T => as δ κ X fun ds κ1 => ∃ x y z, ds = [x, y, z] ∧ T.nx (((δ.set i (some x)).set j (some y)).set l (some z)) κ1
section
variable {X : Cx} {W : WX} {k : Nat} {e1 e2 e3 : Expr} {st : Stmt} {as : DA} {a b : DE} {pos : Pos}
theorem repL3 {C : Ctx} {F : Hp} {ρ : Loc0} {x y z : D} {vs : List V} (r : RepL C F ρ [x, y, z] vs) : ∃ u v w, vs = [u, v, w] ∧ Rep C F ρ x u ∧ Rep C F ρ y v ∧ Rep C F ρ z w := by
  cases r with
  | cons h1 r =>
    cases r with
    | cons h2 r =>
      cases r with
      | cons h3 r =>
        cases r
        exact ⟨_, _, _, rfl, h1, h2, h3⟩
theorem sd_par3 (i j l : Nat) (hp : ∀ ta, PA X [e1, e2, e3] ta → PS X st (tPar3 i j l ta)) (ha : PAD X W [e1, e2, e3] as) : PSD X W st (sPar3 i j l as) := ps_weak (hp _ ha) fun T σ H ⟨F, ρ, κ, δ, XD, DD, S, R, h, P, PX⟩ =>
  ⟨F, ρ, κ, δ, XD, _, S, R, h, fun F1 ρ1 κ1 H1 ds vs e1 S1 R1 ⟨x, y, z, h0, h1⟩ => by
    subst h0
    obtain ⟨u, v, w, rfl, rx, ry, rz⟩ := repL3 R1
    exact ⟨u, v, w, rfl, P.nx _ _ _ _ _ _ e1 S1 ((((R.ext e1).set rx i).set ry j).set rz l) h1⟩, PX⟩
/-- what == leans on, in a suite too -/
structure Gs (X : Cx) : Prop where
  un : X.A.units + 64 < cLine
  sm : ∃ o, X.base.get? sysModules = some o
theorem Good.gs (g : Good k X W) : Gs X := ⟨by have := g.rm.un; omega, g.sm⟩
theorem Gs.suite {a : Addr} {pn : List (Addr × Obj)} (g : Gs X) : Gs (X.suite a pn) := ⟨g.un, g.sm⟩
theorem op_eqS (g : Gs X) : OpR X (compareOp .Eq) (rDat (CtxOf X) PyData.eqv) := by
  intro pins s σ H x y v u Q I rx ry ⟨F, ρ, κ, dx, dy, p, q, S, r1, r2, h1, h2, h3, h4, h5⟩
  obtain ⟨as, q1, _⟩ := Pd.reads I (Inv.sysm I g.sm) S h1 r1 rx
  obtain ⟨bs, q2, _⟩ := Pd.reads I (Inv.sysm I g.sm) S h2 r2 ry
  exact SeqAt.compareEq_shaped q1 q2 h3 h4 g.un ⟨.bl _, H, I, rfl, h5⟩
theorem pd_eqS (g : Gs X) (ha : PED X W e1 a) (hb : PED X W e2 b) : PED X W (.Compare e1 [.Eq] [e2] pos) (dOp fEq a b) := pd_cmp (op_eqS g) sim_dat ha hb
end
/-! steps -/
section
variable {δ : DEnv} {κ : Kap} {X : DX} {as : DA} {x y z : D} {n : DEnv → Kap → Prop} {rt : DQ} {bk ct : DEnv → Kap → Prop}
theorem s_par3 {i j l : Nat} (h : as δ κ X fun ds κ1 => ∃ x y z, ds = [x, y, z] ∧ n (((δ.set i (some x)).set j (some y)).set l (some z)) κ1) : sPar3 i j l as δ κ X ⟨n, rt, bk, ct⟩ := h
theorem x_par3 {P : D → D → D → Prop} (h : P x y z) : ∃ u v w, [x, y, z] = [u, v, w] ∧ P u v w := ⟨x, y, z, rfl, h⟩
end
end DL

/-! DMc: list comprehensions with several for clauses. -/
namespace DL
open PySem PySem.Spec PyProof.Rows L2
/-- what one turn of a clause's loop is -/
def TurnIs (code : Expr) (k : Nat) (p : Pos) (tg : Expr) (ifs : List Expr) (bodyK : Value → Env → Sem PySem.Fin → Sem PySem.Fin) : Prop := ∀ it acc env, compTurn code k it acc env = (do
  standAt p
  match ← pyNext it with
  | none => pure (.done .next)
  | some v =>
    letOwnedTupleGo tg it v
    assign tg env v
    let mut ok := true
    for c in ifs do
      if ok then ok ← isTrue c env (eval c env)
    if ok then bodyK acc env (again (.compLoop code k it acc env)) else again (.compLoop code k it acc env))
structure BodyOk (Y : Cx) (bodyK : Sem PySem.Fin → Sem PySem.Fin) (vsI : List Nat) (tk : L2.St → Hp → (Hp → Prop) → Prop) : Prop where
  run : ∀ (pins : List (Addr × Obj)) (σ : L2.St) (H : Hp) (s : Shared) (Nx : Hp → Prop) (r : Sem PySem.Fin) (Q : PySem.Fin → Shared → Prop) (E : Value → Shared → Prop), L2.Inv Y pins σ H s → tk σ H Nx →
    (∀ s' σ' H', L2.Inv Y pins σ' H' s' → σ'.length = σ.length → (∀ (j : Nat) v, (wipe σ vsI)[j]? = some (some v) → σ'[j]? = some (some v)) → Nx H' → wpAny (model Y.prog Y.w) Y.A r Q E s') → wpAny (model Y.prog Y.w) Y.A (bodyK r) Q E s
def clW (g : TG) (tt : TT) (tk : L2.St → Hp → (Hp → Prop) → Prop) (vs : List Nat) (J : It) (σ : L2.St) (W : Nat → Nat → Hp → Prop) (Nx : Hp → Prop) : Prop := ∀ j m H, W j m H → (J.stop j H ∧ Nx H) ∨ (J.go j H ∧ ∃ Nx1 : Hp → Prop, (∀ H', Nx1 H' → ∃ m', m' < m ∧ W (j + 1) m' H') ∧
  ∀ x H', J.yld j H x H' → g x (wipe σ vs) H' fun σ3 H5 => wipe σ3 vs = wipe σ vs ∧ tt σ3 H5 fun b H6 => if b = true then tk σ3 H6 Nx1 else Nx1 H6)
section
variable {Y : Cx} {elt0 tg : Expr} {gs : List Comprehension} {scope : Scope} {lpos : Pos} {ifs : List Expr} {k : Nat} {p : Pos} {bodyK : Value → Env → Sem PySem.Fin → Sem PySem.Fin} {g : TG} {tt : TT} {tk : L2.St → Hp → (Hp → Prop) → Prop} {vs vsI : List Nat} {D : Addr}
theorem loop_ok (hx : ∀ e s, ¬ Y.xe e s) (hc : Y.calm = true) (hk : TurnIs (.ListComp elt0 gs scope lpos) k p tg ifs bodyK) (pg : PG Y tg g) (pt : PTs Y ifs tt) (bo : BodyOk Y (bodyK (.ref D) Y.env) vsI tk) (hv : ∀ i ∈ vsI, i ∈ vs)
    {pins : List (Addr × Obj)} {σ : L2.St} {H : Hp} {s : Shared} {it : Addr} {fp : List Addr} {tn : Nat → Heap → Prop} {J : It} {W : Nat → Nat → Hp → Prop} {m : Nat} {Nx : Hp → Prop}
    (T : Turn Y.prog Y.w Y.K tg J fp it tn) (st : tn 0 s.heap) (n0 : ∀ b ∈ fp, H b = none) (hfp : ∀ {σ' : L2.St} {H' : Hp} {s' : Shared}, L2.Inv Y pins σ' H' s' → (∀ b ∈ fp, H' b = none) → ∀ b ∈ fp, FpOk Y pins H' b) (I : L2.Inv Y pins σ H s) (w0 : W 0 m H) (turn : clW g tt tk vs J σ W Nx) :
    codeAny (model Y.prog Y.w) Y.A (.compLoop (.ListComp elt0 gs scope lpos) k (.ref it) (.ref D) Y.env) (fun r s' => match r with
      | .ok _ => ∃ H', L2.Inv Y pins (wipe σ vs) H' s' ∧ Nx H'
      | .error _ => False) s := by
  refine codeAny_loop rfl (fun n s' => ∃ j H', L2.Inv Y pins (wipe σ vs) H' s' ∧ tn j s'.heap ∧ (∀ b ∈ fp, H' b = none) ∧ W j n H') (fun n s1 hI => ?_) m ⟨0, H, I.weak (wipe_length _ _) (fun j v e => (wipe_some e).1), st, n0, w0⟩
  obtain ⟨j, H1, I1, st1, n1, w1⟩ := hI
  show wpAny _ Y.A ((compTurn (.ListComp elt0 gs scope lpos) k (.ref it) (.ref D) Y.env).onRaise (fun x => do noteFrame x Y.env; theTreesLotGoes x)) _ _ s1
  refine wpAny_noted ?_
  rw [hk]
  rcases turn j n H1 w1 with ⟨stop, nx⟩ | ⟨go, Nx1, hNx, step⟩
  · refine wpAny_bind (wpAny_standAt (wpAny_bind (thnF (T.done Y rfl rfl rfl hc j pins s1 _ H1 (fun _ _ => False) I1 (hfp I1 n1) st1 stop) fun r s2 ⟨hr, I2⟩ => ?_)))
    subst hr
    exact wpAny_pure ⟨H1, I2, nx⟩
  · refine wpAny_bind (wpAny_standAt (wpAny_bind (thnF (T.item Y rfl rfl rfl hc j pins s1 _ H1 (fun _ _ => False) I1 (hfp I1 n1) st1 go) fun r s2 ⟨u, hr, h2⟩ => ?_)))
    subst hr
    refine wpAny_bind (thnF h2 fun _ s3 ⟨x, H3, I3, r3, y3, st3, n3⟩ => ?_)
    have I3' := I3.pinned (hfp I3 n3) (T.obj _ _ st3)
    refine wpAny_bind (wpAny_mono (pg.run _ s3 _ H3 x u _ I3' r3 (step x H3 y3)) (fun _ s4 ⟨σ4, H4, I4, hw4, q4⟩ => ?_) fun e s' z => absurd z (hx e s'))
    refine wpAny_bind (wpAny_mono (pt.run _ s4 σ4 H4 _ I4 q4) (fun b s5 ⟨H5, I5, q5⟩ => ?_) fun e s' z => absurd z (hx e s'))
    have hl4 : σ4.length = (wipe σ vs).length := by rw [← hw4, wipe_length]
    have last : ∀ {s' : Shared} {σ' : L2.St} {H' : Hp}, L2.Inv Y (pins ++ pinsAt fp s3.heap) σ' H' s' → σ'.length = σ4.length → (∀ (j : Nat) v, (wipe σ4 vsI)[j]? = some (some v) → σ'[j]? = some (some v)) → Nx1 H' →
        ∃ m', m' < n ∧ ∃ j H', L2.Inv Y pins (wipe σ vs) H' s' ∧ tn j s'.heap ∧ (∀ b ∈ fp, H' b = none) ∧ W j m' H' := fun {s' σ' H'} I' hl hw nx => by
      obtain ⟨m', hm, w'⟩ := hNx H' nx
      have pin' : ∀ b ∈ fp, ∀ o, s3.heap.get? b = some o → s'.heap.get? b = some o ∧ H' b = none := fun b hb o e =>
        let z := I'.pin (b, o) (List.mem_append_right _ (List.mem_append_right _ (mem_pinsAt hb e)))
        ⟨z.1, z.2.1⟩
      refine ⟨m', hm, j + 1, H', I'.unpinned.weak (by rw [hl, hl4]) (fun i v e => hw i v ?_), T.keep _ _ _ st3 fun b hb o e => (pin' b hb o e).1, fun b hb => ?_, w'⟩
      · rw [← hw4] at e
        obtain ⟨e1, e2⟩ := wipe_some e
        rw [wipe_out fun z => e2 (hv i z)]
        exact e1
      · obtain ⟨o, e, _⟩ := T.obj _ _ st3 b hb
        exact (pin' b hb o e).2
    cases b with
    | false =>
      rw [if_neg (by decide)] at q5
      exact wpAny_pure ⟨rfl, last I5 rfl (fun i v e => (wipe_some e).1) q5⟩
    | true =>
      rw [if_pos rfl] at q5
      exact bo.run _ σ4 H5 s5 Nx1 _ _ _ I5 q5 fun s' σ' H' I' hl hw nx => wpAny_pure ⟨rfl, last I' hl hw nx⟩
/-- the element goes to the list -/
def tkElt (D : Addr) (te : TE) : L2.St → Hp → (Hp → Prop) → Prop := fun σ H Nx => te σ H fun y H1 => ∃ acc, H1 D = some (.lst acc) ∧ acc.length < sizeLine ∧ Nx (upd H1 D (.lst (acc ++ [y])))
theorem body_elt {elt : Expr} {te : TE} (he : PE Y elt te) (hx : ∀ e s, ¬ Y.xe e s) : BodyOk Y (fun r => do
    (do let _ ← call (.builtin "list.append") [.ref D, ← eval elt Y.env])
    r) vsI (tkElt D te) := ⟨fun pins σ H s Nx r Q E I h fin => by
  refine wpAny_bind (wpAny_bind (wpAny_mono (he.run pins s σ H _ I h) (fun z s1 ⟨yv, H1, I1, r1, acc, hD, hz, nx⟩ => ?_) fun e s' z => absurd z (hx e s')))
  exact wpAny_bind (app_ok I1 hD hz r1 fun s2 I2 => wpAny_pure (fin s2 σ _ I2 rfl (fun j v e => (wipe_some e).1) nx))⟩
/-- a clause within -/
def tkFor (wi : TI) (g : TG) (tt : TT) (tk : L2.St → Hp → (Hp → Prop) → Prop) (vs : List Nat) : L2.St → Hp → (Hp → Prop) → Prop := fun σ H Nx => wi σ H fun J H1 => ∃ W : Nat → Nat → Hp → Prop, (∃ m, W 0 m H1) ∧ clW g tt tk vs J σ W Nx
theorem body_for {iter : Expr} {wi : TI} (hx : ∀ e s, ¬ Y.xe e s) (hc : Y.calm = true) (hk : TurnIs (.ListComp elt0 gs scope lpos) k p tg ifs bodyK) (hi : PI Y tg iter wi) (pg : PG Y tg g) (pt : PTs Y ifs tt) (bo : BodyOk Y (bodyK (.ref D) Y.env) vsI tk) (hv : ∀ i ∈ vsI, i ∈ vs)
    (hs : ∀ x, foldedSetIterable iter Y.env x = pure x)
    (hst : ∀ (it : Addr) (R : Result → Shared → Prop) (s : Shared), codeAny (model Y.prog Y.w) Y.A (.compLoop (.ListComp elt0 gs scope lpos) k (.ref it) (.ref D) Y.env) R s → (∀ (Q : Value → Shared → Prop) (E : Value → Shared → Prop), Q (.ref it) s → wpAny (model Y.prog Y.w) Y.A (pyIter (.ref it)) Q E s) →
      codeAny (model Y.prog Y.w) Y.A (.compStart (.ListComp elt0 gs scope lpos) k (.ref it) (.ref D) Y.env) R s) :
    BodyOk Y (fun r => do let x ← eval iter Y.env; standAt iter.pos; let x ← foldedSetIterable iter Y.env x; let _ ← runOwn (.compStart (.ListComp elt0 gs scope lpos) k (← holding [x] (pyIter x)) (.ref D) Y.env) Y.env; r) vs (tkFor wi g tt tk vs) := ⟨fun pins σ H s Nx r Q E I h fin => by
  refine wpAny_bind (wpAny_mono (hi.run pins s σ H _ I h) (fun x s1 h1 => ?_) fun e s' z => absurd z (hx e s'))
  refine wpAny_bind (wpAny_standAt (wpAny_bind (wpAny_of_eq (hs x) (wpAny_bind (wpAny_holding (wpAny_mono h1 (fun itv s2 h2 => ?_) fun e s' z => absurd z (hx e s')))))))
  obtain ⟨it, fp, tn, J, H2, e, I2, T, st2, f2, W, ⟨m, w0⟩, turn⟩ := h2
  subst e
  refine wpAny_bind (wpAny_runOwn ?_)
  rw [Around.mark_none]
  have lp := loop_ok (D := D) hx hc hk pg pt bo hv T st2 (fun b hb => (f2 b hb).1) (fun {σ' H' s'} I' n' b hb => ⟨n' b hb, (f2 b hb).2⟩) I2 w0 turn
  refine codeAny_mono (hst it _ _ lp fun Q E q => T.self _ _ _ _ _ st2 q) fun r s' hr => ?_
  cases r with
  | error e => exact hr.elim
  | ok f =>
    obtain ⟨H', I', nx⟩ := hr
    have done := fin s' (wipe σ vs) H' I' (wipe_length _ _) (fun _ _ e => e) nx
    first
      | exact wpAny_pure done
      | exact wpAny_bind (wpAny_pure done)
      | exact done⟩
end
section
variable {X : Cx}
/-- a comprehension with any clauses behind the first one -/
def tLcG (wi : TI) (g : TG) (tt : TT) (tk : Addr → L2.St → Hp → (Hp → Prop) → Prop) (vs : List Nat) : TE := fun σ H Q => wi σ H fun J H1 => ∀ D, H1 D = none → ∃ W : Nat → Nat → Hp → Prop, (∃ m, W 0 m (upd H1 D (.lst []))) ∧ clW g tt (tk D) vs J σ W fun H' => Q (.ref D) H'
abbrev BlkA (X : Cx) (scope : Scope) (P : Cx → Prop) : Prop := ∀ (s : Shared) (H : Hp) (C : Addr) (cl : List (Str × Addr)) (fp : List Addr), P (X.blk s H scope (compEnvC scope cl C X.env) fp)
theorem lcG_core {pins : List (Addr × Obj)} {s : Shared} {σ : L2.St} {H : Hp} {Q : VK} {elt tg iter : Expr} {ifs : List Expr} {rest : List Comprehension} {scope : Scope} {own : List (Str × Nat)} {pos pos' : Pos} {wi : TI} {g : TG} {tt : TT} {tk : Addr → L2.St → Hp → (Hp → Prop) → Prop} {vsI : List Nat}
    {use : Option (Value → Sem Unit)} {Qf : Value → Shared → Prop} {bodyK : Value → Env → Sem PySem.Fin → Sem PySem.Fin} (calm : X.calm = true) (dup : X.N.Nodup) (I : L2.Inv X pins σ H s) (hi : PI X tg iter wi) (ok : BlkOk X.N X.env.scope scope own)
    (hk : TurnIs (.ListComp elt (⟨tg, iter, ifs, 0⟩ :: rest) scope pos) 0 iter.pos tg ifs bodyK) (hg : BlkA X scope fun Y => PG Y tg g) (ht : BlkA X scope fun Y => PTs Y ifs tt) (hb : ∀ D, BlkA X scope fun Y => BodyOk Y (bodyK (.ref D) Y.env) vsI (tk D)) (hv : ∀ i ∈ vsI, i ∈ own.map (·.2))
    (hs : ∀ x, foldedSetIterable iter X.env x = pure x) (want : tLcG wi g tt tk (own.map (·.2)) σ H Q)
    (fin : ∀ D C t m G, L2.Inv X pins σ G t → Q (.ref D) G → t.heap.Ns C m → FpOk X pins G C → compPost (model X.prog X.w) X.A X.xe use Qf (.ref D) C (.ok .next) t) :
    wpAny (model X.prog X.w) X.A (comprehension (.ListComp elt (⟨tg, iter, ifs, 0⟩ :: rest) scope pos) scope X.env pos' (newList []) false (eval iter X.env) use) Qf X.xe s := by
  have cells : ∀ y ∈ scope.names, y.2 = .free → ∃ c, X.env.cells.lookup y.1 = some c := fun y hy e => (ok.free y hy e).elim (fun k => I.ok.has _ (.inl k)) fun k => I.ok.has _ (.inr k)
  refine wpAny_comprehension_free (use := use) rfl hs (closure_ok cells) ok.kind (fun y hy e => by rw [ok.uniq y hy, e]) (thn (hi.run pins s σ H _ I want) fun xv t1 hx => thn hx fun itv t2 got => ?_)
  obtain ⟨it, fp, tn, J, G2, e, I2, T, st2, f2, q⟩ := got
  subst e
  refine wpAny_newObj_type (newEnv_comp ?_) (by show 0 ≤ sizeLine; decide)
  generalize eD : t2.heap.objs.size = D
  obtain ⟨W, ⟨m0, w0⟩, turn⟩ := q D (I2.hok.fresh (Nat.le_of_eq eD))
  generalize e3 : ({ t2 with heap := t2.heap.push { cls := .type "list", data := .seq ([] : List Value).toArray } } : Shared) = t3
  have I3 : L2.Inv X pins σ (upd G2 D (.lst [])) t3 := by
    rw [← e3]
    exact I2.laid (t' := t2.toks) (fun b o e => Heap.get?_push_of_some _ e) (Nat.le_of_eq eD) ⟨Nat.zero_le _, [], 0, .nil, by rw [← eD]; exact Heap.get?_push_size _ rfl⟩
  have h3 : t3.heap = t2.heap.push { cls := .type "list", data := .seq ([] : List Value).toArray } := by rw [← e3]
  have f3 : ∀ b ∈ fp, FpOk X pins (upd G2 D (.lst [])) b ∧ b < t3.heap.objs.size := fun b hb => by
    obtain ⟨o, eo, _⟩ := T.obj _ _ st2 b hb
    have lt := Heap.lt_size eo
    exact ⟨⟨by rw [upd_ne (by rw [← eD]; exact Nat.ne_of_lt lt)]; exact (f2 b hb).1, (f2 b hb).2⟩, by rw [h3, Heap.size_push]; exact Nat.lt_succ_of_lt lt⟩
  have st3 : tn 0 t3.heap := T.keep _ _ _ st2 fun b _ o e => by rw [h3]; exact Heap.get?_push_of_some _ e
  have I4 := block_start I3 ok dup f3
  have pg := hg t3 (upd G2 D (.lst [])) t3.heap.objs.size (cellsFrom (t3.heap.objs.size + 1) scope.names (cloFrom X.env.cells scope.names [])) fp
  have pt := ht t3 (upd G2 D (.lst [])) t3.heap.objs.size (cellsFrom (t3.heap.objs.size + 1) scope.names (cloFrom X.env.cells scope.names [])) fp
  have pb := hb D t3 (upd G2 D (.lst [])) t3.heap.objs.size (cellsFrom (t3.heap.objs.size + 1) scope.names (cloFrom X.env.cells scope.names [])) fp
  show codeAny _ _ (.compStart (.ListComp elt (⟨tg, iter, ifs, 0⟩ :: rest) scope pos) 0 (.ref it) (.ref D) (compEnvC scope (cellsFrom (t3.heap.objs.size + 1) scope.names (cloFrom X.env.cells scope.names [])) t3.heap.objs.size X.env)) (compPost (model X.prog X.w) X.A X.xe use Qf (.ref D) t3.heap.objs.size)
    { t3 with heap := pushCells (t3.heap.push { cls := .type "dict", data := .dict #[] }) scope.names }
  generalize ec : compEnvC scope (cellsFrom (t3.heap.objs.size + 1) scope.names (cloFrom X.env.cells scope.names [])) t3.heap.objs.size X.env = ce at I4 pg pt pb ⊢
  have cL : ce.locals = t3.heap.objs.size := by subst ec; rfl
  generalize upd G2 D (.lst []) = G3 at I3 I4 pg pt pb w0 f3
  generalize e4 : ({ t3 with heap := pushCells (t3.heap.push { cls := .type "dict", data := .dict #[] }) scope.names } : Shared) = t4 at I4 ⊢
  have st4 : tn 0 t4.heap := T.keep _ _ _ st3 fun b _ o e => by rw [← e4]; exact pushCells_keeps _ _ _ _ (Heap.get?_push_of_some _ e)
  have lp := loop_ok (D := D) (Y := X.blk t3 G3 scope ce fp) (fun _ _ z => z.elim) calm hk pg pt pb hv T st4 (fun b hb => (f3 b hb).1.1)
    (fun {σ' H' s'} I' n' b hb => ⟨n' b hb, (I'.ok.exf b hb).1, I'.ok.exfs b hb, .inl hb, fun x c e => (I'.ok.exf b hb).2 x c e, fun p hp => absurd (show p ∈ ([] : List (Addr × Obj)) ++ [] from hp) (by simp)⟩) I4 w0
    (Nx := fun G => Q (.ref D) G) (σ := wipe σ (own.map (·.2))) (by
      intro j m G w
      rcases turn j m G w with z | ⟨go, Nx1, h1, h2⟩
      · exact .inl z
      · refine .inr ⟨go, Nx1, h1, fun x G' y => ?_⟩
        rw [wipe_wipe fun _ h => h]
        exact h2 x G' y)
  have lp2 : codeAny (model X.prog X.w) X.A (.compLoop (.ListComp elt (⟨tg, iter, ifs, 0⟩ :: rest) scope pos) 0 (.ref it) (.ref D) ce) (compPost (model X.prog X.w) X.A X.xe use Qf (.ref D) t3.heap.objs.size) t4 := by
    refine codeAny_mono lp fun r t5 hr => ?_
    cases r with
    | error e => exact hr.elim
    | ok f =>
      obtain ⟨G5, I5, q5⟩ := hr
      have I6 : L2.Inv X pins σ G5 t5 := I3.call' (ch := fp) I5.os I5.base I5.hok I5.bare fun b hb => ⟨(f3 b hb).1.2.2.2.1, (f3 b hb).1.2.1, (f3 b hb).1.2.2.2.2.1, (f3 b hb).1.2.2.2.2.2⟩
      have nC : G5 t3.heap.objs.size = none := by
        have z : G5 ce.locals = none := I5.free
        rw [cL] at z
        exact z
      obtain ⟨m, hn, _⟩ := I5.loc
      have hn' : t5.heap.Ns t3.heap.objs.size m := by rw [← cL]; exact hn
      have done := fin D t3.heap.objs.size t5 m G5 I6 q5 hn' (I3.fpOk (Nat.le_refl _) nC)
      cases use with
      | none => exact done
      | some u => exact done
  exact codeAny_compStart_list lp2 (T.self X.A 0 _ _ _ st4 lp2)
end
section
variable {X : Cx} {elt tg iter : Expr} {ifs : List Expr} {rest : List Comprehension} {scope : Scope} {own : List (Str × Nat)} {pos : Pos} {wi : TI} {g : TG} {tt : TT} {tk : Addr → L2.St → Hp → (Hp → Prop) → Prop} {vsI : List Nat} {bodyK : Value → Env → Sem PySem.Fin → Sem PySem.Fin}
theorem pe_lcG (calm : X.calm = true) (dup : X.N.Nodup) (hi : PI X tg iter wi) (ok : BlkOk X.N X.env.scope scope own) (hk : TurnIs (.ListComp elt (⟨tg, iter, ifs, 0⟩ :: rest) scope pos) 0 iter.pos tg ifs bodyK) (hg : BlkA X scope fun Y => PG Y tg g) (ht : BlkA X scope fun Y => PTs Y ifs tt)
    (hb : ∀ D, BlkA X scope fun Y => BodyOk Y (bodyK (.ref D) Y.env) vsI (tk D)) (hv : ∀ i ∈ vsI, i ∈ own.map (·.2)) (hs : ∀ x, foldedSetIterable iter X.env x = pure x) : PE X (.ListComp elt (⟨tg, iter, ifs, 0⟩ :: rest) scope pos) (tLcG wi g tt tk (own.map (·.2))) := by
  refine ⟨fun pins s σ H Q I want => ?_⟩
  rw [eval_ListComp]
  refine lcG_core calm dup I hi ok hk hg ht hb hv hs want fun D C t m G J q hn f => ⟨m, hn, fun h2 sb => ?_⟩
  obtain ⟨f0, f1, f2, f3, f4, f5⟩ := f
  exact ⟨.ref D, G, J.turned (t' := t.toks) (fun b o hb e => (sb.2 b hb).trans e) f0 f1 f3 f4 f5, rfl, q⟩
theorem ps_setLcG {i : Nat} {y : Str} {py spos : Pos} (calm : X.calm = true) (dup : X.N.Nodup) (hy : X.N[i]? = some y) (hyl : X.env.scope.names.lookup y = some .local) (hsw : swapsWith (.ListComp elt (⟨tg, iter, ifs, 0⟩ :: rest) scope pos) (some (.Name y py)) spos.line X.env = pure true) (hi : PI X tg iter wi)
    (ok : BlkOk X.N X.env.scope scope own) (hk : TurnIs (.ListComp elt (⟨tg, iter, ifs, 0⟩ :: rest) scope pos) 0 iter.pos tg ifs bodyK) (hg : BlkA X scope fun Y => PG Y tg g) (ht : BlkA X scope fun Y => PTs Y ifs tt) (hb : ∀ D, BlkA X scope fun Y => BodyOk Y (bodyK (.ref D) Y.env) vsI (tk D)) (hv : ∀ i ∈ vsI, i ∈ own.map (·.2))
    (hs : ∀ x, foldedSetIterable iter X.env x = pure x) : PS X (.Assign [.Name y py] (.ListComp elt (⟨tg, iter, ifs, 0⟩ :: rest) scope pos) spos) (tAsg (tLcG wi g tt tk (own.map (·.2))) (gName i)) := by
  refine ⟨fun pins s σ H D I want => ?_⟩
  rw [exec_Assign_Name_used _ _ _ _ hsw]
  refine wpAny_bind (wpAny_standAt (wpAny_bind ?_))
  show wpAny _ X.A (do let _ ← comprehension (.ListComp elt (⟨tg, iter, ifs, 0⟩ :: rest) scope pos) scope X.env (firstIterPos (⟨tg, iter, ifs, 0⟩ :: rest) pos) (newList []) false (eval iter X.env) (some (assign (.Name y py) X.env))) _ _ s
  have want2 : tLcG wi g tt tk (own.map (·.2)) σ H (fun x H1 => gName i x σ H1 D.nx) := want
  refine wpAny_bind (thn (lcG_core (Qf := fun _ s' => SP X pins D .next s') calm dup I hi ok hk hg ht hb hv hs want2 fun L C t m G J q hn f => ?_) fun _ s' hq => wpAny_pure (wpAny_pure hq))
  show wpAny _ _ (assign (.Name y py) X.env (.ref L)) _ _ _
  refine wpAny_assign_Name (store_ok2 (v := V.ref L) J dup hy (.inl hyl) rfl (fun t2 J2 ⟨a, sb, ha⟩ => ?_) (.inr hyl))
  obtain ⟨f0, f1, f2, f3, f4, f5⟩ := f
  have apart : C ≠ a := ha.elim (fun z => by rw [z]; exact f1) fun z e => f4 y a z e.symm
  exact ⟨m, hn.sameBut sb apart, fun h3 sb3 => ⟨_, G, J2.turned (t' := t2.toks) (fun b o hb e => (sb3.2 b hb).trans e) f0 f1 f3 f4 f5, q⟩⟩
end
/-! the clauses' turns -/
def kFor (code : Expr) (k : Nat) (iter : Expr) : Value → Env → Sem PySem.Fin → Sem PySem.Fin := fun acc env r => do
  let x ← eval iter env
  standAt iter.pos
  let x ← foldedSetIterable iter env x
  let _ ← runOwn (.compStart code k (← holding [x] (pyIter x)) acc env) env
  r
def kElt (elt : Expr) : Value → Env → Sem PySem.Fin → Sem PySem.Fin := fun acc env r => do
  (do let _ ← call (.builtin "list.append") [acc, ← eval elt env])
  r
section
variable {elt t0 i0 t1 i1 t2 i2 : Expr} {c0 c1 c2 : List Expr} {scope : Scope} {pos : Pos}
theorem turn_20 : TurnIs (.ListComp elt [⟨t0, i0, c0, 0⟩, ⟨t1, i1, c1, 0⟩] scope pos) 0 i0.pos t0 c0 (kFor (.ListComp elt [⟨t0, i0, c0, 0⟩, ⟨t1, i1, c1, 0⟩] scope pos) 1 i1) := fun _ _ _ => rfl
theorem turn_21 : TurnIs (.ListComp elt [⟨t0, i0, c0, 0⟩, ⟨t1, i1, c1, 0⟩] scope pos) 1 i1.pos t1 c1 (kElt elt) := fun _ _ _ => rfl
theorem turn_30 : TurnIs (.ListComp elt [⟨t0, i0, c0, 0⟩, ⟨t1, i1, c1, 0⟩, ⟨t2, i2, c2, 0⟩] scope pos) 0 i0.pos t0 c0 (kFor (.ListComp elt [⟨t0, i0, c0, 0⟩, ⟨t1, i1, c1, 0⟩, ⟨t2, i2, c2, 0⟩] scope pos) 1 i1) := fun _ _ _ => rfl
theorem turn_31 : TurnIs (.ListComp elt [⟨t0, i0, c0, 0⟩, ⟨t1, i1, c1, 0⟩, ⟨t2, i2, c2, 0⟩] scope pos) 1 i1.pos t1 c1 (kFor (.ListComp elt [⟨t0, i0, c0, 0⟩, ⟨t1, i1, c1, 0⟩, ⟨t2, i2, c2, 0⟩] scope pos) 2 i2) := fun _ _ _ => rfl
theorem turn_32 : TurnIs (.ListComp elt [⟨t0, i0, c0, 0⟩, ⟨t1, i1, c1, 0⟩, ⟨t2, i2, c2, 0⟩] scope pos) 2 i2.pos t2 c2 (kElt elt) := fun _ _ _ => rfl
end
/-- a clause's start: its iterator once more -/
def StartIs (code : Expr) (k : Nat) : Prop := ∀ (prog : Program) (w : World) (A : Around) (it : Addr) (acc : Value) (env : Env) (R : Result → Shared → Prop) (s : Shared), codeAny (model prog w) A (.compLoop code k (.ref it) acc env) R s →
  (∀ (Q : Value → Shared → Prop) (E : Value → Shared → Prop), Q (.ref it) s → wpAny (model prog w) A (pyIter (.ref it)) Q E s) → codeAny (model prog w) A (.compStart code k (.ref it) acc env) R s
section
variable {elt t0 i0 t1 i1 t2 i2 : Expr} {c0 c1 c2 : List Expr} {scope : Scope} {pos : Pos}
theorem start_21 : StartIs (.ListComp elt [⟨t0, i0, c0, 0⟩, ⟨t1, i1, c1, 0⟩] scope pos) 1 := fun prog w A it acc env R s h0 h => by
  exact compStart1_ok h0 (h _ _ h0)
theorem start_3 (k : Nat) (hk : k = 1 ∨ k = 2) : StartIs (.ListComp elt [⟨t0, i0, c0, 0⟩, ⟨t1, i1, c1, 0⟩, ⟨t2, i2, c2, 0⟩] scope pos) k := fun prog w A it acc env R s h0 h => by
  rcases hk with rfl | rfl
  all_goals
    refine codeAny_of_tree ?_
    refine wpAny_notedAt (m := compStart (.ListComp elt [⟨t0, i0, c0, 0⟩, ⟨t1, i1, c1, 0⟩, ⟨t2, i2, c2, 0⟩] scope pos) _ (.ref it) acc env) ?_
    unfold compStart
    refine wpAny_bind (wpAny_askSetting (wpAny_ite ?_))
    split
    · first
        | exact wpAny_bind (wpAny_pure (wpAny_pure (And.intro rfl h0)))
        | exact wpAny_pure (And.intro rfl h0)
    · refine wpAny_bind (wpAny_rule ?_)
      refine wpAny_bind (wpAny_standAt ?_)
      exact wpAny_bind (h _ _ (wpAny_pure (And.intro rfl h0)))
end
end DL

/-! DMd: comprehensions with several for clauses, over data. -/
namespace DL
open PySem PySem.Spec PyProof.Rows L2
abbrev DK := DEnv → Kap → (Kap → Prop) → Prop
def cElt (n : Nat) (e : DE) : DK := fun δ κ K => e δ κ XF fun y κ3 => ∃ acc, κ3 n = some (.live .lst acc) ∧ acc.length < sizeLine ∧ K (kset κ3 n (.live .lst (acc ++ [y])))
def cLoop (t : TN) (tt : DT) (vs : List Nat) (rest : DK) (gd : Kap → Prop) (δ : DEnv) (K : Kap → Prop) : List D → Kap → Prop
  | [], κ => gd κ ∧ K κ
  | d :: ds, κ => gd κ ∧ ∃ δ1, bindT t d (dwipe δ vs) κ = some δ1 ∧ tt δ1 κ XF fun b κ2 => if b = true then rest δ1 κ2 (cLoop t tt vs rest gd δ K ds) else cLoop t tt vs rest gd δ K ds κ2
def cFor (it : DI) (t : TN) (tt : DT) (vs : List Nat) (rest : DK) : DK := fun δ κ K => it δ κ XF fun items gd κ1 => cLoop t tt vs rest gd δ K items κ1
def dLcG (m : Bool) (it : DI) (t : TN) (tt : DT) (rest : Nat → DK) (vs : List Nat) : DE := fun δ κ X Q => it δ κ X fun items gd κ1 => ∀ n, κ1 n = none →
  cLoop t tt vs (rest n) gd δ (fun κ' => ∃ acc, κ' n = some (.live .lst acc) ∧ if m = true then Q (.cell n) κ' else Q (.lst acc) (kset κ' n .dead)) items (kset κ1 n (.live .lst []))
theorem cLoop_gd {t : TN} {tt : DT} {vs : List Nat} {rest : DK} {gd : Kap → Prop} {δ : DEnv} {K : Kap → Prop} {ds : List D} {κ : Kap} (h : cLoop t tt vs rest gd δ K ds κ) : gd κ := by
  cases ds with
  | nil => exact h.1
  | cons d ds => exact h.1
/-- a reading within a comprehension whose list is the cell n, at D -/
def liftK (C : Ctx) (D : Addr) (n : Nat) (dk : DK) : L2.St → Hp → (Hp → Prop) → Prop := fun σ H Nx => ∃ F ρ κ δ K, StR C F ρ κ H ∧ RepS C F ρ δ σ ∧ ρ n = some D ∧ dk δ κ K ∧ ∀ F' ρ' κ' H', Ext F ρ F' ρ' → StR C F' ρ' κ' H' → K κ' → Nx H'
section
variable {C : Ctx} {D0 : Addr} {n : Nat}
theorem lift_cElt {e : DE} {σ : L2.St} {H : Hp} {Nx : Hp → Prop} (h : liftK C D0 n (cElt n e) σ H Nx) : tkElt D0 (liftE C WF e) σ H Nx := by
  obtain ⟨F, ρ, κ, δ, K, S, R, hr, h, P⟩ := h
  refine ⟨F, ρ, κ, δ, XF, _, S, R, h, fun F1 ρ1 κ1 H1 y v e1 S1 R1 ⟨acc, h1, h2, h3⟩ => ?_, fun _ _ _ _ _ _ _ _ _ _ _ _ _ _ z => z.elim⟩
  obtain ⟨a, ws, g1, g2, g3, g4⟩ := S1.live n _ _ h1
  rw [e1.r _ _ hr] at g1
  cases g1
  have g3' : H1 D0 = some (.lst ws) := g3
  refine ⟨ws, g3', by rw [← g4.length]; exact h2, P F1 ρ1 _ _ e1 ?_ h3⟩
  exact S1.write (k' := .lst) h1 (e1.r _ _ hr) (fun _ q => q) (g4.append (.cons R1 .nil))
/-- the loop of a clause -/
theorem lift_cLoop {t : TN} {tt : DT} {vs : List Nat} {rest : DK} {gd : Kap → Prop} {δ : DEnv} {K : Kap → Prop} {items : List D} {κ : Kap} {F : Hp} {ρ : Loc0} {H : Hp} {σ : L2.St} {J : It} {Nx : Hp → Prop} (hi : ∀ i ∈ (match t with | .inl i => [i] | .inr is => is), i ∈ vs)
    (S : StR C F ρ κ H) (R : RepS C F ρ δ σ) (hr : ρ n = some D0) (hJ : ItOk C F ρ J items gd) (h : cLoop t tt vs rest gd δ K items κ) {tk : L2.St → Hp → (Hp → Prop) → Prop} (htk : ∀ {σ H Nx}, liftK C D0 n rest σ H Nx → tk σ H Nx) (P : ∀ F' ρ' κ' H', Ext F ρ F' ρ' → StR C F' ρ' κ' H' → K κ' → Nx H') :
    ∃ W : Nat → Nat → Hp → Prop, (∃ m, W 0 m H) ∧ clW (gvT C.K t) (liftT C WF tt) tk vs J σ W Nx := by
  refine ⟨fun i m H => ∃ F3 ρ3 κ3, Ext F ρ F3 ρ3 ∧ StR C F3 ρ3 κ3 H ∧ i ≤ items.length ∧ m = items.length - i ∧ cLoop t tt vs rest gd δ K (items.drop i) κ3, ⟨_, F, ρ, κ, Ext.refl _ _, S, Nat.zero_le _, rfl, h⟩, ?_⟩
  rintro i m H3 ⟨F3, ρ3, κ3, e3, S3, hi3, rfl, h3⟩
  have hr3 := e3.r _ _ hr
  obtain ⟨q1, q2⟩ := hJ F3 ρ3 κ3 H3 i e3 S3 (cLoop_gd h3)
  by_cases hlt : i < items.length
  · obtain ⟨q3, q4⟩ := q2 _ (List.getElem?_eq_getElem hlt)
    rw [List.drop_eq_getElem_cons hlt] at h3
    obtain ⟨_, δ1, hb, h4⟩ := h3
    refine .inr ⟨q3, _, fun _ z => z, fun x H4 hy => ?_⟩
    obtain ⟨F4, e4, S4, R4⟩ := q4 x H4 hy
    have e34 := e3.trans e4
    refine bindT_at (σ0 := L2.wipe σ vs) S4 hi hb ((R.ext e34).wipe vs) R4 (wipe_wipe fun _ z => z) fun σ5 R5 hw => ⟨hw, F4, ρ3, κ3, δ1, XF, _, S4, R5, h4, fun F5 ρ5 κ5 H5 b e5 S5 h5 => ?_, fun _ _ _ _ _ _ _ _ _ _ _ _ _ _ z => z.elim⟩
    cases b with
    | true =>
      rw [if_pos rfl] at h5
      show tk σ5 H5 _
      exact htk ⟨F5, ρ5, κ5, δ1, _, S5, R5.ext e5, (e4.trans e5).r _ _ hr3, h5, fun F6 ρ6 κ6 H6 e6 S6 h6 => ⟨items.length - (i + 1), by omega, F6, ρ6, κ6, (e3.trans e4).trans (e5.trans e6), S6, hlt, rfl, h6⟩⟩
    | false =>
      rw [if_neg (by decide)] at h5
      exact ⟨items.length - (i + 1), by omega, F5, ρ5, κ5, (e3.trans e4).trans e5, S5, hlt, rfl, h5⟩
  · have e : i = items.length := by omega
    subst e
    rw [List.drop_length] at h3
    exact .inl ⟨q1 rfl, P _ _ _ _ e3 S3 h3.2⟩
theorem lift_cFor {it : DI} {t : TN} {tt : DT} {vs : List Nat} {rest : DK} {σ : L2.St} {H : Hp} {Nx : Hp → Prop} (hi : ∀ i ∈ (match t with | .inl i => [i] | .inr is => is), i ∈ vs) {tk : L2.St → Hp → (Hp → Prop) → Prop} (htk : ∀ {σ H Nx}, liftK C D0 n rest σ H Nx → tk σ H Nx)
    (h : liftK C D0 n (cFor it t tt vs rest) σ H Nx) : tkFor (liftI C WF it) (gvT C.K t) (liftT C WF tt) tk vs σ H Nx := by
  obtain ⟨F, ρ, κ, δ, K, S, R, hr, h, P⟩ := h
  exact ⟨F, ρ, κ, δ, XF, _, S, R, h, fun F1 ρ1 κ1 H1 J items gd e1 S1 hJ h1 => lift_cLoop hi S1 (R.ext e1) (e1.r _ _ hr) hJ h1 htk fun F' ρ' κ' H' e' => P F' ρ' κ' H' (e1.trans e'), fun _ _ _ _ _ _ _ _ _ _ _ _ _ _ z => z.elim⟩
theorem lift_lcG {W : WX} {m : Bool} {it : DI} {t : TN} {tt : DT} {rest : Nat → DK} {vs : List Nat} {σ : L2.St} {H : Hp} {Q : VK} (hi : ∀ i ∈ (match t with | .inl i => [i] | .inr is => is), i ∈ vs) (h : liftE C W (dLcG m it t tt rest vs) σ H Q) :
    tLcG (liftI C W it) (gvT C.K t) (liftT C WF tt) (fun D σ H Nx => ∃ n, liftK C D n (rest n) σ H Nx) vs σ H Q := by
  obtain ⟨F, ρ, κ, δ, XD, QD, S, R, h, P, PX⟩ := h
  refine ⟨F, ρ, κ, δ, XD, _, S, R, h, fun F1 ρ1 κ1 H1 J items gd e1 S1 hJ h1 D1 hD => ?_, PX⟩
  obtain ⟨n, hn⟩ := S1.fresh
  obtain ⟨ρ2, e2, hr2, S2⟩ := S1.cell (o := .lst []) (k := .lst) (vs := []) (xs := []) hD (fun _ q => q) .nil hn
  have hJ2 : ItOk C F1 ρ2 J items gd := fun F' ρ' κ' H' i e' => hJ F' ρ' κ' H' i (e2.trans e')
  exact lift_cLoop (D0 := D1) (n := n) (Nx := fun H' => Q (.ref D1) H') hi S2 (R.ext (e1.trans e2)) hr2 hJ2 (h1 n hn) (fun z => ⟨n, z⟩) fun F' ρ' κ' H' e' S' ⟨acc, a1, a2⟩ => by
    have hr3 := e'.r _ _ hr2
    cases m with
    | true => exact P _ _ _ _ _ _ (e1.trans (e2.trans e')) S' (.cell hr3) a2
    | false =>
      obtain ⟨F4, e4, r4, S4⟩ := S'.freeze a1 hr3
      exact P _ _ _ _ _ _ (e1.trans (e2.trans (e'.trans e4))) S4 r4 a2
end
theorem BodyOk.imp {Y : Cx} {bk : Sem PySem.Fin → Sem PySem.Fin} {vsI : List Nat} {tk tk' : L2.St → Hp → (Hp → Prop) → Prop} (b : BodyOk Y bk vsI tk) (h : ∀ {σ H Nx}, tk' σ H Nx → tk σ H Nx) : BodyOk Y bk vsI tk' :=
  ⟨fun pins σ H s Nx r Q E I q fin => b.run pins σ H s Nx r Q E I (h q) fin⟩
section
variable {Y : Cx} {elt0 tg iter : Expr} {gs : List Comprehension} {scope : Scope} {lpos : Pos} {ifs : List Expr} {k : Nat} {p : Pos} {bodyK : Value → Env → Sem PySem.Fin → Sem PySem.Fin} {D0 : Addr} {vs vsI : List Nat}
theorem bodyD_elt {a : DE} (hx : ∀ e s, ¬ Y.xe e s) (he : PED Y WF elt0 a) : BodyOk Y (kElt elt0 (.ref D0) Y.env) [] (fun σ H Nx => ∃ n, liftK (CtxOf Y) D0 n (cElt n a) σ H Nx) :=
  BodyOk.imp (body_elt (vsI := []) he hx) fun ⟨n, q⟩ => lift_cElt q
theorem bodyD_for {it : DI} {t : TN} {tt : DT} {rest : Nat → DK} (hx : ∀ e s, ¬ Y.xe e s) (hc : Y.calm = true) (hk : TurnIs (.ListComp elt0 gs scope lpos) k p tg ifs bodyK) (hst : StartIs (.ListComp elt0 gs scope lpos) k) (hi : PID Y WF tg iter it) (pg : PG Y tg (gvT Y.K t)) (pt : PTsD Y WF ifs tt)
    (bo : BodyOk Y (bodyK (.ref D0) Y.env) vsI (fun σ H Nx => ∃ n, liftK (CtxOf Y) D0 n (rest n) σ H Nx)) (hv : ∀ i ∈ vsI, i ∈ vs) (hn : ∀ i ∈ (match t with | .inl i => [i] | .inr is => is), i ∈ vs) (hs : ∀ x, foldedSetIterable iter Y.env x = pure x) :
    BodyOk Y (kFor (.ListComp elt0 gs scope lpos) k iter (.ref D0) Y.env) vs (fun σ H Nx => ∃ n, liftK (CtxOf Y) D0 n (cFor it t tt vs (rest n)) σ H Nx) :=
  BodyOk.imp (body_for hx hc hk hi pg pt bo hv hs (fun it R s => hst _ _ _ it _ _ R s)) fun ⟨n, q⟩ => lift_cFor hn (fun z => ⟨n, z⟩) q
end
section
variable {X : Cx} {W : WX} {elt tg0 i0 tg1 i1 tg2 i2 : Expr} {c0 c1 c2 : List Expr} {it0 it1 it2 : DI} {tt0 tt1 tt2 : DT} {a : DE} {pos : Pos} {k : Nat} {scope : Scope}
theorem pd_lc2 (m : Bool) (own : List (Str × Nat)) (t0 t1 : TN) (v1 : List Nat) (G : Good k X W) (hi : PID X W tg0 i0 it0) (hg : BlkA X scope fun Y => PG Y tg0 (gvT X.K t0)) (ht : BlkA X scope fun Y => PTsD Y WF c0 tt0)
    (hi1 : BlkA X scope fun Y => PID Y WF tg1 i1 it1) (hg1 : BlkA X scope fun Y => PG Y tg1 (gvT X.K t1)) (ht1 : BlkA X scope fun Y => PTsD Y WF c1 tt1) (he : BlkA X scope fun Y => PED Y WF elt a)
    (ok : blkC X.N X.env.scope scope own = true := by kernel_rfl) (n0 : ∀ i ∈ (match t0 with | .inl i => [i] | .inr is => is), i ∈ own.map (·.2) := by decide) (n1 : ∀ i ∈ (match t1 with | .inl i => [i] | .inr is => is), i ∈ v1 := by decide) (hv : ∀ i ∈ v1, i ∈ own.map (·.2) := by decide)
    (hs : ∀ x, foldedSetIterable i0 X.env x = pure x := by intro _; rfl) (hs1 : ∀ env x, foldedSetIterable i1 env x = pure x := by intro _ _; rfl) :
    PED X W (.ListComp elt [⟨tg0, i0, c0, 0⟩, ⟨tg1, i1, c1, 0⟩] scope pos) (dLcG m it0 t0 tt0 (fun n => cFor it1 t1 tt1 v1 (cElt n a)) (own.map (·.2))) :=
  pe_weak (pe_lcG (tk := fun D σ H Nx => ∃ n, liftK (CtxOf X) D n (cFor it1 t1 tt1 v1 (cElt n a)) σ H Nx) (vsI := v1) G.calm G.nd hi (blkOk_by ok) turn_20 hg ht (fun D s H C cl fp =>
    bodyD_for (rest := fun n => cElt n a) (fun _ _ z => False.elim z) G.calm turn_21 start_21 (hi1 s H C cl fp) (hg1 s H C cl fp) (ht1 s H C cl fp) (bodyD_elt (fun _ _ z => False.elim z) (he s H C cl fp)) (fun _ z => absurd z List.not_mem_nil) n1 (hs1 _)) hv hs) fun _ _ _ => lift_lcG n0
theorem pd_lc3 (m : Bool) (own : List (Str × Nat)) (t0 t1 t2 : TN) (v1 v2 : List Nat) (G : Good k X W) (hi : PID X W tg0 i0 it0) (hg : BlkA X scope fun Y => PG Y tg0 (gvT X.K t0)) (ht : BlkA X scope fun Y => PTsD Y WF c0 tt0)
    (hi1 : BlkA X scope fun Y => PID Y WF tg1 i1 it1) (hg1 : BlkA X scope fun Y => PG Y tg1 (gvT X.K t1)) (ht1 : BlkA X scope fun Y => PTsD Y WF c1 tt1)
    (hi2 : BlkA X scope fun Y => PID Y WF tg2 i2 it2) (hg2 : BlkA X scope fun Y => PG Y tg2 (gvT X.K t2)) (ht2 : BlkA X scope fun Y => PTsD Y WF c2 tt2) (he : BlkA X scope fun Y => PED Y WF elt a)
    (ok : blkC X.N X.env.scope scope own = true := by kernel_rfl) (n0 : ∀ i ∈ (match t0 with | .inl i => [i] | .inr is => is), i ∈ own.map (·.2) := by decide) (n1 : ∀ i ∈ (match t1 with | .inl i => [i] | .inr is => is), i ∈ v1 := by decide)
    (n2 : ∀ i ∈ (match t2 with | .inl i => [i] | .inr is => is), i ∈ v2 := by decide) (hv : ∀ i ∈ v1, i ∈ own.map (·.2) := by decide) (hv2 : ∀ i ∈ v2, i ∈ v1 := by decide)
    (hs : ∀ x, foldedSetIterable i0 X.env x = pure x := by intro _; rfl) (hs1 : ∀ env x, foldedSetIterable i1 env x = pure x := by intro _ _; rfl) (hs2 : ∀ env x, foldedSetIterable i2 env x = pure x := by intro _ _; rfl) :
    PED X W (.ListComp elt [⟨tg0, i0, c0, 0⟩, ⟨tg1, i1, c1, 0⟩, ⟨tg2, i2, c2, 0⟩] scope pos) (dLcG m it0 t0 tt0 (fun n => cFor it1 t1 tt1 v1 (cFor it2 t2 tt2 v2 (cElt n a))) (own.map (·.2))) :=
  pe_weak (pe_lcG (tk := fun D σ H Nx => ∃ n, liftK (CtxOf X) D n (cFor it1 t1 tt1 v1 (cFor it2 t2 tt2 v2 (cElt n a))) σ H Nx) (vsI := v1) G.calm G.nd hi (blkOk_by ok) turn_30 hg ht (fun D s H C cl fp =>
    bodyD_for (rest := fun n => cFor it2 t2 tt2 v2 (cElt n a)) (fun _ _ z => False.elim z) G.calm turn_31 (start_3 1 (.inl rfl)) (hi1 s H C cl fp) (hg1 s H C cl fp) (ht1 s H C cl fp)
      (bodyD_for (rest := fun n => cElt n a) (fun _ _ z => False.elim z) G.calm turn_32 (start_3 2 (.inr rfl)) (hi2 s H C cl fp) (hg2 s H C cl fp) (ht2 s H C cl fp) (bodyD_elt (fun _ _ z => False.elim z) (he s H C cl fp)) (fun _ z => absurd z List.not_mem_nil) n2 (hs2 _)) hv2 n1 (hs1 _)) hv hs) fun _ _ _ => lift_lcG n0
end
end DL

/-! DMf: enumerate, tuple(..), x[::-1], n += .. -/
namespace DL
open PySem PySem.Spec PyProof.Rows L2
/-! ### enumerate -/
def enumD : Nat → List D → List D
  | _, [] => []
  | i, y :: ys => .node .tup [.int (i : Nat), y] :: enumD (i + 1) ys
theorem enumD_len : ∀ (ys : List D) (i : Nat), (enumD i ys).length = ys.length
  | [], _ => rfl
  | y :: ys, i => by
    show (enumD (i + 1) ys).length + 1 = _
    rw [enumD_len ys (i + 1), List.length_cons]
theorem enumD_get : ∀ (ys : List D) (i k : Nat), (enumD i ys)[k]? = (ys[k]?).map fun y => .node .tup [.int ((i + k : Nat) : Int), y]
  | [], _, _ => by simp [enumD]
  | y :: ys, i, 0 => rfl
  | y :: ys, i, k + 1 => by
    show (enumD (i + 1) ys)[k]? = _
    rw [enumD_get ys (i + 1) k, List.getElem?_cons_succ, show i + 1 + k = i + (k + 1) by omega]
def eQ (QI : List D → (Kap → Prop) → Kap → Prop) (xs : List D) (κ : Kap) : Prop := match xs with
  | [.cell n] => ∃ ys, κ n = some (.live .lst ys) ∧ QI (enumD 0 ys) (fun κ => κ n = some (.live .lst ys)) κ
  | [.node .lst ys] => QI (enumD 0 ys) gTrue κ
  | _ => False
def iEnumD (as : DA) : DI := fun δ κ X QI => as δ κ X (eQ QI)
theorem itOk_e {C : Ctx} {F : Hp} {ρ : Loc0} {a : Addr} {xs : List D} {g : Kap → Prop} (hk : ∀ F' ρ' κ' H', Ext F ρ F' ρ' → StR C F' ρ' κ' H' → g κ' → ∃ vs, SqL C.K H' a vs ∧ RepL C F' ρ' xs vs) : ItOk C F ρ (Ite C.K a) (enumD 0 xs) g := fun F' ρ' κ' H' i e S hg => by
  obtain ⟨vs, hs, rl⟩ := hk _ _ _ _ e S hg
  refine ⟨fun hi => ⟨vs, hs, by rw [hi, enumD_len, ← rl.length]; exact Nat.le_refl _⟩, fun d hd => ?_⟩
  rw [enumD_get, Option.map_eq_some_iff] at hd
  obtain ⟨y, hy, rfl⟩ := hd
  obtain ⟨v, hv, rv⟩ := rl.get hy
  refine ⟨⟨vs, v, hs, hv⟩, fun x H2 ⟨T, w, h1, h2, h3, h4⟩ => ?_⟩
  subst h1 h3
  have ev : v = w := Option.some.inj (hv.symm.trans (h4 vs hs))
  subst ev
  obtain ⟨ex, S2⟩ := S.laid (p := T) (o := .tup [.int (i : Nat), v]) h2
  refine ⟨_, ex, S2, .node (k := .tup) (.inl (.inl upd_same)) (.cons ?_ (.cons (rv.ext ex) .nil))⟩
  rw [Nat.zero_add]
  exact .int _
section
variable {X : Cx} {W : WX} {e : Expr} {as : DA} {p pos tpos : Pos} {elts : List Expr} {kk : Nat}
theorem pi_enumD (hm : X.mg "enumerate" = none) (ha : PAD X W [e] as) (hg : Gl X "enumerate" := by rfl) (hs : starEach [e] X.env = [(false, eval e X.env)] := by rfl) : PID X W (.Tuple elts kk tpos) (.Call (.Name "enumerate" p) [e] [] pos) (iEnumD as) :=
  pi_weak (pi_enum hg hm ha hs) fun σ H R ⟨F, ρ, κ, δ, XD, QD, S, Rr, h, P, PX⟩ => ⟨F, ρ, κ, δ, XD, _, S, Rr, h, fun F1 ρ1 κ1 H1 xs vs e1 S1 R1 h1 => by
    match xs, h1 with
    | [.cell n], ⟨ys, h2, h3⟩ =>
      obtain ⟨v, rfl, rv⟩ := repL1 R1
      obtain ⟨a, ws, rfl, hr, hm2, rl⟩ := cell_at S1 rv h2
      refine ⟨a, ws, rfl, SqL.of hm2, P _ _ _ _ _ _ _ e1 S1 (itOk_e fun F' ρ' κ' H' e' S' hg => ?_) h3⟩
      obtain ⟨p2, vs2, r2, _, hm3, rl2⟩ := S'.live n _ _ hg
      rw [e'.r _ _ hr] at r2
      cases r2
      exact ⟨vs2, SqL.of hm3, rl2⟩
    | [.node .lst ys], h2 =>
      obtain ⟨v, rfl, rv⟩ := repL1 R1
      cases rv with
      | @node _ _ a ws hk rl =>
        exact ⟨a, ws, rfl, SqL.of (S1.sub _ _ hk), P _ _ _ _ _ _ _ e1 S1 (itOk_e fun F' ρ' κ' H' e' S' _ => ⟨ws, SqL.of (S'.sub _ _ (e'.f _ _ hk)), rl.ext e'⟩) h2⟩, PX⟩
end
/-! ### tuple(x), x[::-1] -/
def fTup : D → Kap → DQ → Prop := fun x κ Q => (∃ ys, view x κ = some (.lst, ys) ∧ Q (.node .tup ys) κ) ∨ ∃ ys, x = .node .tup ys ∧ Q (.node .tup ys) κ
def dTupOf (a : DE) : DE := fun δ κ X Q => a δ κ X fun x κ1 => fTup x κ1 Q
def fRev (m : Bool) : D → Kap → DQ → Prop := fun x κ Q => ∃ ys, view x κ = some (.lst, ys) ∧ fNew m .lst ys.reverse κ Q
def dRev (m : Bool) (a : DE) : DE := fun δ κ X Q => a δ κ X fun x κ1 => fRev m x κ1 Q
section
variable {X : Cx} {W : WX} {e : Expr} {a : DE} {p pos p1 p2 p3 : Pos} {k : Nat}
theorem pd_tupOf (hm : X.mg "tuple" = none) (ha : PED X W e a) (hg : Gl X "tuple" := by rfl) (na : starEach [e] X.env = (false, eval e X.env) :: starEach [] X.env := by rfl) : PED X W (.Call (.Name "tuple" p) [e] [] pos) (dTupOf a) :=
  pe_weak (pe_tupleOf hg hm ha na) fun σ H Q ⟨F, ρ, κ, δ, XD, QD, S, R, h, P, PX⟩ => ⟨F, ρ, κ, δ, XD, _, S, R, h, fun F1 ρ1 κ1 H1 x v e1 S1 R1 h0 => by
    rcases h0 with ⟨ys, h1, h3⟩ | ⟨ys, rfl, h3⟩
    · obtain ⟨q, vs, rfl, hk, rl⟩ := view_at S1 R1 h1
      refine .inl ⟨q, vs, rfl, SqL.of hk, fun b hb => ?_⟩
      obtain ⟨ex, S2⟩ := S1.laid (p := b) (o := .tup vs) hb
      exact P _ _ _ _ _ _ (e1.trans ex) S2 (.node (k := .tup) (.inl (.inl upd_same)) (rl.ext ex)) h3
    · cases R1 with
      | @node _ _ q ws hk2 rl2 => exact .inr ⟨q, ws, rfl, sqt_ext S1.sub hk2, P _ _ _ _ _ _ e1 S1 (.node (k := .tup) hk2 rl2) h3⟩, PX⟩
theorem RepL.rev {C : Ctx} {F : Hp} {ρ : Loc0} {xs : List D} {vs : List V} (r : RepL C F ρ xs vs) : RepL C F ρ xs.reverse vs.reverse := RepL.reverse r
theorem pd_rev {kc : Nat} (m : Bool) (ha : PED X W e a) : PED X W (.Subscript e (.Slice none none (some (.UnaryOp .USub (.Constant (.int 1) kc p1) p2)) p3) pos) (dRev m a) :=
  pe_weak (pe_revL ha) fun σ H Q ⟨F, ρ, κ, δ, XD, QD, S, R, h, P, PX⟩ => ⟨F, ρ, κ, δ, XD, _, S, R, h, fun F1 ρ1 κ1 H1 x v e1 S1 R1 ⟨ys, h1, h2⟩ => by
    obtain ⟨q, vs, rfl, hk, rl⟩ := view_at S1 R1 h1
    refine ⟨q, vs, rfl, SqL.of hk, fun b hb => ?_⟩
    cases m with
    | false =>
      obtain ⟨ex, S2⟩ := S1.laid (p := b) (o := .lst vs.reverse) hb
      exact P _ _ _ _ _ _ (e1.trans ex) S2 (.node (k := .lst) upd_same (RepL.reverse (rl.ext ex))) h2
    | true =>
      obtain ⟨n, hn⟩ := S1.fresh
      obtain ⟨ρ2, e2, hr2, S2⟩ := S1.cell (o := .lst vs.reverse) (k := .lst) (vs := vs.reverse) (xs := ys.reverse) hb (fun _ q => q) (RepL.reverse rl) hn
      exact P _ _ _ _ _ _ (e1.trans e2) S2 (.cell hr2) (h2 n hn), PX⟩
end
/-! ### name += number -/
def fAddI : D2 := fun x y κ Q => ∃ i j, x = .int i ∧ y = .int j ∧ Q (.int (i + j)) κ
section
variable {X : Cx} {W : WX} {e : Expr} {a : DE} {x : Str} {pos pos' : Pos} {k : Nat}
theorem sd_augI (i : Nat) (hN : X.N.Nodup) (ha : PED X W e a) (hi : X.N[i]? = some x := by rfl) (hx : L2.Loc X.env.scope x := by first | exact Or.inl rfl | exact Or.inr rfl)
    (hf : X.fn x = true ∨ X.env.scope.names.lookup x = some .local := by first | exact .inl rfl | exact .inr rfl | assumption) : PSD X W (.AugAssign (.Name x pos') .Add e pos) (sAug i fAddI a) :=
  ps_weak (ps_aug hN hi hx ha ip_add hf) fun T σ H ⟨F, ρ, κ, δ, XD, DD, S, R, ⟨d, h0, h⟩, P, PX⟩ => by
    obtain ⟨v, hv, rv⟩ := R.2 i _ h0
    refine ⟨v, hv, F, ρ, κ, δ, XD, _, S, R, h, fun F1 ρ1 κ1 H1 y w e1 S1 R1 ⟨p, q, h1, h2, h3⟩ => ?_, PX⟩
    subst h1 h2
    cases rv
    cases R1
    exact ⟨p, q, rfl, rfl, P.nx _ _ _ _ _ _ e1 S1 ((R.ext e1).set (.int _) i) h3⟩
end
end DL

/-! DLq: defs held by names and by a dict of the top, dict(pairs), d[k], str of a tuple, a try that runs through. -/
namespace DL
open PySem PySem.Spec PyProof.Rows L2
/-! ### a dict of the top whose values are defs -/
def TabK (K : PySem.W.Frag) (w : World) (mg : Str → Option Value) (x : Str) (tab : List (Str × Str)) : Prop := ∃ p, mg x = some (.ref p) ∧ ∀ q ∈ tab, ∃ f, mg q.2 = some (.ref f) ∧ KDct K w p q.1 (.ref f)
def dTab (tab : List (Str × Str)) (a : DE) : DE := fun δ κ X Q => a δ κ X fun x κ1 => ∃ z g, x = .str z ∧ (z, g) ∈ tab ∧ Q (.glb g) κ1
section
variable {X : Cx} {W : WX} {x : Str} {e : Expr} {a : DE} {p pos : Pos} {tab : List (Str × Str)}
theorem pd_tab (T : TabK X.K X.w X.mg x tab) (ha : PED X W e a) (hg : Gl X x := by rfl) (hdb : (x == ("__debug__" : Str)) = false := by decide) (hs : PlainIx e := by exact fun _ _ => rfl) : PED X W (.Subscript (.Name x p) e pos) (dTab tab a) := by
  obtain ⟨ad, hm, ht⟩ := T
  refine pe_weak (pe_ix ix_kdict (pe_glob (v := .ref ad) hg hm rfl hdb) ha hs) fun σ H Q ⟨F, ρ, κ, δ, XD, QD, S, R, h, P, PX⟩ => ?_
  refine ⟨F, ρ, κ, δ, XD, _, S, R, h, fun F1 ρ1 κ1 H1 x1 v e1 S1 R1 ⟨z, g, h1, h2, h3⟩ => ?_, PX⟩
  subst h1
  cases R1
  obtain ⟨f, hf, kd⟩ := ht _ h2
  exact ⟨ad, z, _, rfl, rfl, kd, P _ _ _ _ _ _ e1 S1 (.glb hf) h3⟩
end
end DL
namespace DL
open PySem PySem.Spec PyProof.Rows L2
/-! ### a def that a name holds, called -/
def dCallV (i : Nat) (tab : List (Str × DSp)) (as : DA) : DE := fun δ κ X Q => ∃ g sp, δ[i]? = some (some (.glb g)) ∧ (g, sp) ∈ tab ∧ as δ κ X fun xs κ1 => sp xs κ1 (X δ) Q
def OkV (P : Program) (w : World) (K : PySem.W.Frag) (mg : Str → Option Value) (base : Heap) (k : Nat) (tab : List (Str × DSp)) : Prop := ∀ q ∈ tab, ∃ ps, Ok P w K mg base k q.1 ps q.2
section
variable {X : Cx} {W : WX} {k i : Nat} {x : Str} {e : Expr} {es : List Expr} {as : DA} {p pos : Pos} {tab : List (Str × DSp)}
theorem pd_callV (i : Nat) (G : Good k X W) (T : OkV X.prog X.w X.K X.mg X.base k tab) (ha : PAD X W (e :: es) as) (hN : X.N[i]? = some x := by rfl) (hv : Vis X.env.scope x := by first | exact Or.inl rfl | exact Or.inr (Or.inl rfl) | exact Or.inr (Or.inr rfl))
    (hdb : (x == ("__debug__" : Str)) = false := by decide) (hcd : (x == ("__classdict__" : Str)) = false := by decide)
    (he : starEach (e :: es) X.env = (false, eval e X.env) :: starEach es X.env := by rfl) (hpl : (backTo pos (starEach es X.env)).any (·.1) = false := by rfl) : PED X W (.Call (.Name x p) (e :: es) [] pos) (dCallV i tab as) := by
  refine ⟨fun pins s σ H Q I ⟨F, ρ, κ, δ, XD, QD, S, R, ⟨g, sp, h1, h2, h⟩, P, PX⟩ => ?_⟩
  obtain ⟨ps, f, fd, o⟩ := T _ h2
  obtain ⟨v, hs, rv⟩ := R.2 i _ h1
  cases rv with
  | @glb _ a hm =>
    obtain rfl : a = f := by
      have := hm.symm.trans o.m
      injection this with this
      injection this
    refine wpAny_Call_Name_kw (thn ((pe_var (pos := p) hN hv hdb hcd).run pins s σ H (fun v H1 => v = .ref a ∧ H1 = H) I ⟨.ref a, hs, rfl, rfl⟩) fun u s1 ⟨v, H1, I1, r1, q1⟩ => ?_)
    obtain ⟨rfl, rfl⟩ := q1
    cases r1
    refine PySem.W.callWith_K (h₀ := X.base) I.ok.mod.kin o.kp (thn (ha.run pos pins s1 σ H1 (fun vs H2 => ∃ F1 ρ1 κ1 xs, Ext F ρ F1 ρ1 ∧ StR (CtxOf X) F1 ρ1 κ1 H2 ∧ RepL (CtxOf X) F1 ρ1 xs vs ∧ sp xs κ1 (XD δ) QD) I1
      ⟨F, ρ, κ, δ, XD, _, S, R, h, fun F1 ρ1 κ1 H1 xs vs e1 S1 R1 h1 => ⟨F1, ρ1, κ1, xs, e1, S1, R1, h1⟩, PX⟩) fun us s2 ⟨vs, H2, I2, r1, F2, ρ1, κ1, xs, e1, S1, R1, h1⟩ => ⟨I2.kIn, ?_⟩) he hpl
    have hl : us.length = ps.length := by
      rw [← o.fn.len _ _ _ _ h1, R1.length, Paired.length r1]
    have hb := o.bd s2 us I2.kIn (by rw [List.append_nil]; exact hl)
    rw [List.append_nil] at hb
    exact run_fnG G o.fn (args := ⟨us, []⟩) I2 hb r1 S1 (R.ext e1) R1 h1 (P.ext e1) (PX.ext e1)
end
/-! ### a try that runs through -/
def sThru (b : DS) : DS := fun δ κ _ T => b δ κ (fun _ _ _ _ => False) T
def W0 : WX := fun _ _ _ _ => False
theorem Good.nox {k : Nat} {X : Cx} {W : WX} (g : Good k X W) : Good k X.nox W0 := ⟨fun _ _ x => by
  obtain ⟨_, _, _, _, _, _, _, _, _, _, _, _, _, _, _, _, z⟩ := x
  exact z.elim, PassesOwn.never, g.rm, g.gd, g.sm, g.calm, g.nd⟩
theorem sd_thru {X : Cx} {W : WX} {body : List Stmt} {h0 : ExceptHandler} {hs : List ExceptHandler} {b : DS} {pos : Pos} (hb : PSsD X.nox W0 body b) : PSD X W (.Try body (h0 :: hs) [] [] pos) (sThru b) :=
  ps_weak (ps_try_thru0 hb) fun T σ H ⟨F, ρ, κ, δ, XD, DD, S, R, h, P, PX⟩ => ⟨F, ρ, κ, δ, _, DD, S, R, h, P, fun _ _ _ _ _ _ _ _ _ _ _ _ _ _ z => z.elim⟩
end DL
namespace DL
open PySem PySem.Spec PyProof.Rows L2
/-! ### str of a number, of a tuple -/
def fStrR : DN := fun xs κ Q => match xs with
  | [.int i] => i.natAbs.log2 < 1920 ∧ Q (.str (toString i)) κ
  | [.node .tup ys] => ∃ p, Pd κ (.node .tup ys) p ∧ p.showable = true ∧ p.depth ≤ 60 ∧ p.shown.length ≤ sizeLine ∧ Q (.str p.shown) κ
  | _ => False
def rStrT (C : Ctx) : List V → Hp → VK → Prop := fun vs H Q => ∃ F ρ κ ys v p, vs = [v] ∧ StR C F ρ κ H ∧ Rep C F ρ (.node .tup ys) v ∧ Pd κ (.node .tup ys) p ∧ p.showable = true ∧ p.depth ≤ 60 ∧ p.shown.length ≤ sizeLine ∧ Q (.str p.shown) H
theorem sim_strR {C : Ctx} : SimN C fStrR (fun xs H Q => (∃ i, xs = [.int i] ∧ i.natAbs.log2 < 1920 ∧ Q (.str (toString i)) H) ∨ rStrT C xs H Q) := by
  intro F ρ κ H xs vs QD Q S r h P
  match xs, h with
  | [.int i], h =>
    obtain ⟨v, rfl, rx⟩ := repL1 r
    cases rx
    exact .inl ⟨i, rfl, h.1, P _ _ _ _ _ _ (Ext.refl _ _) S (.str _) h.2⟩
  | [.node .tup ys], ⟨p, h1, h2, h3, h4, h5⟩ =>
    obtain ⟨v, rfl, rx⟩ := repL1 r
    exact .inr ⟨F, ρ, κ, ys, v, p, rfl, S, rx, h1, h2, h3, h4, P _ _ _ _ _ _ (Ext.refl _ _) S (.str _) h5⟩
section
variable {X : Cx} {W : WX} {k : Nat} {e : Expr} {es : List Expr} {a b : DE} {as : DA} {pos p : Pos}
theorem call_strT (g : Good k X W) : CallR X (.type "str") (rStrT (CtxOf X)) := by
  intro pins s σ H xs us Q I r ⟨F, ρ, κ, ys, v, p, e, S, rx, h1, h2, h3, h4, h5⟩
  subst e
  obtain ⟨u, rfl, rv⟩ := vals1 r
  have hu : X.A.units + (p.depth + 3) < cLine := by have := g.rm.units; omega
  obtain ⟨as, hr, hn⟩ := Pd.reads I (Inv.sysm I g.sm) S h1 rx rv
  cases h1 with
  | lst h t => cases h
  | dct h t => cases h
  | tup h t =>
    cases hr with
    | tuple q1 q2 q3 q4 => exact str_of_reads (.tuple q1 q2 q3 q4) h2 (fun _ => hn) g.gd hu (fun _ _ e => e) (fun h' u tk hk => ⟨.str _, H, I.kept hk, ⟨_, rfl⟩, h5⟩) h4
end
/-! ### dict(pairs) -/
def pairD (p : Key × D) : D := .node .tup [keyD p.1, p.2]
def fDictOf : DN := fun xs κ Q => match xs with
  | [x] => ∃ (ks : List Key) (ds : List D), ks.length = ds.length ∧ ks.Nodup ∧ view x κ = some (.lst, (ks.zip ds).map pairD) ∧ Q (.node (.dct ks) ds) κ
  | _ => False
theorem pairs_rep {C : Ctx} {F : Hp} {ρ : Loc0} {κ : Kap} {H : Hp} (S : StR C F ρ κ H) : ∀ {ks : List Key} {ds : List D} {vs : List V}, ks.length = ds.length → RepL C F ρ ((ks.zip ds).map pairD) vs →
    ∃ (ps : List Addr) (ws : List V), vs = ps.map V.ref ∧ RepL C F ρ ds ws ∧ ws.length = ks.length ∧ Paired (fun p kv => SqT C.K H p [kV kv.1, kv.2]) ps (ks.zip ws)
  | [], [], _, _, .nil => ⟨[], [], rfl, .nil, rfl, .nil⟩
  | k :: ks, d :: ds, _, hl, .cons h t => by
    obtain ⟨ps, ws, h1, h2, h3, h4⟩ := pairs_rep S (ks := ks) (ds := ds) (Nat.succ.inj hl) t
    subst h1
    have key : ∀ {v : V}, Rep C F ρ (keyD k) v → v = kV k := fun {v} r => by
      cases k with
      | inl i => cases r; rfl
      | inr x => cases r; rfl
    unfold pairD at h
    cases h with
    | node hk rr =>
      cases rr with
      | cons r1 rr =>
        cases rr with
        | cons r2 rr =>
          cases rr
          obtain rfl := key r1
          exact ⟨_ :: ps, _ :: ws, rfl, .cons r2 h2, by rw [List.length_cons, List.length_cons, h3], .cons (sqt_ext S.sub hk) h4⟩
theorem sim_dictOf {C : Ctx} : SimN C fDictOf (fun xs H Q => ∃ (a : Addr) (ps : List Addr) (kvs : List (Key × V)), xs = [.ref a] ∧ SqL C.K H a (ps.map V.ref) ∧ Paired (fun p kv => SqT C.K H p [kV kv.1, kv.2]) ps kvs ∧
    ∀ p, H p = none → Q (.ref p) (upd H p (.dK (mergeK [] kvs)))) := by
  intro F ρ κ H xs vs QD Q S r h P
  match xs, h with
  | [x], ⟨ks, ds, hl, hn, hv, hq⟩ =>
    obtain ⟨v, rfl, rx⟩ := repL1 r
    obtain ⟨a, us, rfl, hk, rl⟩ := view_at S rx hv
    obtain ⟨ps, ws, h1, h2, h3, h4⟩ := pairs_rep S hl rl
    subst h1
    have m1 : (ks.zip ws).map (·.1) = ks := List.map_fst_zip (by rw [h3]; exact Nat.le_refl _)
    have m2 : (ks.zip ws).map (·.2) = ws := List.map_snd_zip (by rw [h3]; exact Nat.le_refl _)
    refine ⟨a, ps, ks.zip ws, rfl, SqL.of hk, h4, fun p hp => ?_⟩
    have em : mergeK [] (ks.zip ws) = ks.zip ws := by rw [merge_nodup (by rw [m1]; exact hn)]; rfl
    rw [em]
    obtain ⟨ex, S2⟩ := S.laid (p := p) (o := .dK (ks.zip ws)) hp
    exact P _ _ _ _ _ _ ex S2 (.node (k := .dct ks) ⟨_, upd_same, m1, m2⟩ (h2.ext ex)) hq
/-! ### d[k] of such a dict -/
def fDk : D2 := fun x y κ Q => ∃ ks ds k d, view x κ = some (.dct ks, ds) ∧ keyO y = some k ∧ ((ks.zip ds).find? fun p => decide (p.1 = k)) = some (k, d) ∧ Q d κ
theorem find_rep {C : Ctx} {F : Hp} {ρ : Loc0} {k : Key} {d : D} : ∀ {ks : List Key} {ds : List D} {kvs : List (Key × V)}, kvs.map (·.1) = ks → RepL C F ρ ds (kvs.map (·.2)) → ((ks.zip ds).find? fun p => decide (p.1 = k)) = some (k, d) → ∃ v, valV kvs k = some v ∧ Rep C F ρ d v
  | _, _, [], h1, _, h3 => by
    subst h1
    cases h3
  | _, [], kv :: kvs, h1, h2, _ => by cases h2
  | _, d0 :: ds, kv :: kvs, h1, h2, h3 => by
    subst h1
    cases h2 with
    | cons r rr =>
      rw [List.map_cons, List.zip_cons_cons, List.find?_cons] at h3
      by_cases e : kv.1 = k
      · rw [decide_eq_true (by exact e)] at h3
        have := congrArg Prod.snd (Option.some.inj h3)
        subst this
        exact ⟨kv.2, by unfold valV; rw [List.find?_cons, decide_eq_true e]; rfl, r⟩
      · rw [decide_eq_false (by exact e)] at h3
        obtain ⟨v, h4, h5⟩ := find_rep rfl rr h3
        exact ⟨v, by unfold valV at h4 ⊢; rw [List.find?_cons, decide_eq_false e]; exact h4, h5⟩
section
variable {X : Cx} {W : WX} {k : Nat} {e1 e2 : Expr} {a b : DE} {pos : Pos}
theorem pd_dk (G : Good k X W) (ha : PED X W e1 a) (hb : PED X W e2 b) (hs : NoSl e2 := by exact fun _ _ => rfl) : PED X W (.Subscript e1 e2 pos) (dOp fDk a b) :=
  pe_weak (pe_dget (by have := G.rm.units; omega) ha hb hs) fun σ H Q ⟨F, ρ, κ, δ, XD, QD, S, R, h, P, PX⟩ => ⟨F, ρ, κ, δ, XD, _, S, R, h, fun F1 ρ1 κ1 H1 x v e1 S1 R1 h1 => ⟨F1, ρ1, κ1, δ, XD, _, S1, R.ext e1, h1, fun F2 ρ2 κ2 H2 y u e2 S2 R2 ⟨ks, ds, k, d, h2, h3, h4, h5⟩ => by
    obtain ⟨q, vs, rfl, ⟨kvs, hk, hk1, hk2⟩, rl⟩ := view_at S2 (R1.ext e2) h2
    subst hk2
    have := keyO_rep R2 h3
    subst this
    obtain ⟨w, g1, g2⟩ := find_rep hk1 rl h4
    refine ⟨q, w, rfl, ?_, P _ _ _ _ _ _ (e1.trans e2) S2 g2 h5⟩
    rw [← g1]
    exact DGet.k hk, PX.ext e1⟩, PX⟩
end
end DL
namespace DL
open PySem PySem.Spec PyProof.Rows L2
theorem tabK_of {K : PySem.W.Frag} {w : World} {mg : Str → Option Value} {x : Str} {tab : List (Str × Str)} {p : Addr} {ks : List Str} (hm : mg x = some (.ref p)) (hd : He.dicW K p = some (He.keysIn w.params ks))
    (h : ∀ q ∈ tab, ∃ f, mg q.2 = some (.ref f) ∧ PySem.W.nsIn K p q.1 = some (some (.ref f))) : TabK K w mg x tab := by
  obtain ⟨es, n, kd⟩ := He.dicW_ok hd
  refine ⟨p, hm, fun q hq => ?_⟩
  obtain ⟨f, h1, h2⟩ := h q hq
  exact ⟨f, h1, es, n, .ref f, kd.at_, kd.lit, h2, rfl⟩
end DL

/-! DLr: within an except suite: two names at once. -/
namespace DL
open PySem PySem.Spec PyProof.Rows L2 HotX
section
variable {prog : Program} {w : World} {A : Around} {E : Value → Shared → Prop} {s : Shared}
theorem tup_end_hot {it t x1 : Addr} {i : Nat} {items : Array Value} {Q : Option Value → Shared → Prop} (hot : HotAt A x1 s.heap) (ne : x1 ≠ it) (iter : IsTupIter s.heap it t i) (tup : IsTup s.heap t items) (over : items[i]? = none)
    (want : ∀ h', Heap.ExtBut it s.heap h' → Q none { s with heap := h' }) : wpAny (model prog w) A (pyNext (.ref it)) Q E s := by
  obtain ⟨ob, atI, clsI, datI⟩ := id iter
  obtain ⟨obT, atT, _, mT, datT⟩ := tup
  obtain ⟨marked, o1, vs1, at1, dat1, ctx1⟩ := hot
  unfold pyNext
  refine wpAny_bind (wpAny_attempt
    (wpAny_callSpecial?_slot (name := Str.ofString "__next__") iter.typeIs slot_tupleiter_next (wpAny_call_entry slot_tupleiter_next iter.typeIs entry_tupleiter_next ?_ (args_tupleiter_next _))))
  show wpAny _ _ (field (.ref it) 0 >>= _) _ _ s
  refine wpAny_bind (wpAny_field atI datI (x := .ref t) rfl ?_)
  show wpAny _ _ (ite ((Value.ref t == Value.none) = true) _ _) _ _ s
  rw [if_neg (show ¬ ((Value.ref t == Value.none) = true) from Bool.false_ne_true)]
  show wpAny _ _ (field (.ref it) 1 >>= _) _ _ s
  refine wpAny_bind (wpAny_field atI datI (x := .int i 0) rfl ?_)
  show wpAny _ _ (seqItems? (.ref t) >>= _) _ _ s
  refine wpAny_bind (wpAny_seqItems atT datT ?_)
  simp only [Int.toNat_natCast, over]
  refine wpAny_bind (wpAny_rule (wpAny_bind (wpAny_setField atI datI (by simp) ?_)))
  have at2 := (Heap.SameBut.update (h := s.heap) (a := it) (f := Obj.mapFields (·.setIfInBounds 0 .none))).extBut
  show wpAny _ _ (newExc (.type "StopIteration") [] >>= _) _ _ _
  refine wpAny_bind ?_
  simp only [newExc, newTuple]
  refine wpAny_bind (wpAny_newObj_type ?_ (by size_fits))
  refine wpAny_bind (m := firstArgMember _ _)
    (wpAny_of_eq (a := Value.none) (by first | rfl | (simp only [firstArgMember]; rfl)) ?_)
  refine wpAny_newObj_type ?_ (by size_fits)
  have kept := Heap.get?_push_of_some { cls := .type "tuple", data := .seq #[] } (at2 x1 o1 ne at1)
  refine raiseNew_hot ⟨marked, o1, vs1, Heap.get?_push_of_some _ kept, dat1, ctx1⟩
    (Nat.ne_of_lt (Heap.lt_size kept)) (Heap.get?_push_size _ rfl) rfl (by first | (simp; done) | (simp; omega) | (simp only [Array.size_append]; simp; omega)) ?_
  refine wpAny_bind
    (wpAny_isInstance (T := "StopIteration") (b := true) ⟨_, Heap.get?_update_self _ (Heap.get?_push_size _ rfl) rfl, rfl⟩ isSubtype_stop ?_)
  refine wpAny_pure (want _ fun b o nb e => ?_)
  have e2 := Heap.get?_push_of_some { cls := .type "tuple", data := .seq #[] } (at2 b o nb e)
  rw [Heap.get?_update_other _ _ (Nat.ne_of_gt (Heap.lt_size e2))]
  exact Heap.get?_push_of_some _ e2
theorem unpack_hot {t x1 : Addr} {items : Array Value} {Q : List Value → Shared → Prop} (hot : HotAt A x1 s.heap) (tup : IsTup s.heap t items)
    (want : ∀ h', Heap.ExtBut s.heap.objs.size s.heap h' → Q items.toList { s with heap := h' }) : wpAny (model prog w) A (unpackItems (.ref t) items.size none) Q E s := by
  have below : t ≠ s.heap.objs.size := by
    obtain ⟨_, z, _⟩ := tup
    exact Nat.ne_of_lt (Heap.lt_size z)
  unfold unpackItems
  refine wpAny_bind ?_
  unfold notIterableAtAll
  refine wpAny_bind (wpAny_specialOf tup.typeIs slot_tuple_iter.lookup (wpAny_pure ?_))
  simp only [Bool.false_eq_true, if_false]
  refine wpAny_bind (wpAny_holding (iter_tuple tup (wpAny_bind (wpAny_holding
    (draw_tuple below items.size 0 _ _ ⟨_, Heap.get?_push_size _ rfl, rfl, rfl⟩ (tup.push _) (by omega) fun h1 iter1 same1 => ?_)))))
  have whole : List.take items.size (List.drop 0 items.toList) = items.toList := List.take_of_length_le (by simp)
  rw [whole, if_neg (by simp)]
  have tup1 : IsTup h1 t items := (tup.push _).extBut same1.extBut below
  obtain ⟨marked, o1, vs1, at1, dat1, ctx1⟩ := hot
  have ne1 : x1 ≠ s.heap.objs.size := Nat.ne_of_lt (Heap.lt_size at1)
  refine wpAny_bind (wpAny_holding
    (tup_end_hot (x1 := x1) ⟨marked, o1, vs1, same1.extBut x1 o1 ne1 (Heap.get?_push_of_some _ at1), dat1, ctx1⟩ ne1 iter1 tup1 (by simp) fun h2 e2 => ?_))
  simp only [Option.isSome_none, Bool.false_eq_true, if_false]
  exact wpAny_pure (want h2 fun b o nb e => e2 b o nb (same1.extBut b o nb (Heap.get?_push_of_some _ e)))
end
theorem Caught.hot {X : Cx} {a C : Addr} {dd : Option Addr} {oe : Obj} (Z : Caught X a C dd oe) (pn : List (Addr × Obj)) : L2H.HotC (X.suite a ((a, oe) :: pn)) := by
  obtain ⟨vs, e⟩ := Z.f
  exact ⟨(a, oe), ⟨rfl, vs, e, Z.z.2.2 vs e⟩, List.mem_cons_self⟩
theorem ps_parH {X : Cx} {i j : Nat} {x y : Str} {a b : Expr} {ta : TA} {px py pt pos : Pos} {kt k2 pt2} (hot : L2H.HotC X) (nd : X.N.Nodup) (hi : X.N[i]? = some x) (hj : X.N[j]? = some y) (hij : i ≠ j)
    (hx : X.env.scope.names.lookup x = some .local) (hy : X.env.scope.names.lookup y = some .local) (ha : PA X [a, b] ta)
    (hw : swappedStores [.Tuple [.Name x px, .Name y py] kt pt] (.Tuple [a, b] k2 pt2) X.env = pure (some [x, y]))
    (hs : swapsWithSole [.Tuple [.Name x px, .Name y py] kt pt] (.Tuple [a, b] k2 pt2) pos.line X.env = pure false := by rfl) :
    PS X (.Assign [.Tuple [.Name x px, .Name y py] kt pt] (.Tuple [a, b] k2 pt2) pos) (tPar i j ta) := by
  refine ⟨fun pins s σ H D I todo => ?_⟩
  rw [exec_Assign_arm]
  refine wpAny_bind (wpAny_standAt ?_)
  rw [hs]
  refine wpAny_bind (wpAny_pure ?_)
  rw [if_neg (by decide)]
  refine wpAny_bind (Tuple_ (thn (ha.run _ pins s σ H _ I todo) ?_))
  rintro us s1 ⟨_, H1, I1, rel, v, w, rfl, q1⟩
  have two : ∃ u1 u2, us = [u1, u2] ∧ RelV v u1 ∧ RelV w u2 := by
    cases rel with
    | cons r1 rel =>
      cases rel with
      | cons r2 rel =>
        cases rel
        exact ⟨_, _, rfl, r1, r2⟩
  obtain ⟨u1, u2, rfl, rv, rw'⟩ := two
  refine wpAny_newObj_type ?_ (by show 2 ≤ sizeLine; decide)
  have I2 : L2.Inv X pins σ H1 { s1 with heap := s1.heap.push { cls := .type "tuple", data := .seq [u1, u2].toArray } } :=
    I1.kept (t' := s1.toks) fun b o e => Heap.get?_push_of_some _ e
  obtain ⟨x1, hot2⟩ := hot.at I2
  rw [hw]
  refine wpAny_bind (wpAny_pure ?_)
  show wpAny (model X.prog X.w) X.A (do
    rule "assign.swapped-stores"
    let items ← unpackItems (.ref s1.heap.objs.size) 2 none
    assignInOrder [fun v => bindName X.env y v, fun v => bindName X.env x v] items.reverse
    pure Flow.next) _ _ _
  refine wpAny_bind (wpAny_rule (wpAny_bind
    (unpack_hot (items := #[u1, u2]) hot2 (IsTup.new s1.heap _) fun h' ext => ?_)))
  have I3 := I2.kept (h' := h') (t' := s1.toks) fun b o e => ext b o (Nat.ne_of_lt (Heap.lt_size e)) e
  show wpAny _ _ (assignInOrder [fun v => bindName X.env y v, fun v => bindName X.env x v] [u2, u1] >>= fun _ => pure Flow.next) _ _ _
  refine wpAny_bind (assignInOrder_cons (wpAny_bindName
    (store_ok I3 nd hj (.inl hy) rw' (fun s2 I4 => ?_) (.inr hy))))
  refine assignInOrder_cons (wpAny_bindName
    (store_ok I4 nd hi (.inl hx) rv (fun s3 I5 => assignInOrder_nil (wpAny_pure ?_)) (.inr hx)))
  rw [List.set_comm _ _ (Ne.symm hij)] at I5
  exact ⟨_, H1, I5, q1⟩
/-! ### the greatest of three -/
def mx3 (i j l : Int) : Int := if j > i then (if l > j then l else j) else (if l > i then l else i)
def fMax3 : DN := fun xs κ Q => match xs with
  | [.int i, .int j, .int l] => Q (.int (mx3 i j l)) κ
  | _ => False
theorem sim_max3 {C : Ctx} : SimN C fMax3 (fun xs H Q => ∃ i j l, xs = [.int i, .int j, .int l] ∧ Q (.int (mx3 i j l)) H) := by
  intro F ρ κ H xs vs QD Q S r h P
  match xs, h with
  | [.int i, .int j, .int l], h =>
    cases r with
    | cons r1 r =>
      obtain ⟨v, u, rfl, r2, r3⟩ := repL2 r
      cases r1
      cases r2
      cases r3
      exact ⟨i, j, l, rfl, P _ _ _ _ _ _ (Ext.refl _ _) S (.int _) h⟩
theorem call_max3 {X : Cx} (calm : X.calm = true) : CallR X (.builtin "max") (fun xs H Q => ∃ i j l, xs = [.int i, .int j, .int l] ∧ Q (.int (mx3 i j l)) H) := by
  rintro pins s σ H _ us Q I r ⟨i, j, l, rfl, q⟩
  cases r with
  | cons r1 r =>
    obtain ⟨u2, u3, rfl, ⟨t2, rfl⟩, ⟨t3, rfl⟩⟩ := vals2 r
    obtain ⟨t1, rfl⟩ := r1
    refine max_three_ints (I.ok.hd calm) fun h' tk k => ⟨_, H, I.kept k, ?_, q⟩
    unfold mx3
    by_cases h1 : j > i
    · rw [if_pos h1, if_pos h1]
      by_cases h2 : l > j
      · rw [if_pos h2, if_pos h2]
        exact ⟨_, rfl⟩
      · rw [if_neg h2, if_neg h2]
        exact ⟨_, rfl⟩
    · rw [if_neg h1, if_neg h1]
      by_cases h2 : l > i
      · rw [if_pos h2, if_pos h2]
        exact ⟨_, rfl⟩
      · rw [if_neg h2, if_neg h2]
        exact ⟨_, rfl⟩
end DL

/-! DLs: texts: f-strings, split, startswith, find, lstrip, int of a text, a text many times. -/
namespace DL
open PySem PySem.Spec PyProof.Rows L2
/-! ### methods -/
def fSS (g : Str → Str → D) : D2 := fun x y κ Q => match x, y with
  | .str a, .str b => Q (g a b) κ
  | _, _ => False
def fStw : D2 := fSS fun a b => .bl (Txt.startswith a b)
def fFnd : D2 := fSS fun a b => .int (Txt.find a b)
def fLst : D2 := fun x y κ Q => match x, y with
  | .str a, .str b => a.length ≤ sizeLine ∧ Q (.str (Txt.lstripChars a b)) κ
  | _, _ => False
def fSpl : D2 := fun x y κ Q => match x, y with
  | .str a, .str b => ((b.length == 0) = false ∧ a.length + 2 ≤ sizeLine) ∧ Q (.node .lst ((Txt.split a b).map D.str)) κ
  | _, _ => False
theorem strs_rep {C : Ctx} {F : Hp} {ρ : Loc0} : ∀ ys : List Str, RepL C F ρ (ys.map D.str) (ys.map V.str)
  | [] => .nil
  | y :: ys => .cons (.str y) (strs_rep ys)
theorem sim_stw {C : Ctx} : Sim2 C fStw (fun x y H Q => ∃ a b, x = .str a ∧ [y] = [.str b] ∧ Q (.bl (Txt.startswith a b)) H) := by
  intro F ρ κ H x y v u QD Q S rx ry h P
  cases x <;> first | exact h.elim | skip
  cases y <;> first | exact h.elim | skip
  cases rx
  cases ry
  exact ⟨_, _, rfl, rfl, P _ _ _ _ _ _ (Ext.refl _ _) S (.bl _) h⟩
theorem sim_fnd {C : Ctx} : Sim2 C fFnd (fun x y H Q => ∃ a b, x = .str a ∧ [y] = [.str b] ∧ Q (.int (Txt.find a b)) H) := by
  intro F ρ κ H x y v u QD Q S rx ry h P
  cases x <;> first | exact h.elim | skip
  cases y <;> first | exact h.elim | skip
  cases rx
  cases ry
  exact ⟨_, _, rfl, rfl, P _ _ _ _ _ _ (Ext.refl _ _) S (.int _) h⟩
theorem sim_lst {C : Ctx} : Sim2 C fLst (fun x y H Q => ∃ a b, x = .str a ∧ [y] = [.str b] ∧ a.length ≤ sizeLine ∧ Q (.str (Txt.lstripChars a b)) H) := by
  intro F ρ κ H x y v u QD Q S rx ry h P
  cases x <;> first | exact h.elim | skip
  cases y <;> first | exact h.elim | skip
  cases rx
  cases ry
  exact ⟨_, _, rfl, rfl, h.1, P _ _ _ _ _ _ (Ext.refl _ _) S (.str _) h.2⟩
theorem sim_spl {C : Ctx} : Sim2 C fSpl (fun x y H Q => ∃ a b, x = .str a ∧ [y] = [.str b] ∧ (b.length == 0) = false ∧ a.length + 2 ≤ sizeLine ∧ rNewStrs (Txt.split a b) H Q) := by
  intro F ρ κ H x y v u QD Q S rx ry h P
  cases x <;> first | exact h.elim | skip
  cases y <;> first | exact h.elim | skip
  cases rx
  cases ry
  refine ⟨_, _, rfl, rfl, h.1.1, h.1.2, fun p hp => ?_⟩
  obtain ⟨ex, S2⟩ := S.laid (p := p) (o := .lst ((Txt.split _ _).map V.str)) hp
  exact P _ _ _ _ _ _ ex S2 (.node (k := .lst) upd_same (strs_rep _)) h.2
section
variable {X : Cx} {W : WX} {e1 e2 : Expr} {a b : DE} {apos pos : Pos}
theorem pd_stw (ho : PED X W e1 a) (he : PED X W e2 b) (hs : starEach [e2] X.env = [(false, eval e2 X.env)] := by rfl) (hbase : attributeBase e1 "startswith" X.env (eval e1 X.env) = eval e1 X.env := by rfl) (hline : (apos.endLine == pos.line) = true := by rfl) :
    PED X W (.Call (.Attribute e1 "startswith" apos) [e2] [] pos) (dM1 fStw a b) := pe_weak (pe_m1 F.slot_str_startswith F.type_str_startswith mt_startswith ho he hs hbase hline) fun _ _ _ => lift_m1 sim_stw
theorem pd_fnd (ho : PED X W e1 a) (he : PED X W e2 b) (hs : starEach [e2] X.env = [(false, eval e2 X.env)] := by rfl) (hbase : attributeBase e1 "find" X.env (eval e1 X.env) = eval e1 X.env := by rfl) (hline : (apos.endLine == pos.line) = true := by rfl) :
    PED X W (.Call (.Attribute e1 "find" apos) [e2] [] pos) (dM1 fFnd a b) := pe_weak (pe_m1 F.slot_str_find F.type_str_find mt_find ho he hs hbase hline) fun _ _ _ => lift_m1 sim_fnd
theorem pd_lst1 (ho : PED X W e1 a) (he : PED X W e2 b) (hs : starEach [e2] X.env = [(false, eval e2 X.env)] := by rfl) (hbase : attributeBase e1 "lstrip" X.env (eval e1 X.env) = eval e1 X.env := by rfl) (hline : (apos.endLine == pos.line) = true := by rfl) :
    PED X W (.Call (.Attribute e1 "lstrip" apos) [e2] [] pos) (dM1 fLst a b) := pe_weak (pe_m1 F.slot_str_lstrip F.type_str_lstrip mt_lstripChars ho he hs hbase hline) fun _ _ _ => lift_m1 sim_lst
theorem pd_spl (ho : PED X W e1 a) (he : PED X W e2 b) (hs : starEach [e2] X.env = [(false, eval e2 X.env)] := by rfl) (hbase : attributeBase e1 "split" X.env (eval e1 X.env) = eval e1 X.env := by rfl) (hline : (apos.endLine == pos.line) = true := by rfl) :
    PED X W (.Call (.Attribute e1 "split" apos) [e2] [] pos) (dM1 fSpl a b) := pe_weak (pe_split ho he hs hbase hline) fun _ _ _ => lift_m1 sim_spl
end
/-! ### f-strings -/
def fFmt (x : D) (κ : Kap) (Q : DQ) : Prop := match x with
  | .str y => y.length ≤ sizeLine ∧ Q (.str y) κ
  | .int i => i.natAbs.log2 < 1920 ∧ Q (.str (toString i)) κ
  | _ => False
def dFmt (a : DE) : DE := fun δ κ X Q => a δ κ X fun x κ1 => fFmt x κ1 Q
def dJs : List DE → Str → DEnv → Kap → DX → (Str → Kap → Prop) → Prop
  | [], acc, _, κ, _, Q => Q acc κ
  | a :: as, acc, δ, κ, X, Q => a δ κ X fun x κ1 => ∃ y : Str, x = .str y ∧ (acc ++ y).length ≤ sizeLine ∧ dJs as (acc ++ y) δ κ1 X Q
def dJoined (as : List DE) : DE := fun δ κ X Q => dJs as Str.empty δ κ X fun out κ1 => Q (.str out) κ1
section
variable {X : Cx} {W : WX} {e v1 v2 : Expr} {es rest : List Expr} {a : DE} {as : List DE} {pos : Pos}
theorem pd_fmt (ha : PED X W e a) : PED X W (.FormattedValue e (-1) none pos) (dFmt a) := pe_weak (pe_fmt ha) fun σ H Q ⟨F, ρ, κ, δ, XD, QD, S, R, h, P, PX⟩ =>
  ⟨F, ρ, κ, δ, XD, _, S, R, h, fun F1 ρ1 κ1 H1 x v e1 S1 R1 h1 => by
    cases x <;> first | exact h1.elim | skip
    · cases R1
      exact .inr ⟨_, rfl, h1.1, P _ _ _ _ _ _ e1 S1 (.str _) h1.2⟩
    · cases R1
      exact .inl ⟨_, rfl, h1.1, P _ _ _ _ _ _ e1 S1 (.str _) h1.2⟩, PX⟩
abbrev PJD (X : Cx) (W : WX) (es : List Expr) (as : List DE) : Prop := PJ X es (as.map fun a => liftE (CtxOf X) W a)
theorem pj_nilD : PJD X W [] [] := .nil
theorem pj_consD (ha : PED X W e a) (hr : PJD X W es as) : PJD X W (e :: es) (a :: as) := .cons ha hr
theorem lift_js {C : Ctx} : ∀ {as : List DE} {acc : Str} {F : Hp} {ρ : Loc0} {κ : Kap} {δ : DEnv} {XD : DX} {QD : Str → Kap → Prop} {σ : L2.St} {H : Hp} {Q : Str → Hp → Prop}, StR C F ρ κ H → RepS C F ρ δ σ → dJs as acc δ κ XD QD →
    (∀ F' ρ' κ' H' out, Ext F ρ F' ρ' → StR C F' ρ' κ' H' → QD out κ' → Q out H') → PostX C F ρ XD W → tJs (as.map fun a => liftE C W a) acc σ H Q
  | [], _, _, _, _, _, _, _, _, _, _, S, R, h, P, PX => P _ _ _ _ _ (Ext.refl _ _) S h
  | a :: as, acc, F, ρ, κ, δ, XD, QD, σ, H, Q, S, R, h, P, PX =>
    ⟨F, ρ, κ, δ, XD, _, S, R, h, fun F1 ρ1 κ1 H1 x v e1 S1 R1 ⟨y, hy, hl, hr⟩ => by
      subst hy
      cases R1
      exact ⟨y, rfl, hl, lift_js S1 (R.ext e1) hr (fun F2 ρ2 κ2 H2 out e2 S2 q => P _ _ _ _ _ (e1.trans e2) S2 q) (PX.ext e1)⟩, PX⟩
theorem pd_joined (h : PJD X W (v1 :: v2 :: rest) as) : PED X W (.JoinedStr (v1 :: v2 :: rest) pos) (dJoined as) := pe_weak (pe_joined h) fun σ H Q ⟨F, ρ, κ, δ, XD, QD, S, R, h, P, PX⟩ =>
  lift_js S R h (fun F1 ρ1 κ1 H1 out e1 S1 q => P _ _ _ _ _ _ e1 S1 (.str _) q) PX
end
/-! ### int of a text -/
def fIntT : DN := fun xs κ Q => match xs with
  | [.str a] => ∃ n, PySem.intText? a = some n ∧ a.length ≤ 640 ∧ Q (.int n) κ
  | _ => False
theorem sim_intT {C : Ctx} : SimN C fIntT (fun xs H Q => ∃ a n, xs = [.str a] ∧ PySem.intText? a = some n ∧ a.length ≤ 640 ∧ Q (.int n) H) := by
  intro F ρ κ H xs vs QD Q S r h P
  match xs, h with
  | [.str a], ⟨n, h1, h2, h3⟩ =>
    obtain ⟨v, rfl, rx⟩ := repL1 r
    cases rx
    exact ⟨a, n, rfl, h1, h2, P _ _ _ _ _ _ (Ext.refl _ _) S (.int _) h3⟩
/-! ### a text many times -/
def fMulS : D2 := fun x y κ Q => match x, y with
  | .str a, .int n => MulOk a n ∧ Q (.str (Txt.mul a n)) κ
  | _, _ => False
theorem op_mulS {X : Cx} : OpR X (binaryOp .Mult) (fun x y H Q => ∃ a n, x = .str a ∧ y = .int n ∧ MulOk a n ∧ Q (.str (Txt.mul a n)) H) := by
  rintro pins s σ H x y v u Q I rx ry ⟨a, n, rfl, rfl, ok, q⟩
  obtain ⟨t, rfl⟩ := rx
  obtain ⟨t', rfl⟩ := ry
  exact PySem.SB.mul ok fun t2 k => ⟨.str (Txt.mul a n), H, I.tok k, ⟨_, rfl⟩, q⟩
theorem sim_mulS {C : Ctx} : Sim2 C fMulS (fun x y H Q => ∃ a n, x = .str a ∧ y = .int n ∧ MulOk a n ∧ Q (.str (Txt.mul a n)) H) := by
  intro F ρ κ H x y v u QD Q S rx ry h P
  cases x <;> first | exact h.elim | skip
  cases y <;> first | exact h.elim | skip
  cases rx
  cases ry
  exact ⟨_, _, rfl, rfl, h.1, P _ _ _ _ _ _ (Ext.refl _ _) S (.str _) h.2⟩
theorem pd_mulS {X : Cx} {W : WX} {e1 e2 : Expr} {a b : DE} {pos : Pos} (ha : PED X W e1 a) (hb : PED X W e2 b) : PED X W (.BinOp e1 .Mult e2 pos) (dOp fMulS a b) := pd_op op_mulS sim_mulS ha hb
end DL

/-! DLt: x, *y = a list. -/
namespace DL
open PySem PySem.Spec PyProof.Rows L2
section
variable {prog : Program} {w : World} {A : Around} {E : Value → Shared → Prop} {s : Shared}
theorem shiftS {I : Addr} {fp wr : List Addr} {G : Array GenState → Array GenState → Prop} {n : Nat} {P : Nat → Value → Prop} {St : Nat → Shared → Prop} (W : WalksS prog w A I fp wr G (n + 1) P St) :
    WalksS prog w A I fp wr G n (fun i v => P (i + 1) v) (fun i s => St (i + 1) s) where
  sub := W.sub
  grefl := W.grefl
  gtrans := W.gtrans
  frame := fun i => W.frame (i + 1)
  item := fun i s Q E hi st hQ => W.item (i + 1) s Q E (by omega) st hQ
  done := fun s Q E st hQ => W.done s Q E st hQ
  self := fun i => W.self (i + 1)
theorem unpack_star {l : Addr} {items : Array Value} {x : Value} {n : Nat} {Q : List Value → Shared → Prop} (calm : A.handled = none) (hl : s.heap.IsList l items) (h0 : items[0]? = some x) (hn : items.size = n + 1) (hz : n ≤ sizeLine)
    (want : ∀ (h' : Heap) (tk : Nat), s.toks ≤ tk → (∀ b o, s.heap.get? b = some o → h'.get? b = some o) →
      Q [x, .ref h'.objs.size] { s with heap := h'.push { cls := .type "list", data := .seq (items.toList.drop 1).toArray }, toks := tk }) :
    wpAny (model prog w) A (unpackItems (.ref l) 2 (some 1)) Q E s := by
  have ne : l ≠ s.heap.objs.size := by
    obtain ⟨_, z, _⟩ := hl
    exact Nat.ne_of_lt (Heap.lt_size z)
  unfold unpackItems
  refine wpAny_bind ?_
  unfold notIterableAtAll
  refine wpAny_bind (wpAny_specialOf hl.typeIs slot_list_iter.lookup (wpAny_pure ?_))
  simp only [Bool.false_eq_true, if_false]
  refine wpAny_bind (wpAny_holding (wpAny_pyIter_list hl ?_))
  generalize eI : s.heap.objs.size = it at ne
  have hit : (s.heap.push { cls := .type "list_iterator", data := .fields #[.ref l, .int 0 0] }).IsListIter it l 0 := by
    rw [← eI]
    exact ⟨_, Heap.get?_push_size _ rfl, rfl, rfl⟩
  refine wpAny_bind (wpAny_holding ?_)
  show wpAny _ _ (pyNext (.ref it) >>= _) _ _ _
  refine wpAny_bind (wpAny_pyNext_list_item hit (hl.push _) h0 fun h1 hit1 same1 => ?_)
  refine wpAny_bind (wpAny_holding ?_)
  show wpAny _ _ (pure []) _ _ _
  refine wpAny_pure (wpAny_pure ?_)
  rw [if_neg (show ¬ ([x] : List Value).length < 1 by show ¬ (1 < 1); omega)]
  have hl1 : h1.IsList l items := (hl.push _).extBut same1.extBut ne
  have W := (Walks.list (prog := prog) (w := w) (A := A.in1) calm it l ne items).toS
  rw [hn] at W
  have W1 := shiftS W
  refine wpAny_bind (wpAny_holding (wpAny_collect_iter (.inr (.inr (.inl rfl))) W1 (fun i s st => st.1.typeIs) ⟨hit1, hl1⟩ ?_ (by simp) (fun s' acc moved items' => ?_) hz))
  · intro b hb
    simp only [List.mem_cons, List.not_mem_nil, or_false] at hb
    rcases hb with rfl | rfl
    · obtain ⟨_, z, _⟩ := hit1
      exact Heap.lt_size z
    · obtain ⟨_, z, _⟩ := hl1
      exact Heap.lt_size z
  obtain ⟨h2, g2, d2, tk2, os2⟩ := s'
  obtain ⟨kept, sameG, sameD, sameO, later⟩ := moved
  have sameG : g2 = s.gens := sameG
  have sameD : d2 = s.drawn := sameD
  have sameO : os2 = s.os := sameO
  have later : s.toks ≤ tk2 := later
  subst sameG sameD sameO
  have rest : acc.toList = items.toList.drop 1 := by
    refine List.ext_getElem? fun j => ?_
    rw [List.getElem?_drop, Array.getElem?_toList, Array.getElem?_toList]
    cases e : acc[j]? with
    | none =>
      have : acc.size ≤ j := Array.getElem?_eq_none_iff.mp e
      rw [items'.1] at this
      exact (Array.getElem?_eq_none_iff.mpr (by omega)).symm
    | some v =>
      have := items'.2 j v e
      rw [Nat.add_comm 1 j]
      exact this.symm
  have len : acc.toList.length = n := by rw [Array.length_toList]; exact items'.1
  rw [if_neg (show ¬ acc.toList.length < 2 - 1 - 1 by omega)]
  have whole : acc.toList.take (acc.toList.length - (2 - 1 - 1)) = acc.toList := List.take_of_length_le (by omega)
  have none' : acc.toList.drop (acc.toList.length - (2 - 1 - 1)) = [] := List.drop_eq_nil_of_le (by omega)
  show wpAny _ _ (newList (acc.toList.take (acc.toList.length - (2 - 1 - 1))) >>= _) _ _ _
  rw [whole, none']
  refine wpAny_bind (wpAny_newObj_type ?_ (by show acc.toList.length ≤ sizeLine; omega))
  rw [rest]
  refine wpAny_pure ?_
  show Q [x, .ref h2.objs.size] _
  refine want h2 tk2 later fun b o e => ?_
  have nb : b ≠ it := by
    rw [← eI]
    exact Nat.ne_of_lt (Heap.lt_size e)
  exact kept b o (by simpa using nb) (same1.extBut b o nb (Heap.get?_push_of_some _ e))
end
/-- x, *y = a list -/
def tStarA (K : PySem.W.Frag) (i j : Nat) : TG := fun v σ H Q => ∃ a y ys, v = .ref a ∧ SqL K H a (y :: ys) ∧ ∀ p, H p = none → Q ((σ.set i (some y)).set j (some (.ref p))) (upd H p (.lst ys))
theorem pg_star {X : Cx} {i j : Nat} {x y : Str} {p1 p2 p3 pos : Pos} {k : Nat} (calm : X.calm = true) (nd : X.N.Nodup) (hi : X.N[i]? = some x) (hj : X.N[j]? = some y)
    (hx : X.env.scope.names.lookup x = some .local) (hy : X.env.scope.names.lookup y = some .local) : PG X (.Tuple [.Name x p1, .Starred (.Name y p2) p3] k pos) (tStarA X.K i j) := by
  refine ⟨fun pins s σ H v u Q I r ⟨a, y0, ys, e1, sq, todo⟩ => ?_⟩
  subst e1
  cases r
  obtain ⟨its, rel, pl, small⟩ := I.list sq
  cases rel with
  | cons r0 rel =>
    rename_i u0 us
    have lens : us.length = ys.length := (Paired.length rel).symm
    rw [assign_Tuple]
    refine wpAny_bind (wpAny_standAt ?_)
    unfold unpack
    show wpAny _ _ (holding [Value.ref a] (unpackItems (.ref a) 2 (some 1)) >>= fun xs => assignInOrder [assign (.Name x p1) X.env, assign (.Name y p2) X.env] xs) _ _ _
    have hz : us.length ≤ sizeLine := by
      have : (y0 :: ys).length ≤ sizeLine := small
      rw [List.length_cons] at this
      omega
    refine wpAny_bind (wpAny_holding (unpack_star (I.ok.hd calm) pl.isList rfl (n := us.length) (by simp) hz fun h' tk later kept => ?_))
    have I1 : L2.Inv X pins σ H { s with heap := h', toks := tk } := I.kept kept
    have new : H h'.objs.size = none := I1.hok.fresh (Nat.le_refl _)
    have I2 := I1.laid (t' := tk) (a := h'.objs.size) (o := .lst ys) (h' := h'.push { cls := .type "list", data := .seq us.toArray }) (fun b u q => Heap.get?_push_of_some _ q) (Nat.le_refl _)
      ⟨by omega, us, _, rel, Heap.get?_push_size _ rfl⟩
    show wpAny _ _ (assignInOrder [assign (.Name x p1) X.env, assign (.Name y p2) X.env] [u0, .ref h'.objs.size]) _ _ { s with heap := h'.push { cls := .type "list", data := .seq us.toArray }, toks := tk }
    refine assignInOrder_cons (wpAny_assign_Name
      (store_ok I2 nd hi (.inl hx) r0 (fun s2 I3 => ?_) (.inr hx)))
    refine assignInOrder_cons (wpAny_assign_Name
      (store_ok (v := .ref h'.objs.size) I3 nd hj (.inl hy) rfl (fun s3 I4 => assignInOrder_nil ?_) (.inr hy)))
    exact ⟨_, _, I4, todo _ new⟩
def gStarD (i j : Nat) : DG := fun d δ κ _ Q => ∃ y ys, view d κ = some (.lst, y :: ys) ∧ Q ((δ.set i (some y)).set j (some (.node .lst ys))) κ
theorem pg_starD {X : Cx} {W : WX} {i j : Nat} {x y : Str} {p1 p2 p3 pos : Pos} {k : Nat} (calm : X.calm = true) (nd : X.N.Nodup) (hi : X.N[i]? = some x := by rfl) (hj : X.N[j]? = some y := by rfl)
    (hx : X.env.scope.names.lookup x = some .local := by rfl) (hy : X.env.scope.names.lookup y = some .local := by rfl) : PGD X W (.Tuple [.Name x p1, .Starred (.Name y p2) p3] k pos) (gStarD i j) :=
  pg_weak (pg_star calm nd hi hj hx hy) fun v σ H Q ⟨F, ρ, κ, δ, d, XD, QD, S, R, rr, ⟨y, ys, h1, h2⟩, P, PX⟩ => by
  obtain ⟨a, vs, rfl, hk, rl⟩ := view_at S rr h1
  cases rl with
  | cons r0 rl =>
    refine ⟨a, _, _, rfl, SqL.of hk, fun p hp => ?_⟩
    obtain ⟨ex, S2⟩ := S.laid (p := p) (o := .lst _) hp
    exact P _ _ _ _ _ _ ex S2 (((R.ext ex).set (r0.ext ex) i).set (.node (k := .lst) upd_same (rl.ext ex)) j) h2
end DL

/-! DP: plain steps over data. -/
namespace DL
open PySem PySem.Spec PyProof.Rows L2

section
variable {κ : Kap} {Q : DQ} {P : Bool → Prop} {i j : Int} {b c : Bool} {x y : Str} {m : Bool} {xs ys : List D}
theorem tr_non : withTruth .non κ P = P false := rfl
theorem tr_bl : withTruth (.bl b) κ P = P b := rfl
theorem tr_int : withTruth (.int i) κ P = P (i != 0) := rfl
theorem ad_int : fAdd m (.int i) (.int j) κ Q = Q (.int (i + j)) κ := rfl
theorem ad_str : fAdd m (.str x) (.str y) κ Q = (x.length + y.length ≤ sizeLine ∧ Q (.str (x ++ y)) κ) := rfl
theorem nw_t {k : Kd} : fNew true k xs κ Q = ∀ n, κ n = none → Q (.cell n) (kset κ n (.live k xs)) := rfl
theorem ad_lst : fAdd false (.node .lst xs) (.node .lst ys) κ Q = (xs.length + ys.length ≤ sizeLine ∧ Q (.node .lst (xs ++ ys)) κ) := rfl
theorem su_int : fSub (.int i) (.int j) κ Q = Q (.int (i - j)) κ := by unfold fSub fI; exact propext ⟨fun h => h.2, fun h => ⟨trivial, h⟩⟩
theorem mo_int : fMod (.int i) (.int j) κ Q = (j ≠ 0 ∧ Q (.int (i.fmod j)) κ) := rfl
theorem di_int : fDiv (.int i) (.int j) κ Q = (CDivD i j ∧ Q (.int (i.fdiv j)) κ) := rfl
theorem mu_int : fMulI (.int i) (.int j) κ Q = (CMulW i j ∧ Q (.int (i * j)) κ) := rfl
theorem po_int : fPow (.int i) (.int j) κ Q = (CPow i j ∧ Q (.int (i ^ j.toNat)) κ) := rfl
theorem ne_int : fNeg (.int i) κ Q = Q (.int (-i)) κ := rfl
theorem lt_int : fLtS (.int i) (.int j) κ Q = Q (.bl (decide (i < j))) κ := rfl
theorem le_int : fLeS (.int i) (.int j) κ Q = Q (.bl (decide (i ≤ j))) κ := rfl
theorem gt_int : fGtS (.int i) (.int j) κ Q = Q (.bl (decide (j < i))) κ := rfl
theorem ge_int : fGeS (.int i) (.int j) κ Q = Q (.bl (decide (j ≤ i))) κ := rfl
theorem lt_str : fLtS (.str x) (.str y) κ Q = Q (.bl (decide (x.cps.toList < y.cps.toList))) κ := rfl
theorem le_str : fLeS (.str x) (.str y) κ Q = Q (.bl (!decide (y.cps.toList < x.cps.toList))) κ := rfl
theorem ab_int : fAbs [.int i] κ Q = Q (.int (if i < 0 then -i else i)) κ := rfl
theorem mx_int : fMax2 [.int i, .int j] κ Q = Q (.int (if j > i then j else i)) κ := rfl
theorem mn_int : fMin2 [.int i, .int j] κ Q = Q (.int (if j < i then j else i)) κ := rfl
theorem ln_str : fLen [.str y] κ Q = (y.length ≤ sizeLine ∧ Q (.int (y.length : Nat)) κ) := rfl
theorem ln_lst : fLen [.node .lst xs] κ Q = Q (.int (xs.length : Nat)) κ := rfl
theorem ln_klst : fLen [.node .klst xs] κ Q = Q (.int (xs.length : Nat)) κ := rfl
theorem ln_tup : fLen [.node .tup xs] κ Q = Q (.int (xs.length : Nat)) κ := rfl
theorem st_int : fStr [.int i] κ Q = (i.natAbs.log2 < 1920 ∧ Q (.str (toString i)) κ) := rfl
theorem st_str : fStr [.str x] κ Q = Q (.str x) κ := rfl
theorem sl_str {u v : Option Int} : fSl m (.str x) u v κ Q = (x.length ≤ sizeLine ∧ Q (.str (cutS x u v)) κ) := rfl
theorem nw_f {k : Kd} : fNew false k xs κ Q = Q (.node k xs) κ := rfl
theorem ex_bl {b : Bool} {P : Bool → Prop} : (∃ k, D.bl b = D.bl k ∧ P k) = P b := propext ⟨fun ⟨k, h, q⟩ => by cases h; exact q, fun h => ⟨b, rfl, h⟩⟩
theorem ex_int {i : Int} {P : Int → Prop} : (∃ k, D.int i = D.int k ∧ P k) = P i := propext ⟨fun ⟨k, h, q⟩ => by cases h; exact q, fun h => ⟨i, rfl, h⟩⟩
theorem ex_str {x : Str} {P : Prop} : ((∃ y, D.str x = D.str y) ∧ P) = P := propext ⟨fun h => h.2, fun h => ⟨⟨x, rfl⟩, h⟩⟩
theorem ex_par {x y : D} {P : D → D → Prop} : (∃ u v, [x, y] = [u, v] ∧ P u v) = P x y := propext ⟨fun ⟨u, v, h, q⟩ => by cases h; exact q, fun h => ⟨x, y, rfl, h⟩⟩
theorem ex_tup {n : Nat} {P : List D → Prop} : (∃ zs, view (.node .tup xs) κ = some (.tup, zs) ∧ zs.length = n ∧ P zs) = (xs.length = n ∧ P xs) := propext ⟨fun ⟨zs, h, q⟩ => by cases h; exact q, fun h => ⟨xs, rfl, h⟩⟩
theorem ix_lst : fIx (.node .lst xs) (.int i) κ Q = ∃ d, atI xs i = some d ∧ Q d κ := rfl
theorem ix_klst : fIx (.node .klst xs) (.int i) κ Q = ∃ d, atI xs i = some d ∧ Q d κ := rfl
theorem ix_tup : fIx (.node .tup xs) (.int i) κ Q = ∃ d, atI xs i = some d ∧ Q d κ := rfl
theorem ix_str : fIx (.str x) (.int i) κ Q = (x.length ≤ sizeLine ∧ ∃ c, atI x.cps.toList i = some c ∧ Q (.str ⟨#[c]⟩) κ) := rfl
theorem vw_cell {n : Nat} {k : Kd} (h : κ n = some (.live k xs)) : view (.cell n) κ = some (k, xs) := by
  unfold view
  simp only [h]
theorem ix_cell {n : Nat} (h : κ n = some (.live .lst xs)) : fIx (.cell n) (.int i) κ Q = ∃ d, atI xs i = some d ∧ Q d κ := by
  show (match view (.cell n) κ with
    | some (.lst, xs) => ∃ d, atI xs i = some d ∧ Q d κ
    | some (.tup, xs) => ∃ d, atI xs i = some d ∧ Q d κ
    | some (.klst, xs) => ∃ d, atI xs i = some d ∧ Q d κ
    | _ => False) = _
  rw [vw_cell h]
theorem ix_kset {n : Nat} : fIx (.cell n) (.int i) (kset κ n (.live .lst xs)) Q = ∃ d, atI xs i = some d ∧ Q d (kset κ n (.live .lst xs)) := ix_cell kset_same
theorem ixN_nat {k n : Nat} (h : n < k) : ixN k (n : Int) = some n := by
  unfold ixN
  rw [if_pos (Int.natCast_nonneg n), if_pos (by omega), Int.toNat_natCast]
theorem at_nat {α : Type} {xs : List α} {n : Nat} {a : α} (h : xs[n]? = some a) : atI xs (n : Int) = some a := by
  unfold atI
  obtain ⟨h1, _⟩ := List.getElem?_eq_some_iff.mp h
  rw [ixN_nat h1]
  exact h
theorem at_0 {a : D} {l : List D} {P : D → Prop} : (∃ d, atI (a :: l) 0 = some d ∧ P d) = P a := propext ⟨fun ⟨d, h, q⟩ => by
    have : atI (a :: l) 0 = some a := at_nat (n := 0) rfl
    rw [this] at h; cases h; exact q, fun h => ⟨a, at_nat (n := 0) rfl, h⟩⟩
theorem at_1 {a b : D} {l : List D} {P : D → Prop} : (∃ d, atI (a :: b :: l) 1 = some d ∧ P d) = P b := propext ⟨fun ⟨d, h, q⟩ => by
    have : atI (a :: b :: l) 1 = some b := at_nat (n := 1) rfl
    rw [this] at h; cases h; exact q, fun h => ⟨b, at_nat (n := 1) rfl, h⟩⟩
theorem at_2 {a b c : D} {l : List D} {P : D → Prop} : (∃ d, atI (a :: b :: c :: l) 2 = some d ∧ P d) = P c := propext ⟨fun ⟨d, h, q⟩ => by
    have : atI (a :: b :: c :: l) 2 = some c := at_nat (n := 2) rfl
    rw [this] at h; cases h; exact q, fun h => ⟨c, at_nat (n := 2) rfl, h⟩⟩
theorem at_3 {a b c e : D} {l : List D} {P : D → Prop} : (∃ d, atI (a :: b :: c :: e :: l) 3 = some d ∧ P d) = P e := propext ⟨fun ⟨d, h, q⟩ => by
    have : atI (a :: b :: c :: e :: l) 3 = some e := at_nat (n := 3) rfl
    rw [this] at h; cases h; exact q, fun h => ⟨e, at_nat (n := 3) rfl, h⟩⟩
/-- the item of a list at a place below its length -/
theorem at_of {α : Type} {xs : List α} {i : Int} (h0 : 0 ≤ i) (h1 : i < xs.length) : ∃ d, atI xs i = some d ∧ d ∈ xs := by
  unfold atI ixN
  rw [if_pos h0, if_pos h1]
  have h2 : i.toNat < xs.length := by omega
  exact ⟨xs[i.toNat], List.getElem?_eq_getElem h2, List.getElem_mem h2⟩
theorem ix_mem {xs : List D} {i : Int} {κ : Kap} {Q : DQ} (h0 : 0 ≤ i) (h1 : i < xs.length) (h : ∀ d ∈ xs, Q d κ) : fIx (.node .lst xs) (.int i) κ Q := by
  obtain ⟨d, e, hd⟩ := at_of h0 h1
  exact ⟨d, e, h d hd⟩
theorem se_cell {n : Nat} {d : D} {T : Kap → Prop} (h : κ n = some (.live .lst xs)) : fSet (.cell n) (.int i) d κ T = ∃ m, ixN xs.length i = some m ∧ T (kset κ n (.live .lst (xs.set m d))) := by
  unfold fSet
  simp only [h]
theorem se_0 {n : Nat} {a d : D} {l : List D} {T : Kap → Prop} (h : κ n = some (.live .lst (a :: l))) : fSet (.cell n) (.int 0) d κ T = T (kset κ n (.live .lst (d :: l))) := by
  rw [se_cell h]
  exact propext ⟨fun ⟨m, h, q⟩ => by
    have : ixN (a :: l).length 0 = some 0 := by unfold ixN; simp
    rw [this] at h; cases h; exact q, fun h => ⟨0, by unfold ixN; simp, h⟩⟩
theorem se_2 {n : Nat} {a b c d : D} {l : List D} {T : Kap → Prop} (h : κ n = some (.live .lst (a :: b :: c :: l))) : fSet (.cell n) (.int 2) d κ T = T (kset κ n (.live .lst (a :: b :: d :: l))) := by
  rw [se_cell h]
  have e : ixN (a :: b :: c :: l).length 2 = some 2 := ixN_nat (n := 2) (by simp)
  exact propext ⟨fun ⟨m, h, q⟩ => by rw [e] at h; cases h; exact q, fun h => ⟨2, e, h⟩⟩
theorem se_3 {n : Nat} {a b c e d : D} {l : List D} {T : Kap → Prop} (h : κ n = some (.live .lst (a :: b :: c :: e :: l))) : fSet (.cell n) (.int 3) d κ T = T (kset κ n (.live .lst (a :: b :: c :: d :: l))) := by
  rw [se_cell h]
  have e : ixN (a :: b :: c :: e :: l).length 3 = some 3 := ixN_nat (n := 3) (by simp)
  exact propext ⟨fun ⟨m, h, q⟩ => by rw [e] at h; cases h; exact q, fun h => ⟨3, e, h⟩⟩
end

/-! equality of what can be told apart -/
theorem view_int {i : Int} {κ : Kap} : view (.int i) κ = none := rfl
theorem pd_int_is {κ : Kap} {i : Int} {p : PyData} (h : Pd κ (.int i) p) : p = .int i := by
  cases h with
  | int => rfl
  | lst h _ => cases h
  | tup h _ => cases h
  | dct h _ => cases h
theorem pd_str_is {κ : Kap} {x : Str} {p : PyData} (h : Pd κ (.str x) p) : p = .str x := by
  cases h with
  | str => rfl
  | lst h _ => cases h
  | tup h _ => cases h
  | dct h _ => cases h
theorem eq_int {κ : Kap} {Q : DQ} {i j : Int} : fEq (.int i) (.int j) κ Q = Q (.bl (decide (i = j))) κ := propext ⟨fun ⟨p, q, h1, h2, _, _, h⟩ => by
    cases pd_int_is h1
    cases pd_int_is h2
    exact h, fun h => ⟨.int i, .int j, .int i, .int j, rfl, rfl, h⟩⟩
theorem ne_int' {κ : Kap} {Q : DQ} {i j : Int} : fNe (.int i) (.int j) κ Q = Q (.bl (!decide (i = j))) κ := propext ⟨fun ⟨p, q, h1, h2, _, _, h⟩ => by
    cases pd_int_is h1
    cases pd_int_is h2
    exact h, fun h => ⟨.int i, .int j, .int i, .int j, rfl, rfl, h⟩⟩
theorem eq_dat {κ : Kap} {Q : DQ} {x y : D} {p q : PyData} (hx : pdata x = some p) (hy : pdata y = some q) (sx : SeqAt.shaped p = true) (sy : SeqAt.shaped q = true) (h : Q (.bl (PyData.eqv p q)) κ) : fEq x y κ Q := ⟨p, q, pd_of hx, pd_of hy, sx, sy, h⟩
theorem ne_dat {κ : Kap} {Q : DQ} {x y : D} {p q : PyData} (hx : pdata x = some p) (hy : pdata y = some q) (sx : SeqAt.shaped p = true) (sy : SeqAt.shaped q = true) (h : Q (.bl (!PyData.eqv p q)) κ) : fNe x y κ Q := ⟨p, q, pd_of hx, pd_of hy, sx, sy, h⟩

/-! side conditions -/
theorem log_lt {n k : Nat} (h : n < 2 ^ k) : n.log2 ≤ k := by
  by_cases h0 : n = 0
  · subst h0; simp
  · exact Nat.le_of_lt ((Nat.log2_lt h0).mpr h)
theorem cmul_of (a b : Nat) {i j : Int} (h : i.natAbs < 2 ^ a) (h' : j.natAbs < 2 ^ b) (hs : a + b < 1000000) : CMulW i j := by
  have h1 := log_lt h
  have h2 := log_lt h'
  unfold CMulW
  omega
theorem cmul64 {i j : Int} (h : i.natAbs < 2 ^ 64) (h' : j.natAbs < 2 ^ 64) : CMulW i j := cmul_of 64 64 h h' (by decide)
theorem cdiv_of (a : Nat) {i j : Int} (h0 : j ≠ 0) (h : j.natAbs < 2 ^ a) (hs : a < 9000) : CDivD i j := ⟨h0, Nat.lt_of_le_of_lt (log_lt h) hs⟩
theorem cdiv64 {i j : Int} (h0 : j ≠ 0) (h : j.natAbs < 2 ^ 64) : CDivD i j := cdiv_of 64 h0 h (by decide)
theorem fm_bd (x w : Int) (h : 0 < w) : 0 ≤ x.fmod w ∧ x.fmod w < w := ⟨Int.fmod_nonneg_of_pos x h, Int.fmod_lt_of_pos x h⟩
theorem len_cut (z : Str) (u v : Option Int) : (cutS z u v).length ≤ z.length := cutS_length z u v
theorem len_app (x y : Str) : (x ++ y).length = x.length + y.length := Array.size_append
theorem len_one (c : Nat) : (⟨#[c]⟩ : Str).length = 1 := rfl
theorem len_emp : (Str.ofString "").length = 0 := by decide +kernel
theorem len_join : ∀ ys : List Str, (Str.join "" ys).length = (ys.map (·.length)).sum
  | [] => rfl
  | [x] => by simp [Str.join]
  | x :: y :: r => by
    show (x ++ Str.ofString "" ++ Str.join "" (y :: r)).length = _
    rw [len_app, len_app, len_join (y :: r), len_emp]
    simp
theorem sum_ones : ∀ {ys : List Str}, (∀ y ∈ ys, y.length = 1) → (ys.map (·.length)).sum = ys.length
  | [], _ => rfl
  | y :: ys, h => by
    rw [List.map_cons, List.sum_cons, sum_ones fun z hz => h z (List.mem_cons_of_mem _ hz), h y List.mem_cons_self, List.length_cons]
    omega
theorem ipow_le {b : Int} (hb : 1 ≤ b) {i n : Nat} (h : i ≤ n) : b ^ i ≤ b ^ n := by
  induction n with
  | zero => rw [Nat.le_zero.mp h]; exact Int.le_refl _
  | succ n ih =>
    by_cases hi : i = n + 1
    · rw [hi]; exact Int.le_refl _
    · have h1 := ih (by omega)
      have h2 : 0 ≤ b ^ n := Int.pow_nonneg (by omega)
      rw [Int.pow_succ]
      exact Int.le_trans h1 (by have := Int.mul_le_mul_of_nonneg_left hb h2; simpa using this)
/-! isinstance, told -/
theorem isi_ty {tab : List KRow} {d : D} {n : String} {κ : Kap} {Q : DQ} {t : TyK} {b : Bool} (h1 : tyK d κ = some t) (h2 : ktOf tab t (.b n) = some b) : fIsi (ktOf tab) [d, .ty n] κ Q = Q (.bl b) κ := propext ⟨fun ⟨t', b', q1, q2, q⟩ => by
    rw [h1] at q1; cases q1; rw [h2] at q2; cases q2; exact q, fun h => ⟨t, b, h1, h2, h⟩⟩
theorem isi_in {tab : List KRow} {d : D} {n : String} {κ : Kap} {Q : DQ} (t : TyK) (b : Bool) (h1 : tyK d κ = some t) (h2 : ktOf tab t (.b n) = some b) (h : Q (.bl b) κ) : fIsi (ktOf tab) [d, .ty n] κ Q := ⟨t, b, h1, h2, h⟩
/-! repr of data -/
theorem repr_of {x : D} {p : PyData} {κ : Kap} {Q : DQ} (hp : pdata x = some p) (h1 : p.showable = true) (h2 : p.depth ≤ 60) (h3 : p.shown.length ≤ sizeLine) (h : Q (.str p.shown) κ) : fRepr [x] κ Q := ⟨p, pd_of hp, h1, h2, h3, h⟩
theorem bl3_shown : ∀ a b c : Bool, (PyData.list [.bool a, .bool b, .bool c]).depth ≤ 60 ∧ (PyData.list [.bool a, .bool b, .bool c]).shown.length ≤ sizeLine := by decide +kernel
theorem repr_bl3 {a b c : Bool} {κ : Kap} {Q : DQ} (h : Q (.str (PyData.list [.bool a, .bool b, .bool c]).shown) κ) : fRepr [.lst [.bl a, .bl b, .bl c]] κ Q :=
  repr_of rfl rfl (bl3_shown a b c).1 (bl3_shown a b c).2 h
theorem bi_inl {i : Nat} {d : D} {δ : DEnv} {κ : Kap} {P : DEnv → Prop} : (∃ δ1, bindT (.inl i) d δ κ = some δ1 ∧ P δ1) = P (δ.set i (some d)) := propext ⟨fun ⟨δ1, h, q⟩ => by cases h; exact q, fun h => ⟨_, rfl, h⟩⟩
theorem bi_inr {is : List Nat} {xs : List D} {δ δ' : DEnv} {κ : Kap} {P : DEnv → Prop} (h : bindL is xs δ = some δ') : (∃ δ1, bindT (.inr is) (.node .tup xs) δ κ = some δ1 ∧ P δ1) = P δ' := propext ⟨fun ⟨δ1, e, q⟩ => by
    have e' : bindL is xs δ = some δ1 := e
    rw [h] at e'; cases e'; exact q, fun q => ⟨δ', h, q⟩⟩
/-! loops -/
/-- a loop over items: what holds of the rest -/
theorem dLoop_ind {g : DG} {b : DS} {gd : Kap → Prop} {X : DX} {T : DEnds} (I : List D → DEnv → Kap → Prop) (h0 : ∀ δ κ, I [] δ κ → gd κ ∧ T.nx δ κ)
    (hs : ∀ d ds δ κ (L : DEnv → Kap → Prop), (∀ δ κ, I ds δ κ → L δ κ) → I (d :: ds) δ κ → gd κ ∧ g d δ κ X fun δ1 κ1 => b δ1 κ1 X { nx := L, ct := L, bk := T.nx, rt := T.rt }) : ∀ ds δ κ, I ds δ κ → dLoop g b gd X T ds δ κ
  | [], δ, κ, h => h0 δ κ h
  | d :: ds, δ, κ, h => hs d ds δ κ _ (dLoop_ind I h0 hs ds) h
/-- a loop over items: what holds behind i of them -/
theorem dLoop_ix {g : DG} {b : DS} {gd : Kap → Prop} {X : DX} {T : DEnds} {items : List D} (I : Nat → DEnv → Kap → Prop) (h0 : ∀ δ κ, I items.length δ κ → gd κ ∧ T.nx δ κ)
    (hs : ∀ i d δ κ (L : DEnv → Kap → Prop), items[i]? = some d → (∀ δ κ, I (i + 1) δ κ → L δ κ) → I i δ κ → gd κ ∧ g d δ κ X fun δ1 κ1 => b δ1 κ1 X { nx := L, ct := L, bk := T.nx, rt := T.rt }) {δ : DEnv} {κ : Kap} (h : I 0 δ κ) : dLoop g b gd X T items δ κ := by
  refine dLoop_ind (fun ds δ κ => ∃ i, ds = items.drop i ∧ i ≤ items.length ∧ I i δ κ) ?_ ?_ items δ κ ⟨0, rfl, Nat.zero_le _, h⟩
  · rintro δ κ ⟨i, e, hi, h⟩
    have : i = items.length := by
      have := congrArg List.length e
      simp at this
      omega
    subst this
    exact h0 δ κ h
  · rintro d ds δ κ L hL ⟨i, e, hi, h⟩
    have hlt : i < items.length := by
      have := congrArg List.length e
      simp at this
      omega
    rw [List.drop_eq_getElem_cons hlt] at e
    injection e with e1 e2
    exact hs i d δ κ L (by rw [e1]; exact List.getElem?_eq_getElem hlt) (fun δ κ q => hL δ κ ⟨i + 1, e2, hlt, q⟩) h
theorem lcLoop_ind {n : Nat} {t : TN} {tt : DT} {e : DE} {gd : Kap → Prop} {vs : List Nat} {δ : DEnv} {fin : List D → Kap → Prop} (I : List D → List D → Kap → Prop) (h0 : ∀ acc κ, I [] acc κ → gd κ ∧ fin acc κ)
    (hs : ∀ d ds acc κ (L : List D → Kap → Prop), (∀ acc κ, I ds acc κ → L acc κ) → I (d :: ds) acc κ → gd κ ∧ ∃ δ1, bindT t d (dwipe δ vs) κ = some δ1 ∧ tt δ1 κ XF fun b κ2 => if b = true then e δ1 κ2 XF fun y κ3 => κ3 n = some (.live .lst acc) ∧ acc.length < sizeLine ∧ L (acc ++ [y]) (kset κ3 n (.live .lst (acc ++ [y])))
      else L acc κ2) : ∀ ds acc κ, I ds acc κ → lcLoop n t tt e gd vs δ fin ds acc κ
  | [], acc, κ, h => h0 acc κ h
  | d :: ds, acc, κ, h => hs d ds acc κ _ (lcLoop_ind I h0 hs ds) h
theorem lcLoop_ix {n : Nat} {t : TN} {tt : DT} {e : DE} {gd : Kap → Prop} {vs : List Nat} {δ : DEnv} {fin : List D → Kap → Prop} {items : List D} (I : Nat → List D → Kap → Prop) (h0 : ∀ acc κ, I items.length acc κ → gd κ ∧ fin acc κ)
    (hs : ∀ i d acc κ (L : List D → Kap → Prop), items[i]? = some d → (∀ acc κ, I (i + 1) acc κ → L acc κ) → I i acc κ → gd κ ∧ ∃ δ1, bindT t d (dwipe δ vs) κ = some δ1 ∧ tt δ1 κ XF fun b κ2 => if b = true then e δ1 κ2 XF fun y κ3 => κ3 n = some (.live .lst acc) ∧ acc.length < sizeLine ∧ L (acc ++ [y]) (kset κ3 n (.live .lst (acc ++ [y])))
      else L acc κ2) {acc : List D} {κ : Kap} (h : I 0 acc κ) : lcLoop n t tt e gd vs δ fin items acc κ := by
  refine lcLoop_ind (fun ds acc κ => ∃ i, ds = items.drop i ∧ i ≤ items.length ∧ I i acc κ) ?_ ?_ items acc κ ⟨0, rfl, Nat.zero_le _, h⟩
  · rintro δ κ ⟨i, e, hi, h⟩
    have : i = items.length := by
      have := congrArg List.length e
      simp at this
      omega
    subst this
    exact h0 δ κ h
  · rintro d ds δ κ L hL ⟨i, e, hi, h⟩
    have hlt : i < items.length := by
      have := congrArg List.length e
      simp at this
      omega
    rw [List.drop_eq_getElem_cons hlt] at e
    injection e with e1 e2
    exact hs i d δ κ L (by rw [e1]; exact List.getElem?_eq_getElem hlt) (fun δ κ q => hL δ κ ⟨i + 1, e2, hlt, q⟩) h
theorem rangeD_len {lo : Int} {n : Nat} : (rangeD lo n).length = n := by unfold rangeD; simp
theorem rangeD_get {lo : Int} {n i : Nat} {d : D} (h : (rangeD lo n)[i]? = some d) : i < n ∧ d = .int (lo + (i : Nat)) := by
  unfold rangeD at h
  rw [List.getElem?_map, Option.map_eq_some_iff] at h
  obtain ⟨j, hj, rfl⟩ := h
  obtain ⟨h1, h2⟩ := List.getElem?_eq_some_iff.mp hj
  rw [List.length_range] at h1
  rw [List.getElem_range] at h2
  subst h2
  exact ⟨h1, rfl⟩

/-! a box that is drawn from -/
/-- the box at b: three whole numbers, at most m drawn so far -/
def Bx (b m : Nat) (κ : Kap) : Prop := ∃ x y z : Int, κ b = some (.live .lst [.int x, .int y, .int z]) ∧ 0 ≤ y ∧ y < 2 ^ 31 ∧ 0 ≤ z ∧ z ≤ (m : Int)
/-- all cells but b's stay -/
def Fr (b : Nat) (κ κ' : Kap) : Prop := ∀ n c, n ≠ b → κ n = some c → κ' n = some c
theorem Fr.refl {b : Nat} {κ : Kap} : Fr b κ κ := fun _ _ _ h => h
theorem Fr.trans {b : Nat} {κ κ1 κ2 : Kap} (h : Fr b κ κ1) (g : Fr b κ1 κ2) : Fr b κ κ2 := fun n c hn e => g n c hn (h n c hn e)
theorem Fr.set {b n : Nat} {κ : Kap} {c : Cell} (h : κ n = none) : Fr b κ (kset κ n c) := fun m d hm e => by rw [kset_ne (kne e h)]; exact e
theorem Fr.put {b n : Nat} {κ κ' : Kap} {c : Cell} (f : Fr b κ κ') (h : κ n = none) : Fr b κ (kset κ' n c) := fun m d hm e => by rw [kset_ne (kne e h)]; exact f m d hm e
theorem Fr.box {b : Nat} {κ : Kap} {c : Cell} : Fr b κ (kset κ b c) := fun m d hm e => by rw [kset_ne hm]; exact e
theorem Bx.mono {b m m' : Nat} {κ : Kap} (h : Bx b m κ) (hm : m ≤ m') : Bx b m' κ := let ⟨x, y, z, h1, h2, h3, h4, h5⟩ := h; ⟨x, y, z, h1, h2, h3, h4, by omega⟩
theorem Bx.is {b m : Nat} {κ : Kap} (h : Bx b m κ) : ∃ k xs, κ b = some (.live k xs) := let ⟨_, _, _, h1, _⟩ := h; ⟨_, _, h1⟩
theorem Bx.ne {b m n : Nat} {κ : Kap} (h : Bx b m κ) (hn : κ n = none) : n ≠ b := fun e => by obtain ⟨_, _, q⟩ := h.is; rw [e] at hn; rw [hn] at q; cases q
theorem Bx.set {b m n : Nat} {κ : Kap} {c : Cell} (h : Bx b m κ) (hn : n ≠ b) : Bx b m (kset κ n c) := let ⟨x, y, z, h1, h2⟩ := h; ⟨x, y, z, by rw [kset_ne hn.symm]; exact h1, h2⟩
end DL

/-! DS: one step for each reading. -/
namespace DL
open PySem PySem.Spec L2
def rQ (QI : List D → (Kap → Prop) → Kap → Prop) (xs : List D) (κ : Kap) : Prop := match xs with
  | [.int j] => -(2 ^ 62) ≤ j ∧ j < 2 ^ 62 ∧ QI (rangeD 0 j.toNat) gTrue κ
  | _ => False
def sQ (QI : List D → (Kap → Prop) → Kap → Prop) (d : D) (κ : Kap) : Prop := match d with
  | .str x => QI (charsD x) gTrue κ
  | .cell n => match κ n with
    | some (.live .lst xs) => QI xs (fun κ => κ n = some (.live .lst xs)) κ
    | _ => False
  | d => match view d κ with
    | some (.lst, xs) => QI xs gTrue κ
    | some (.klst, xs) => QI xs gTrue κ
    | some (.tup, xs) => QI xs gTrue κ
    | _ => False
section
variable {δ : DEnv} {κ : Kap} {X : DX} {Q : DQ} {a b c : DE} {as r : DA} {t u : DT} {s s' : DS} {d x y : D} {f g : D2} {n : DEnv → Kap → Prop} {rt : DQ} {bk ct : DEnv → Kap → Prop} {T : DEnds} {QL : List D → Kap → Prop} {QB : Bool → Kap → Prop} {QG : DEnv → Kap → Prop} {xs ys : List D} {A B : Prop} {i j : Int} {z v : Str} {m k : Bool}
theorem s_sp {n m : Nat} {b : DS} {ds : List D} {X : Str → List D → Kap → Prop} (h : ds.length = m) (q : b (startD n ds) κ (fun _ c fs κ' => X c fs κ') ⟨fun _ κ' => Q .non κ', Q, fun _ _ => False, fun _ _ => False⟩) : spOf n m b ds κ X Q := ⟨h, q⟩
theorem s_seq (h : s δ κ X ⟨fun δ1 κ1 => s' δ1 κ1 X ⟨n, rt, bk, ct⟩, rt, bk, ct⟩) : sSeq s s' δ κ X ⟨n, rt, bk, ct⟩ := h
theorem s_nil (h : n δ κ) : sNil δ κ X ⟨n, rt, bk, ct⟩ := h
theorem s_asg {g : DG} (h : a δ κ X fun d κ1 => g d δ κ1 X n) : sAsg a g δ κ X ⟨n, rt, bk, ct⟩ := h
theorem s_exp (h : a δ κ X fun _ κ1 => n δ κ1) : sExp a δ κ X ⟨n, rt, bk, ct⟩ := h
theorem s_ret (h : a δ κ X rt) : sRet a δ κ X ⟨n, rt, bk, ct⟩ := h
theorem s_retN (h : rt .non κ) : sRetN δ κ X ⟨n, rt, bk, ct⟩ := h
theorem s_brk (h : bk δ κ) : sBrk δ κ X ⟨n, rt, bk, ct⟩ := h
theorem s_con (h : ct δ κ) : sCon δ κ X ⟨n, rt, bk, ct⟩ := h
theorem s_if (h : t δ κ X fun k κ1 => if k = true then s δ κ1 X T else s' δ κ1 X T) : sIf t s s' δ κ X T := h
theorem s_par {i j : Nat} (h : as δ κ X fun ds κ1 => ∃ x y, ds = [x, y] ∧ n ((δ.set i (some x)).set j (some y)) κ1) : sPar i j as δ κ X ⟨n, rt, bk, ct⟩ := h
theorem s_for {it : DI} {g : DG} (h : it δ κ X fun items gd κ1 => dLoop g s gd X T items δ κ1) : sFor it g s δ κ X T := h
theorem x_par {P : D → D → Prop} (h : P x y) : ∃ u v, [x, y] = [u, v] ∧ P u v := ⟨x, y, rfl, h⟩
theorem e_var {i : Nat} (e : δ[i]? = some (some d)) (h : Q d κ) : dVar i δ κ X Q := by unfold dVar; rw [e]; exact h
theorem e_c (h : Q d κ) : dC d δ κ X Q := h
theorem e_op (h : a δ κ X fun x κ1 => b δ κ1 X fun y κ2 => f x y κ2 Q) : dOp f a b δ κ X Q := h
theorem e_un {f : D1} (h : a δ κ X fun x κ1 => f x κ1 Q) : dUn f a δ κ X Q := h
theorem e_nil (h : QL [] κ) : dNil δ κ X QL := h
theorem e_cons (h : a δ κ X fun x κ1 => r δ κ1 X fun xs κ2 => QL (x :: xs) κ2) : dCons a r δ κ X QL := h
theorem e_B {f : DN} (h : as δ κ X fun xs κ1 => f xs κ1 Q) : dB f as δ κ X Q := h
theorem e_tup (h : as δ κ X fun xs κ1 => xs.length ≤ sizeLine ∧ Q (.node .tup xs) κ1) : dTup as δ κ X Q := h
theorem e_lst (h : as δ κ X fun xs κ1 => xs.length ≤ sizeLine ∧ fNew m .lst xs κ1 Q) : dLst m as δ κ X Q := h
theorem e_dct0 (h : fNew m (.dct []) [] κ Q) : dDct0 m δ κ X Q := h
theorem e_sz (h1 : xs.length ≤ sizeLine) (h : A) : xs.length ≤ sizeLine ∧ A := ⟨h1, h⟩
theorem cpow_of {i j : Int} (h0 : 0 ≤ j) (h1 : j ≤ 1000000) (h2 : i.natAbs < 2 ^ 64) : CPow i j := ⟨h0, h1, h2⟩
theorem e_nwf {k : Kd} (h : Q (.node k xs) κ) : fNew false k xs κ Q := h
theorem e_nwt {k : Kd} (h : ∀ n, κ n = none → Q (.cell n) (kset κ n (.live k xs))) : fNew true k xs κ Q := h
theorem e_and (h : a δ κ X fun x κ1 => withTruth x κ1 fun t => if t = true then b δ κ1 X Q else Q x κ1) : dAnd a b δ κ X Q := h
theorem e_or (h : a δ κ X fun x κ1 => withTruth x κ1 fun t => if t = true then Q x κ1 else b δ κ1 X Q) : dOr a b δ κ X Q := h
theorem e_not (h : a δ κ X fun x κ1 => withTruth x κ1 fun t => Q (.bl (!t)) κ1) : dNot a δ κ X Q := h
theorem e_if (h : t δ κ X fun k κ1 => if k = true then a δ κ1 X Q else b δ κ1 X Q) : dIf t a b δ κ X Q := h
theorem e_chain (h : a δ κ X fun x κ1 => b δ κ1 X fun y κ2 => f x y κ2 fun z κ3 => ∃ k, z = .bl k ∧ if k = true then c δ κ3 X (fun w κ4 => g y w κ4 Q) else Q (.bl false) κ3) : dChain f g a b c δ κ X Q := h
theorem e_sl {lo hi : DO} (h : a δ κ X fun x κ1 => lo δ κ1 X fun i κ2 => hi δ κ2 X fun j κ3 => fSl m x i j κ3 Q) : dSl m a lo hi δ κ X Q := h
theorem e_no {QO : Option Int → Kap → Prop} (h : QO none κ) : dNo δ κ X QO := h
theorem e_part {QO : Option Int → Kap → Prop} (h : a δ κ X fun x κ1 => ∃ i, x = .int i ∧ QO (some i) κ1) : dPart a δ κ X QO := h
theorem e_call {sp : DSp} (h : as δ κ X fun xs κ1 => sp xs κ1 (X δ) Q) : dCall sp [] as δ κ X Q := by
  unfold dCall
  simp only [List.append_nil]
  exact h
theorem e_callD {sp : DSp} {dvs : List D} (h : as δ κ X fun xs κ1 => sp (xs ++ dvs) κ1 (X δ) Q) : dCall sp dvs as δ κ X Q := h
theorem e_m1 {f : D → D → Kap → DQ → Prop} (h : a δ κ X fun x κ1 => (∃ y, x = .str y) ∧ b δ κ1 X fun z κ2 => f x z κ2 Q) : dM1 f a b δ κ X Q := h
theorem e_m0 {f : D → Kap → DQ → Prop} (h : a δ κ X fun x κ1 => (∃ y, x = .str y) ∧ f x κ1 Q) : dM0 f a δ κ X Q := h
theorem e_mk {c : Str} {ns : List Str} (h : as δ κ X fun xs κ1 => xs.length = ns.length ∧ xs.length ≤ 100 ∧ Q (.node (.exc c ns) xs.reverse) κ1) : dMk c ns as δ κ X Q := h
theorem e_lc {it : DI} {t : TN} {tt : DT} {e : DE} {vs : List Nat} (h : it δ κ X fun items gd κ1 => ∀ n, κ1 n = none →
  lcLoop n t tt e gd vs δ (fun acc κ' => κ' n = some (.live .lst acc) ∧ Q (.node .lst acc) (kset κ' n .dead)) items [] (kset κ1 n (.live .lst []))) : dLc false it t tt e vs δ κ X Q := h
theorem e_lcm {it : DI} {t : TN} {tt : DT} {e : DE} {vs : List Nat} (h : it δ κ X fun items gd κ1 => ∀ n, κ1 n = none →
  lcLoop n t tt e gd vs δ (fun acc κ' => κ' n = some (.live .lst acc) ∧ Q (.cell n) κ') items [] (kset κ1 n (.live .lst []))) : dLc true it t tt e vs δ κ X Q := h
theorem t_yes (h : QB true κ) : tYesD δ κ X QB := h
theorem t_tru (h : a δ κ X fun x κ1 => withTruth x κ1 fun t => QB t κ1) : tTru a δ κ X QB := h
theorem t_bl (h : a δ κ X fun x κ1 => ∃ k, x = .bl k ∧ QB k κ1) : tBl a δ κ X QB := h
theorem t_and (h : t δ κ X fun k κ1 => if k = true then u δ κ1 X QB else QB false κ1) : tAndD t u δ κ X QB := h
theorem t_or (h : t δ κ X fun k κ1 => if k = true then QB true κ1 else u δ κ1 X QB) : tOrD t u δ κ X QB := h
theorem t_not (h : t δ κ X fun k κ1 => QB (!k) κ1) : tNotD t δ κ X QB := h
theorem w_bl {P : Bool → Prop} (h : P k) : withTruth (.bl k) κ P := h
theorem w_non {P : Bool → Prop} (h : P false) : withTruth .non κ P := h
theorem w_int {P : Bool → Prop} (h : P (i != 0)) : withTruth (.int i) κ P := h
theorem x_bl {P : Bool → Prop} (h : P k) : ∃ q, D.bl k = D.bl q ∧ P q := ⟨k, rfl, h⟩
theorem x_int {P : Int → Prop} (h : P i) : ∃ q, D.int i = D.int q ∧ P q := ⟨i, rfl, h⟩
theorem x_str (h : A) : (∃ q, D.str z = D.str q) ∧ A := ⟨⟨z, rfl⟩, h⟩
theorem i_T (h : A) : if true = true then A else B := by rw [if_pos rfl]; exact h
theorem i_F (h : B) : if false = true then A else B := by rw [if_neg (by decide)]; exact h
theorem i_not (h : if k = true then B else A) : if (!k) = true then A else B := by cases k <;> exact h
theorem i_dT {p : Prop} [Decidable p] (hp : p) (h : A) : if decide p = true then A else B := by rw [if_pos (decide_eq_true hp)]; exact h
theorem i_dF {p : Prop} [Decidable p] (hp : ¬p) (h : B) : if decide p = true then A else B := by rw [if_neg (by rw [decide_eq_false hp]; decide)]; exact h
theorem i_d {p : Prop} [Decidable p] (h : p → A) (h' : ¬p → B) : if decide p = true then A else B := by
  by_cases hp : p
  · exact i_dT hp (h hp)
  · exact i_dF hp (h' hp)
theorem g_nil (h : QG δ κ) : gNilD [] δ κ X QG := ⟨rfl, h⟩
theorem g_cons {g : DG} {r : DGs} (h : g d δ κ X fun δ1 κ1 => r xs δ1 κ1 X QG) : gConsD g r (d :: xs) δ κ X QG := h
theorem g_tup {N : Nat} {g : DGs} (hl : xs.length = N) (h : g xs δ κ X QG) : gTupD N g (.node .tup xs) δ κ X QG := ⟨xs, rfl, hl, h⟩
theorem g_sub {f : D → D → D → Kap → (Kap → Prop) → Prop} (h : a δ κ X fun x κ1 => b δ κ1 X fun y κ2 => f x y d κ2 fun κ3 => QG δ κ3) : gSubD a b f d δ κ X QG := h
theorem l_1 (h : -(2 ^ 62) ≤ j ∧ j < 2 ^ 62 ∧ A) : -(2 ^ 62) ≤ j ∧ j < 2 ^ 62 ∧ A := h
theorem s_while (I : Nat → DEnv → Kap → Prop) (h0 : ∃ m, I m δ κ) (h : ∀ m δ κ (L : DEnv → Kap → Prop), (∀ m' δ κ, m' < m → I m' δ κ → L δ κ) → I m δ κ → t δ κ X fun k κ1 => if k = true then s δ κ1 X ⟨L, rt, n, L⟩ else n δ κ1) : sWhile t s δ κ X ⟨n, rt, bk, ct⟩ :=
  ⟨I, h0, fun m δ κ hI => h m δ κ _ (fun m' δ κ hm hI => ⟨m', hm, hI⟩) hI⟩
theorem dl_ix {g : DG} {gd : Kap → Prop} {items : List D} (I : Nat → DEnv → Kap → Prop) (h0 : ∀ δ κ, I items.length δ κ → gd κ ∧ n δ κ)
    (hs : ∀ i d δ κ (L : DEnv → Kap → Prop), items[i]? = some d → (∀ δ κ, I (i + 1) δ κ → L δ κ) → I i δ κ → gd κ ∧ g d δ κ X fun δ1 κ1 => s δ1 κ1 X ⟨L, rt, n, L⟩) (h : I 0 δ κ) : dLoop g s gd X ⟨n, rt, bk, ct⟩ items δ κ := dLoop_ix I h0 hs h
theorem e_disp {prs : List (DE × DE)} (h : ∀ n, κ n = none → dPairs prs δ (kset κ n (.live (.dct []) [])) X fun ps κ1 => κ1 n = some (.live (.dct []) []) ∧ ∃ ks : List Key, ps.map (·.1) = ks.map keyD ∧ ks.Nodup ∧ ks.length ≤ 15 ∧ Q (.node (.dct ks) (ps.map (·.2))) (kset κ1 n .dead)) : dDisp false prs δ κ X Q := h
theorem p_nil {QP : List (D × D) → Kap → Prop} (h : QP [] κ) : dPairs [] δ κ X QP := h
theorem p_cons {l : List (DE × DE)} {QP : List (D × D) → Kap → Prop} (h : a δ κ X fun x κ1 => b δ κ1 X fun y κ2 => dPairs l δ κ2 X fun ps κ3 => QP ((x, y) :: ps) κ3) : dPairs ((a, b) :: l) δ κ X QP := h
theorem r_1 {QI : List D → (Kap → Prop) → Kap → Prop} (h : as δ κ X (rQ QI)) : iRange1 as δ κ X QI := h
theorem r_q {QI : List D → (Kap → Prop) → Kap → Prop} (h1 : -(2 ^ 62) ≤ j) (h2 : j < 2 ^ 62) (h : QI (rangeD 0 j.toNat) gTrue κ) : rQ QI [.int j] κ := ⟨h1, h2, h⟩
theorem q_seq {QI : List D → (Kap → Prop) → Kap → Prop} (h : a δ κ X (sQ QI)) : iSeq a δ κ X QI := h
theorem q_S {QI : List D → (Kap → Prop) → Kap → Prop} (h : QI (charsD z) gTrue κ) : sQ QI (.str z) κ := h
theorem q_L {QI : List D → (Kap → Prop) → Kap → Prop} (h : QI xs gTrue κ) : sQ QI (.node .lst xs) κ := h
theorem q_K {QI : List D → (Kap → Prop) → Kap → Prop} (h : QI xs gTrue κ) : sQ QI (.node .klst xs) κ := h
theorem q_T {QI : List D → (Kap → Prop) → Kap → Prop} (h : QI xs gTrue κ) : sQ QI (.node .tup xs) κ := h
/-! operators -/
theorem f_adI (h : Q (.int (i + j)) κ) : fAdd m (.int i) (.int j) κ Q := h
theorem f_adS (h1 : z.length + v.length ≤ sizeLine) (h : Q (.str (z ++ v)) κ) : fAdd m (.str z) (.str v) κ Q := ⟨h1, h⟩
theorem f_adL (h1 : xs.length + ys.length ≤ sizeLine) (h : Q (.node .lst (xs ++ ys)) κ) : fAdd false (.node .lst xs) (.node .lst ys) κ Q := ⟨h1, h⟩
theorem f_sub (h : Q (.int (i - j)) κ) : fSub (.int i) (.int j) κ Q := ⟨trivial, h⟩
theorem f_mod (h1 : j ≠ 0) (h : Q (.int (i.fmod j)) κ) : fMod (.int i) (.int j) κ Q := ⟨h1, h⟩
theorem f_div (h1 : CDivD i j) (h : Q (.int (i.fdiv j)) κ) : fDiv (.int i) (.int j) κ Q := ⟨h1, h⟩
theorem f_mul (h1 : CMulW i j) (h : Q (.int (i * j)) κ) : fMulI (.int i) (.int j) κ Q := ⟨h1, h⟩
theorem f_pow (h1 : CPow i j) (h : Q (.int (i ^ j.toNat)) κ) : fPow (.int i) (.int j) κ Q := ⟨h1, h⟩
theorem f_neg (h : Q (.int (-i)) κ) : fNeg (.int i) κ Q := h
theorem f_ltI (h : Q (.bl (decide (i < j))) κ) : fLtS (.int i) (.int j) κ Q := h
theorem f_leI (h : Q (.bl (decide (i ≤ j))) κ) : fLeS (.int i) (.int j) κ Q := h
theorem f_gtI (h : Q (.bl (decide (j < i))) κ) : fGtS (.int i) (.int j) κ Q := h
theorem f_geI (h : Q (.bl (decide (j ≤ i))) κ) : fGeS (.int i) (.int j) κ Q := h
theorem f_leS (h : Q (.bl (!decide (v.cps.toList < z.cps.toList))) κ) : fLeS (.str z) (.str v) κ Q := h
theorem f_ltS (h : Q (.bl (decide (z.cps.toList < v.cps.toList))) κ) : fLtS (.str z) (.str v) κ Q := h
theorem f_eqI (h : Q (.bl (decide (i = j))) κ) : fEq (.int i) (.int j) κ Q := by rw [eq_int]; exact h
theorem f_neI (h : Q (.bl (!decide (i = j))) κ) : fNe (.int i) (.int j) κ Q := by rw [ne_int']; exact h
theorem f_eqS (h1 : SeqAt.shaped (.str z) = true) (h2 : SeqAt.shaped (.str v) = true) (h : Q (.bl (z == v)) κ) : fEq (.str z) (.str v) κ Q := eq_dat rfl rfl h1 h2 h
theorem f_neS (h1 : SeqAt.shaped (.str z) = true) (h2 : SeqAt.shaped (.str v) = true) (h : Q (.bl (!(z == v))) κ) : fNe (.str z) (.str v) κ Q := ne_dat rfl rfl h1 h2 h
theorem f_inS (h : Q (.bl (strIn z v)) κ) : fIn false (.str z) (.str v) κ Q := h
theorem f_abs (h : Q (.int (if i < 0 then -i else i)) κ) : fAbs [.int i] κ Q := h
theorem f_max (h : Q (.int (if j > i then j else i)) κ) : fMax2 [.int i, .int j] κ Q := h
theorem f_min (h : Q (.int (if j < i then j else i)) κ) : fMin2 [.int i, .int j] κ Q := h
theorem f_lnS (h1 : z.length ≤ sizeLine) (h : Q (.int (z.length : Nat)) κ) : fLen [.str z] κ Q := ⟨h1, h⟩
theorem f_lnL (h : Q (.int (xs.length : Nat)) κ) : fLen [.node .lst xs] κ Q := h
theorem f_lnK (h : Q (.int (xs.length : Nat)) κ) : fLen [.node .klst xs] κ Q := h
theorem f_lnT (h : Q (.int (xs.length : Nat)) κ) : fLen [.node .tup xs] κ Q := h
theorem f_stI (h1 : i.natAbs.log2 < 1920) (h : Q (.str (toString i)) κ) : fStr [.int i] κ Q := ⟨h1, h⟩
theorem f_slS {p q : Option Int} (h1 : z.length ≤ sizeLine) (h : Q (.str (cutS z p q)) κ) : fSl m (.str z) p q κ Q := ⟨h1, h⟩
theorem f_ix0 (h : Q d κ) : fIx (.node .lst (d :: xs)) (.int 0) κ Q := by rw [ix_lst, at_0]; exact h
theorem f_ix1 (h : Q d κ) : fIx (.node .lst (x :: d :: xs)) (.int 1) κ Q := by rw [ix_lst, at_1]; exact h
theorem f_ix2 (h : Q d κ) : fIx (.node .lst (x :: y :: d :: xs)) (.int 2) κ Q := by rw [ix_lst, at_2]; exact h
theorem f_ic0 {N : Nat} (e : κ N = some (.live .lst (d :: xs))) (h : Q d κ) : fIx (.cell N) (.int 0) κ Q := by rw [ix_cell e, at_0]; exact h
theorem f_ic1 {N : Nat} (e : κ N = some (.live .lst (x :: d :: xs))) (h : Q d κ) : fIx (.cell N) (.int 1) κ Q := by rw [ix_cell e, at_1]; exact h
theorem f_ic2 {N : Nat} (e : κ N = some (.live .lst (x :: y :: d :: xs))) (h : Q d κ) : fIx (.cell N) (.int 2) κ Q := by rw [ix_cell e, at_2]; exact h
theorem f_ik0 {N : Nat} (h : Q d (kset κ N (.live .lst (d :: xs)))) : fIx (.cell N) (.int 0) (kset κ N (.live .lst (d :: xs))) Q := f_ic0 kset_same h
theorem f_ik1 {N : Nat} (h : Q d (kset κ N (.live .lst (x :: d :: xs)))) : fIx (.cell N) (.int 1) (kset κ N (.live .lst (x :: d :: xs))) Q := f_ic1 kset_same h
theorem f_ik2 {N : Nat} (h : Q d (kset κ N (.live .lst (x :: y :: d :: xs)))) : fIx (.cell N) (.int 2) (kset κ N (.live .lst (x :: y :: d :: xs))) Q := f_ic2 kset_same h
theorem f_se0 {N : Nat} {P : Kap → Prop} (e : κ N = some (.live .lst (x :: xs))) (h : P (kset κ N (.live .lst (d :: xs)))) : fSet (.cell N) (.int 0) d κ P := by rw [se_0 e]; exact h
theorem f_se2 {N : Nat} {v w : D} {P : Kap → Prop} (e : κ N = some (.live .lst (v :: w :: x :: xs))) (h : P (kset κ N (.live .lst (v :: w :: d :: xs)))) : fSet (.cell N) (.int 2) d κ P := by rw [se_2 e]; exact h
theorem f_it0 (h : Q d κ) : fIx (.node .tup (d :: xs)) (.int 0) κ Q := by rw [ix_tup, at_0]; exact h
theorem f_it1 (h : Q d κ) : fIx (.node .tup (x :: d :: xs)) (.int 1) κ Q := by rw [ix_tup, at_1]; exact h
theorem f_it2 (h : Q d κ) : fIx (.node .tup (x :: y :: d :: xs)) (.int 2) κ Q := by rw [ix_tup, at_2]; exact h
theorem g_n0 {e0 : Option D} {l : DEnv} (h : QG (some d :: l) κ) : gN 0 d (e0 :: l) κ X QG := h
theorem g_n1 {e0 e1 : Option D} {l : DEnv} (h : QG (e0 :: some d :: l) κ) : gN 1 d (e0 :: e1 :: l) κ X QG := h
theorem g_n2 {e0 e1 e2 : Option D} {l : DEnv} (h : QG (e0 :: e1 :: some d :: l) κ) : gN 2 d (e0 :: e1 :: e2 :: l) κ X QG := h
theorem g_n3 {e0 e1 e2 e3 : Option D} {l : DEnv} (h : QG (e0 :: e1 :: e2 :: some d :: l) κ) : gN 3 d (e0 :: e1 :: e2 :: e3 :: l) κ X QG := h
theorem g_n4 {e0 e1 e2 e3 e4 : Option D} {l : DEnv} (h : QG (e0 :: e1 :: e2 :: e3 :: some d :: l) κ) : gN 4 d (e0 :: e1 :: e2 :: e3 :: e4 :: l) κ X QG := h
theorem g_n5 {e0 e1 e2 e3 e4 e5 : Option D} {l : DEnv} (h : QG (e0 :: e1 :: e2 :: e3 :: e4 :: some d :: l) κ) : gN 5 d (e0 :: e1 :: e2 :: e3 :: e4 :: e5 :: l) κ X QG := h
theorem g_n6 {e0 e1 e2 e3 e4 e5 e6 : Option D} {l : DEnv} (h : QG (e0 :: e1 :: e2 :: e3 :: e4 :: e5 :: some d :: l) κ) : gN 6 d (e0 :: e1 :: e2 :: e3 :: e4 :: e5 :: e6 :: l) κ X QG := h
theorem g_n7 {e0 e1 e2 e3 e4 e5 e6 e7 : Option D} {l : DEnv} (h : QG (e0 :: e1 :: e2 :: e3 :: e4 :: e5 :: e6 :: some d :: l) κ) : gN 7 d (e0 :: e1 :: e2 :: e3 :: e4 :: e5 :: e6 :: e7 :: l) κ X QG := h
theorem g_n8 {e0 e1 e2 e3 e4 e5 e6 e7 e8 : Option D} {l : DEnv} (h : QG (e0 :: e1 :: e2 :: e3 :: e4 :: e5 :: e6 :: e7 :: some d :: l) κ) : gN 8 d (e0 :: e1 :: e2 :: e3 :: e4 :: e5 :: e6 :: e7 :: e8 :: l) κ X QG := h
theorem g_n9 {e0 e1 e2 e3 e4 e5 e6 e7 e8 e9 : Option D} {l : DEnv} (h : QG (e0 :: e1 :: e2 :: e3 :: e4 :: e5 :: e6 :: e7 :: e8 :: some d :: l) κ) : gN 9 d (e0 :: e1 :: e2 :: e3 :: e4 :: e5 :: e6 :: e7 :: e8 :: e9 :: l) κ X QG := h
theorem g_n10 {e0 e1 e2 e3 e4 e5 e6 e7 e8 e9 e10 : Option D} {l : DEnv} (h : QG (e0 :: e1 :: e2 :: e3 :: e4 :: e5 :: e6 :: e7 :: e8 :: e9 :: some d :: l) κ) : gN 10 d (e0 :: e1 :: e2 :: e3 :: e4 :: e5 :: e6 :: e7 :: e8 :: e9 :: e10 :: l) κ X QG := h
theorem g_n11 {e0 e1 e2 e3 e4 e5 e6 e7 e8 e9 e10 e11 : Option D} {l : DEnv} (h : QG (e0 :: e1 :: e2 :: e3 :: e4 :: e5 :: e6 :: e7 :: e8 :: e9 :: e10 :: some d :: l) κ) : gN 11 d (e0 :: e1 :: e2 :: e3 :: e4 :: e5 :: e6 :: e7 :: e8 :: e9 :: e10 :: e11 :: l) κ X QG := h
theorem g_n12 {e0 e1 e2 e3 e4 e5 e6 e7 e8 e9 e10 e11 e12 : Option D} {l : DEnv} (h : QG (e0 :: e1 :: e2 :: e3 :: e4 :: e5 :: e6 :: e7 :: e8 :: e9 :: e10 :: e11 :: some d :: l) κ) : gN 12 d (e0 :: e1 :: e2 :: e3 :: e4 :: e5 :: e6 :: e7 :: e8 :: e9 :: e10 :: e11 :: e12 :: l) κ X QG := h
theorem g_n13 {e0 e1 e2 e3 e4 e5 e6 e7 e8 e9 e10 e11 e12 e13 : Option D} {l : DEnv} (h : QG (e0 :: e1 :: e2 :: e3 :: e4 :: e5 :: e6 :: e7 :: e8 :: e9 :: e10 :: e11 :: e12 :: some d :: l) κ) : gN 13 d (e0 :: e1 :: e2 :: e3 :: e4 :: e5 :: e6 :: e7 :: e8 :: e9 :: e10 :: e11 :: e12 :: e13 :: l) κ X QG := h
theorem g_n14 {e0 e1 e2 e3 e4 e5 e6 e7 e8 e9 e10 e11 e12 e13 e14 : Option D} {l : DEnv} (h : QG (e0 :: e1 :: e2 :: e3 :: e4 :: e5 :: e6 :: e7 :: e8 :: e9 :: e10 :: e11 :: e12 :: e13 :: some d :: l) κ) : gN 14 d (e0 :: e1 :: e2 :: e3 :: e4 :: e5 :: e6 :: e7 :: e8 :: e9 :: e10 :: e11 :: e12 :: e13 :: e14 :: l) κ X QG := h
theorem g_n15 {e0 e1 e2 e3 e4 e5 e6 e7 e8 e9 e10 e11 e12 e13 e14 e15 : Option D} {l : DEnv} (h : QG (e0 :: e1 :: e2 :: e3 :: e4 :: e5 :: e6 :: e7 :: e8 :: e9 :: e10 :: e11 :: e12 :: e13 :: e14 :: some d :: l) κ) : gN 15 d (e0 :: e1 :: e2 :: e3 :: e4 :: e5 :: e6 :: e7 :: e8 :: e9 :: e10 :: e11 :: e12 :: e13 :: e14 :: e15 :: l) κ X QG := h
theorem g_n16 {e0 e1 e2 e3 e4 e5 e6 e7 e8 e9 e10 e11 e12 e13 e14 e15 e16 : Option D} {l : DEnv} (h : QG (e0 :: e1 :: e2 :: e3 :: e4 :: e5 :: e6 :: e7 :: e8 :: e9 :: e10 :: e11 :: e12 :: e13 :: e14 :: e15 :: some d :: l) κ) : gN 16 d (e0 :: e1 :: e2 :: e3 :: e4 :: e5 :: e6 :: e7 :: e8 :: e9 :: e10 :: e11 :: e12 :: e13 :: e14 :: e15 :: e16 :: l) κ X QG := h
theorem g_n17 {e0 e1 e2 e3 e4 e5 e6 e7 e8 e9 e10 e11 e12 e13 e14 e15 e16 e17 : Option D} {l : DEnv} (h : QG (e0 :: e1 :: e2 :: e3 :: e4 :: e5 :: e6 :: e7 :: e8 :: e9 :: e10 :: e11 :: e12 :: e13 :: e14 :: e15 :: e16 :: some d :: l) κ) : gN 17 d (e0 :: e1 :: e2 :: e3 :: e4 :: e5 :: e6 :: e7 :: e8 :: e9 :: e10 :: e11 :: e12 :: e13 :: e14 :: e15 :: e16 :: e17 :: l) κ X QG := h
theorem g_n18 {e0 e1 e2 e3 e4 e5 e6 e7 e8 e9 e10 e11 e12 e13 e14 e15 e16 e17 e18 : Option D} {l : DEnv} (h : QG (e0 :: e1 :: e2 :: e3 :: e4 :: e5 :: e6 :: e7 :: e8 :: e9 :: e10 :: e11 :: e12 :: e13 :: e14 :: e15 :: e16 :: e17 :: some d :: l) κ) : gN 18 d (e0 :: e1 :: e2 :: e3 :: e4 :: e5 :: e6 :: e7 :: e8 :: e9 :: e10 :: e11 :: e12 :: e13 :: e14 :: e15 :: e16 :: e17 :: e18 :: l) κ X QG := h
theorem g_n19 {e0 e1 e2 e3 e4 e5 e6 e7 e8 e9 e10 e11 e12 e13 e14 e15 e16 e17 e18 e19 : Option D} {l : DEnv} (h : QG (e0 :: e1 :: e2 :: e3 :: e4 :: e5 :: e6 :: e7 :: e8 :: e9 :: e10 :: e11 :: e12 :: e13 :: e14 :: e15 :: e16 :: e17 :: e18 :: some d :: l) κ) : gN 19 d (e0 :: e1 :: e2 :: e3 :: e4 :: e5 :: e6 :: e7 :: e8 :: e9 :: e10 :: e11 :: e12 :: e13 :: e14 :: e15 :: e16 :: e17 :: e18 :: e19 :: l) κ X QG := h
theorem g_n20 {e0 e1 e2 e3 e4 e5 e6 e7 e8 e9 e10 e11 e12 e13 e14 e15 e16 e17 e18 e19 e20 : Option D} {l : DEnv} (h : QG (e0 :: e1 :: e2 :: e3 :: e4 :: e5 :: e6 :: e7 :: e8 :: e9 :: e10 :: e11 :: e12 :: e13 :: e14 :: e15 :: e16 :: e17 :: e18 :: e19 :: some d :: l) κ) : gN 20 d (e0 :: e1 :: e2 :: e3 :: e4 :: e5 :: e6 :: e7 :: e8 :: e9 :: e10 :: e11 :: e12 :: e13 :: e14 :: e15 :: e16 :: e17 :: e18 :: e19 :: e20 :: l) κ X QG := h
theorem g_n21 {e0 e1 e2 e3 e4 e5 e6 e7 e8 e9 e10 e11 e12 e13 e14 e15 e16 e17 e18 e19 e20 e21 : Option D} {l : DEnv} (h : QG (e0 :: e1 :: e2 :: e3 :: e4 :: e5 :: e6 :: e7 :: e8 :: e9 :: e10 :: e11 :: e12 :: e13 :: e14 :: e15 :: e16 :: e17 :: e18 :: e19 :: e20 :: some d :: l) κ) : gN 21 d (e0 :: e1 :: e2 :: e3 :: e4 :: e5 :: e6 :: e7 :: e8 :: e9 :: e10 :: e11 :: e12 :: e13 :: e14 :: e15 :: e16 :: e17 :: e18 :: e19 :: e20 :: e21 :: l) κ X QG := h
theorem g_n22 {e0 e1 e2 e3 e4 e5 e6 e7 e8 e9 e10 e11 e12 e13 e14 e15 e16 e17 e18 e19 e20 e21 e22 : Option D} {l : DEnv} (h : QG (e0 :: e1 :: e2 :: e3 :: e4 :: e5 :: e6 :: e7 :: e8 :: e9 :: e10 :: e11 :: e12 :: e13 :: e14 :: e15 :: e16 :: e17 :: e18 :: e19 :: e20 :: e21 :: some d :: l) κ) : gN 22 d (e0 :: e1 :: e2 :: e3 :: e4 :: e5 :: e6 :: e7 :: e8 :: e9 :: e10 :: e11 :: e12 :: e13 :: e14 :: e15 :: e16 :: e17 :: e18 :: e19 :: e20 :: e21 :: e22 :: l) κ X QG := h
theorem g_n23 {e0 e1 e2 e3 e4 e5 e6 e7 e8 e9 e10 e11 e12 e13 e14 e15 e16 e17 e18 e19 e20 e21 e22 e23 : Option D} {l : DEnv} (h : QG (e0 :: e1 :: e2 :: e3 :: e4 :: e5 :: e6 :: e7 :: e8 :: e9 :: e10 :: e11 :: e12 :: e13 :: e14 :: e15 :: e16 :: e17 :: e18 :: e19 :: e20 :: e21 :: e22 :: some d :: l) κ) : gN 23 d (e0 :: e1 :: e2 :: e3 :: e4 :: e5 :: e6 :: e7 :: e8 :: e9 :: e10 :: e11 :: e12 :: e13 :: e14 :: e15 :: e16 :: e17 :: e18 :: e19 :: e20 :: e21 :: e22 :: e23 :: l) κ X QG := h
end
end DL

/-! DT: texts of a bounded length, of code points. -/
namespace DL
open PySem PySem.Spec PyProof.Rows L2
def Tx (n : Nat) (x : Str) : Prop := x.length ≤ n ∧ ∀ c ∈ x.cps.toList, c < 0x110000
theorem Tx.mono {n m : Nat} {x : Str} (h : Tx n x) (hm : n ≤ m) : Tx m x := ⟨Nat.le_trans h.1 hm, h.2⟩
theorem Tx.app {n m : Nat} {x y : Str} (h : Tx n x) (h' : Tx m y) : Tx (n + m) (x ++ y) := ⟨by
    rw [len_app]
    exact Nat.add_le_add h.1 h'.1, fun c hc => by
    have e : (x ++ y).cps.toList = x.cps.toList ++ y.cps.toList := Array.toList_append
    rw [e] at hc
    rcases List.mem_append.mp hc with hc | hc
    · exact h.2 c hc
    · exact h'.2 c hc⟩
theorem Tx.cut {n : Nat} {x : Str} (h : Tx n x) (p q : Option Int) : Tx n (cutS x p q) := ⟨Nat.le_trans (len_cut x p q) h.1, fun c hc => by
    have e : (cutS x p q).cps.toList = (x.cps.toList.drop (HT.sIx x.length 0 p)).take (HT.sIx x.length x.length q - HT.sIx x.length 0 p) := rfl
    rw [e] at hc
    exact h.2 c (List.drop_subset _ _ (List.take_subset _ _ hc))⟩
theorem Tx.one {c : Nat} (h : c < 0x110000) : Tx 1 ⟨#[c]⟩ := ⟨Nat.le_refl _, fun d hd => by
    have : d ∈ [c] := hd
    rw [List.mem_singleton.mp this]
    exact h⟩
theorem Tx.of {n : Nat} (s : String) (h : (Str.ofString s).length ≤ n) : Tx n (Str.ofString s) := ⟨h, fun c hc => by
    rw [PySem.Str.ofString_eq_toList] at hc
    have hc' : c ∈ s.toList.map Char.toNat := hc
    obtain ⟨ch, _, rfl⟩ := List.mem_map.mp hc'
    rcases ch.valid with h | ⟨_, h⟩
    · exact Nat.lt_trans h (by decide)
    · exact h⟩
theorem Tx.num {i : Int} (h : i.natAbs.log2 < 1920) : Tx 1921 (toString i : String) := Tx.of _ (PyProof.Rows.int_text_len_1921 h)
theorem Tx.emp : Tx 0 (Str.ofString "") := Tx.of _ (by rw [len_emp]; exact Nat.le_refl _)
theorem Tx.join {n : Nat} : ∀ {ys : List Str}, (∀ y ∈ ys, Tx n y) → Tx (ys.length * n) (Str.join "" ys)
  | [], _ => Tx.emp.mono (Nat.zero_le _)
  | [x], h => by
    have := h x List.mem_cons_self
    exact this.mono (by simp)
  | x :: y :: r, h => by
    have h1 := h x List.mem_cons_self
    have h2 := Tx.join (ys := y :: r) fun z hz => h z (List.mem_cons_of_mem _ hz)
    have := (h1.app Tx.emp).app h2
    exact this.mono (by simp only [List.length_cons, Nat.add_mul, Nat.one_mul]; omega)
theorem Tx.joinT {n : Nat} {ys : List Str} (h : ∀ y ∈ ys, Tx n y) : Tx (ys.length * n) (Txt.join (Str.ofString "") ys) := by
  rw [TL.join_eq]
  exact Tx.join h
theorem Tx.sum {n : Nat} : ∀ {ys : List Str}, (∀ y ∈ ys, Tx n y) → (ys.map (·.length)).sum ≤ ys.length * n
  | [], _ => Nat.zero_le _
  | y :: ys, h => by
    have h1 := (h y List.mem_cons_self).1
    have h2 := Tx.sum (ys := ys) fun z hz => h z (List.mem_cons_of_mem _ hz)
    rw [List.map_cons, List.sum_cons, List.length_cons, Nat.add_mul, Nat.one_mul]
    omega
theorem Tx.shaped {n : Nat} {x : Str} (h : Tx n x) : SeqAt.shaped (.str x) = true := by
  have : PyData.strOk x = true := by
    unfold PyData.strOk
    rw [Array.all_eq_true']
    intro c hc
    exact decide_eq_true (h.2 c (Array.mem_toList_iff.mpr hc))
  show ((PyData.strOk x) && decide _) = true
  rw [this]
  rfl
theorem shaped_strs {n : Nat} : ∀ {ys : List Str}, (∀ y ∈ ys, Tx n y) → SeqAt.shaped (.list (ys.map PyData.str)) = true := by
  intro ys h
  have h1 : ∀ ys : List Str, (∀ y ∈ ys, Tx n y) → PyData.canLayAll0 (ys.map PyData.str) = true ∧ PyData.depthAll (ys.map PyData.str) = 0 := by
    intro ys
    induction ys with
    | nil => intro _; exact ⟨rfl, rfl⟩
    | cons y ys ih =>
      intro h
      obtain ⟨a, b⟩ := ih fun z hz => h z (List.mem_cons_of_mem _ hz)
      have hy := h y List.mem_cons_self
      have : PyData.strOk y = true := by
        unfold PyData.strOk
        rw [Array.all_eq_true']
        intro c hc
        exact decide_eq_true (hy.2 c (Array.mem_toList_iff.mpr hc))
      refine ⟨?_, ?_⟩
      · show (PyData.strOk y && PyData.canLayAll0 (ys.map PyData.str)) = true
        rw [this, a]
        rfl
      · show max 0 (PyData.depthAll (ys.map PyData.str)) = 0
        rw [b]
        rfl
  obtain ⟨a, b⟩ := h1 ys h
  show (PyData.canLayAll0 (ys.map PyData.str) && decide (PyData.depthAll (ys.map PyData.str) + 1 ≤ 64)) = true
  rw [a, b]
  rfl
theorem pdata_strs (ys : List Str) : pdata (.node .lst (ys.map D.str)) = some (.list (ys.map PyData.str)) := by
  have : pdataL (ys.map D.str) = some (ys.map PyData.str) := by
    induction ys with
    | nil => rfl
    | cons y ys ih =>
      show (match pdata (.str y), pdataL (ys.map D.str) with
        | some p, some ps => some (p :: ps)
        | _, _ => none) = _
      rw [ih]
      rfl
  show (match pdataL (ys.map D.str) with
    | some ps => some (PyData.list ps)
    | none => none) = _
  rw [this]
/-- a list of texts, asked whether it is empty -/
theorem eq_none {n : Nat} {ys : List Str} {κ : Kap} {Q : DQ} (h : ∀ y ∈ ys, Tx n y) (q : Q (.bl ys.isEmpty) κ) : fEq (.node .lst (ys.map D.str)) (.node .lst []) κ Q := by
  refine eq_dat (pdata_strs ys) (q := .list []) rfl (shaped_strs h) rfl ?_
  cases ys <;> exact q
/-- a sign of a text -/
theorem Tx.at {n : Nat} {x : Str} {i : Int} (h : Tx n x) (h0 : 0 ≤ i) (h1 : i < x.length) : ∃ c, atI x.cps.toList i = some c ∧ Tx 1 ⟨#[c]⟩ := by
  obtain ⟨c, e, hc⟩ := at_of (xs := x.cps.toList) h0 (by rw [Array.length_toList]; exact h1)
  exact ⟨c, e, .one (h.2 c hc)⟩
theorem f_ixS {n : Nat} {x : Str} {i : Int} {κ : Kap} {Q : DQ} (h : Tx n x) (hn : n ≤ 16777216) (h0 : 0 ≤ i) (h1 : i < x.length) (q : ∀ c, Tx 1 ⟨#[c]⟩ → Q (.str ⟨#[c]⟩) κ) : fIx (.str x) (.int i) κ Q := by
  obtain ⟨c, e, hc⟩ := h.at h0 h1
  exact ⟨Nat.le_trans h.1 hn, c, e, q c hc⟩
theorem f_adT {n m : Nat} {z v : Str} {k : Bool} {κ : Kap} {Q : DQ} (h : Tx n z) (h' : Tx m v) (hs : n + m ≤ 16777216) (q : Tx (n + m) (z ++ v) → Q (.str (z ++ v)) κ) : fAdd k (.str z) (.str v) κ Q :=
  ⟨by have h1 := h.1; have h2 := h'.1; unfold sizeLine; omega, q (h.app h')⟩
theorem f_slT {n : Nat} {z : Str} {k : Bool} {u v : Option Int} {κ : Kap} {Q : DQ} (h : Tx n z) (hs : n ≤ 16777216) (q : Tx n (cutS z u v) → Q (.str (cutS z u v)) κ) : fSl k (.str z) u v κ Q :=
  ⟨Nat.le_trans h.1 hs, q (h.cut u v)⟩
theorem f_lnTx {n : Nat} {z : Str} {κ : Kap} {Q : DQ} (h : Tx n z) (hs : n ≤ 16777216) (q : z.length ≤ n → Q (.int (z.length : Nat)) κ) : fLen [.str z] κ Q := ⟨Nat.le_trans h.1 hs, q h.1⟩
theorem f_join {n : Nat} {ys : List Str} {κ : Kap} {Q : DQ} (h : ∀ y ∈ ys, Tx n y) (hn : ys.length * n ≤ 16777216) (q : ∀ x, Tx (ys.length * n) x → Q (.str x) κ) : fJoin (.str (Str.ofString "")) (.node .lst (ys.map D.str)) κ Q :=
  ⟨ys, .inl rfl, by rw [len_emp]; have := Tx.sum h; omega, q _ (Tx.joinT h)⟩
end DL

/-! DN: numbers as tops and bases. -/
namespace DL
open PySem PySem.Spec PyProof.Rows L2
/-! texts of data -/
theorem Tx.list {n : Nat} {ts : List Str} (h : ∀ t ∈ ts, Tx n t) : Tx (ts.length * (n + 2) + 2) (listText ts) := by
  have t1 : Tx 1 (Str.ofString "[") := .of _ (by decide +kernel)
  have t2 : Tx 1 (Str.ofString "]") := .of _ (by decide +kernel)
  have t3 : Tx 2 (Str.ofString ", ") := .of _ (by decide +kernel)
  have go : ∀ (ts : List Str) (k : Nat) (acc : Str) (m : Nat), (∀ t ∈ ts, Tx n t) → Tx m acc → Tx (m + ts.length * (n + 2)) (textFrom k acc ts) := by
    intro ts
    induction ts with
    | nil => intro k acc m _ ha; exact ha.mono (by simp)
    | cons t r ih =>
      intro k acc m ht ha
      have h1 := ht t List.mem_cons_self
      have h0 : Tx 2 (Str.ofString (if k > 0 then ", " else "")) := by
        split
        · exact t3
        · exact Tx.emp.mono (by decide)
      have := ih (k + 1) _ (m + 2 + n) (fun z hz => ht z (List.mem_cons_of_mem _ hz)) ((ha.app h0).app h1)
      refine this.mono ?_
      rw [List.length_cons, Nat.add_mul]
      omega
  exact ((go ts 0 _ 1 h t1).app t2).mono (by omega)
theorem Tx.joinC {n : Nat} : ∀ {ys : List Str}, (∀ y ∈ ys, Tx n y) → Tx (ys.length * (n + 2)) (Str.join ", " ys)
  | [], _ => Tx.emp.mono (Nat.zero_le _)
  | [x], h => (h x List.mem_cons_self).mono (by simp)
  | x :: y :: r, h => by
    have t3 : Tx 2 (Str.ofString ", ") := .of _ (by decide +kernel)
    have h1 := h x List.mem_cons_self
    have h2 := Tx.joinC (ys := y :: r) fun z hz => h z (List.mem_cons_of_mem _ hz)
    have := (h1.app t3).app h2
    exact this.mono (by simp only [List.length_cons, Nat.add_mul, Nat.one_mul]; omega)
theorem Tx.tuple {n : Nat} {ts : List Str} (h : ∀ t ∈ ts, Tx n t) : Tx (ts.length * (n + 2) + 3) (tupleText ts) := by
  have t1 : Tx 1 (Str.ofString "(") := .of _ (by decide +kernel)
  have t2 : Tx 2 (Str.ofString (if ts.length == 1 then ",)" else ")")) := by
    split
    · exact .of _ (by decide +kernel)
    · exact (Tx.of (n := 1) _ (by decide +kernel)).mono (by decide)
  exact ((t1.app (Tx.joinC h)).app t2).mono (by omega)
theorem shownAll_mem : ∀ {ps : List PyData} {t : Str}, t ∈ PyData.shownAll ps → ∃ p ∈ ps, t = p.shown
  | [], _, h => absurd h List.not_mem_nil
  | p :: ps, t, h => by
    rcases List.mem_cons.mp (show t ∈ p.shown :: PyData.shownAll ps from h) with h | h
    · exact ⟨p, List.mem_cons_self, h⟩
    · obtain ⟨q, hq, e⟩ := shownAll_mem h
      exact ⟨q, List.mem_cons_of_mem _ hq, e⟩
theorem shownAll_len : ∀ {ps : List PyData}, (PyData.shownAll ps).length = ps.length
  | [] => rfl
  | p :: ps => by
    show (p.shown :: PyData.shownAll ps).length = _
    rw [List.length_cons, List.length_cons, shownAll_len]
/-- data whose text is of a bounded length -/
def Sh (n : Nat) (p : PyData) : Prop := p.showable = true ∧ Tx n p.shown
theorem Sh.mono {n m : Nat} {p : PyData} (h : Sh n p) (hm : n ≤ m) : Sh m p := ⟨h.1, h.2.mono hm⟩
theorem Sh.int {i : Int} (h : i.natAbs.log2 < 1920) : Sh 1921 (.int i) := ⟨by
  show decide _ = true
  exact decide_eq_true h, Tx.num h⟩
theorem Sh.all {n : Nat} : ∀ {ps : List PyData}, (∀ p ∈ ps, Sh n p) → PyData.showableAll ps = true
  | [], _ => rfl
  | p :: ps, h => by
    show (p.showable && PyData.showableAll ps) = true
    rw [(h p List.mem_cons_self).1, Sh.all fun q hq => h q (List.mem_cons_of_mem _ hq)]
    rfl
theorem Sh.list {n : Nat} {ps : List PyData} (h : ∀ p ∈ ps, Sh n p) : Sh (ps.length * (n + 2) + 2) (.list ps) := ⟨Sh.all h, by
  show Tx _ (listText (PyData.shownAll ps))
  rw [← shownAll_len]
  exact Tx.list fun t ht => by
    obtain ⟨p, hp, rfl⟩ := shownAll_mem ht
    exact (h p hp).2⟩
theorem Sh.tuple {n : Nat} {ps : List PyData} (h : ∀ p ∈ ps, Sh n p) : Sh (ps.length * (n + 2) + 3) (.tuple ps) := ⟨Sh.all h, by
  show Tx _ (tupleText (PyData.shownAll ps))
  rw [← shownAll_len]
  exact Tx.tuple fun t ht => by
    obtain ⟨p, hp, rfl⟩ := shownAll_mem ht
    exact (h p hp).2⟩
theorem repr_sh {n : Nat} {x : D} {p : PyData} {κ : Kap} {Q : DQ} (hp : pdata x = some p) (h : Sh n p) (hn : n ≤ 16777216) (h2 : p.depth ≤ 60) (q : Tx n p.shown → Q (.str p.shown) κ) : fRepr [x] κ Q :=
  repr_of hp h.1 h2 (Nat.le_trans h.2.1 hn) (q h.2)
/-! shape of data -/
/-- data that compares: how deep at most -/
def Sp (k : Nat) (p : PyData) : Prop := p.canLay0 = true ∧ p.depth ≤ k
theorem Sp.mono {k m : Nat} {p : PyData} (h : Sp k p) (hm : k ≤ m) : Sp m p := ⟨h.1, Nat.le_trans h.2 hm⟩
theorem Sp.int {i : Int} : Sp 0 (.int i) := ⟨rfl, Nat.le_refl _⟩
theorem Sp.bool {b : Bool} : Sp 0 (.bool b) := ⟨rfl, Nat.le_refl _⟩
theorem Sp.none : Sp 0 .none := ⟨rfl, Nat.le_refl _⟩
theorem Sp.str {n : Nat} {x : Str} (h : Tx n x) : Sp 0 (.str x) := ⟨by
  show PyData.strOk x = true
  unfold PyData.strOk
  rw [Array.all_eq_true']
  intro c hc
  exact decide_eq_true (h.2 c (Array.mem_toList_iff.mpr hc)), Nat.le_refl _⟩
theorem Sp.all {k : Nat} : ∀ {ps : List PyData}, (∀ p ∈ ps, Sp k p) → PyData.canLayAll0 ps = true ∧ PyData.depthAll ps ≤ k
  | [], _ => ⟨rfl, Nat.zero_le _⟩
  | p :: ps, h => by
    obtain ⟨a, b⟩ := Sp.all fun q hq => h q (List.mem_cons_of_mem _ hq)
    obtain ⟨c, d⟩ := h p List.mem_cons_self
    refine ⟨?_, ?_⟩
    · show (p.canLay0 && PyData.canLayAll0 ps) = true
      rw [a, c]
      rfl
    · show max p.depth (PyData.depthAll ps) ≤ k
      omega
theorem Sp.list {k : Nat} {ps : List PyData} (h : ∀ p ∈ ps, Sp k p) : Sp (k + 1) (.list ps) := ⟨(Sp.all h).1, by
  show PyData.depthAll ps + 1 ≤ k + 1
  have := (Sp.all h).2
  omega⟩
theorem Sp.tuple {k : Nat} {ps : List PyData} (h : ∀ p ∈ ps, Sp k p) : Sp (k + 1) (.tuple ps) := ⟨(Sp.all h).1, by
  show PyData.depthAll ps + 1 ≤ k + 1
  have := (Sp.all h).2
  omega⟩
theorem Sp.shaped {k : Nat} {p : PyData} (h : Sp k p) (hk : k ≤ 64) : SeqAt.shaped p = true := by
  show (p.canLay0 && decide (p.depth ≤ 64)) = true
  rw [h.1, decide_eq_true (Nat.le_trans h.2 hk)]
  rfl
theorem pdataL_map {α : Type} {f : α → D} {g : α → PyData} (h : ∀ a, pdata (f a) = some (g a)) : ∀ l : List α, pdataL (l.map f) = some (l.map g)
  | [] => rfl
  | a :: l => by
    show (match pdata (f a), pdataL (l.map f) with
      | some p, some ps => some (p :: ps)
      | _, _ => none) = _
    rw [h a, pdataL_map h l]
    rfl
theorem pdata_list {xs : List D} {ps : List PyData} (h : pdataL xs = some ps) : pdata (.node .lst xs) = some (.list ps) := by
  show (match pdataL xs with
    | some ps => some (PyData.list ps)
    | none => none) = _
  rw [h]
theorem pdata_tup {xs : List D} {ps : List PyData} (h : pdataL xs = some ps) : pdata (.node .tup xs) = some (.tuple ps) := by
  show (match pdataL xs with
    | some ps => some (PyData.tuple ps)
    | none => none) = _
  rw [h]
theorem eqvAll_refl {ps : List PyData} (h : ∀ p ∈ ps, PyData.eqv p p = true) : PyData.eqvAll ps ps = true := by
  induction ps with
  | nil => rfl
  | cons p ps ih =>
    show (PyData.eqv p p && PyData.eqvAll ps ps) = true
    rw [h p List.mem_cons_self, ih fun q hq => h q (List.mem_cons_of_mem _ hq)]
    rfl

/-! the greatest common part -/
theorem gcd_step {x y : Nat} (h : y ≠ 0) : Nat.gcd y (x % y) = Nat.gcd x y := by
  rw [Nat.gcd_comm x y, Nat.gcd_rec y x, Nat.gcd_comm]
theorem abs_nat (i : Int) : (if i < 0 then -i else i) = (i.natAbs : Int) := by
  split <;> omega
/-- the part by which a number is shortened -/
def cpt (u l : Int) : Int := if l < 0 then 0 - (Int.gcd u l : Int) else (Int.gcd u l : Int)
theorem cpt_ne {u l : Int} (h : l ≠ 0) : cpt u l ≠ 0 := by
  have := Int.gcd_pos_of_ne_zero_right u h
  unfold cpt
  split <;> omega
def rtn (u l : Int) : Int := u.fdiv (cpt u l)
def rtd (u l : Int) : Int := l.fdiv (cpt u l)
theorem cpt_dvd_l (u l : Int) : cpt u l ∣ u := by
  unfold cpt
  split
  · rw [Int.zero_sub]
    exact Int.neg_dvd.mpr (Int.gcd_dvd_left ..)
  · exact Int.gcd_dvd_left ..
theorem cpt_dvd_r (u l : Int) : cpt u l ∣ l := by
  unfold cpt
  split
  · rw [Int.zero_sub]
    exact Int.neg_dvd.mpr (Int.gcd_dvd_right ..)
  · exact Int.gcd_dvd_right ..
theorem rtn_mul (u l : Int) : rtn u l * cpt u l = u := Int.fdiv_mul_cancel (cpt_dvd_l u l)
theorem rtd_mul (u l : Int) : rtd u l * cpt u l = l := Int.fdiv_mul_cancel (cpt_dvd_r u l)
/-- in lowest terms, the base above nought -/
def NOk (a b : Int) : Prop := 0 < b ∧ Int.gcd a b = 1
theorem NOk.one (a : Int) : NOk a 1 := ⟨by decide, by rw [Int.gcd_one_right]⟩
theorem rt_ok {u l : Int} (h : l ≠ 0) : NOk (rtn u l) (rtd u l) := by
  have hp := cpt_ne (u := u) h
  have e1 := rtn_mul u l
  have e2 := rtd_mul u l
  have hg := Int.gcd_pos_of_ne_zero_right u h
  have ha : (cpt u l).natAbs = Int.gcd u l := by unfold cpt; split <;> omega
  refine ⟨?_, ?_⟩
  · by_cases hl : l < 0
    · have hc : cpt u l < 0 := by unfold cpt; rw [if_pos hl]; omega
      rcases Int.lt_trichotomy 0 (rtd u l) with h1 | h1 | h1
      · exact h1
      · rw [← h1, Int.zero_mul] at e2; omega
      · have := Int.mul_pos_of_neg_of_neg h1 hc; omega
    · have hc : 0 < cpt u l := by unfold cpt; rw [if_neg hl]; omega
      rcases Int.lt_trichotomy 0 (rtd u l) with h1 | h1 | h1
      · exact h1
      · rw [← h1, Int.zero_mul] at e2; omega
      · have := Int.mul_neg_of_neg_of_pos h1 hc; omega
  · have e : Int.gcd (rtn u l * cpt u l) (rtd u l * cpt u l) = Int.gcd (rtn u l) (rtd u l) * (cpt u l).natAbs := Int.gcd_mul_right ..
    rw [e1, e2, ha] at e
    have : 1 * Int.gcd u l = Int.gcd (rtn u l) (rtd u l) * Int.gcd u l := by rw [Nat.one_mul]; exact e
    exact (Nat.eq_of_mul_eq_mul_right hg this).symm
theorem nat_uniq {a b c d : Nat} (hb : Nat.Coprime a b) (hd : Nat.Coprime c d) (h : a * d = c * b) : b = d := by
  have h1 : b ∣ d := by
    have : b ∣ a * d := ⟨c, by rw [h, Nat.mul_comm]⟩
    exact (Nat.Coprime.symm hb).dvd_of_dvd_mul_left this
  have h2 : d ∣ b := by
    have : d ∣ c * b := ⟨a, by rw [← h, Nat.mul_comm]⟩
    exact (Nat.Coprime.symm hd).dvd_of_dvd_mul_left this
  exact Nat.dvd_antisymm h1 h2
theorem NOk.uniq {a b c d : Int} (h : NOk a b) (h' : NOk c d) (e : a * d = c * b) : a = c ∧ b = d := by
  have hb : b = d := by
    have h1 : a.natAbs * d.natAbs = c.natAbs * b.natAbs := by rw [← Int.natAbs_mul, ← Int.natAbs_mul, e]
    have := nat_uniq (show Nat.Coprime a.natAbs b.natAbs from h.2) (show Nat.Coprime c.natAbs d.natAbs from h'.2) h1
    have h2 := h.1
    have h3 := h'.1
    omega
  subst hb
  exact ⟨Int.eq_of_mul_eq_mul_right (Int.ne_of_gt h.1) e, rfl⟩
theorem rt_cross {u l : Int} : rtn u l * l = u * rtd u l := by
  have e1 := rtn_mul u l
  have e2 := rtd_mul u l
  calc rtn u l * l = rtn u l * (rtd u l * cpt u l) := by rw [e2]
    _ = rtn u l * cpt u l * rtd u l := by rw [Int.mul_comm (rtd u l), Int.mul_assoc]
    _ = u * rtd u l := by rw [e1]
/-- what is shortened to the same -/
theorem rt_is {u l a b : Int} (hl : l ≠ 0) (h : NOk a b) (e : a * l = u * b) : rtn u l = a ∧ rtd u l = b := by
  refine (rt_ok hl).uniq h ?_
  have h1 := rt_cross (u := u) (l := l)
  have h3 : (rtn u l * b) * l = (a * rtd u l) * l := by
    calc (rtn u l * b) * l = (rtn u l * l) * b := by rw [Int.mul_assoc, Int.mul_comm b l, ← Int.mul_assoc]
      _ = u * rtd u l * b := by rw [h1]
      _ = u * b * rtd u l := by rw [Int.mul_assoc, Int.mul_comm (rtd u l) b, ← Int.mul_assoc]
      _ = a * l * rtd u l := by rw [e]
      _ = (a * rtd u l) * l := by rw [Int.mul_assoc, Int.mul_comm l (rtd u l), ← Int.mul_assoc]
  exact Int.eq_of_mul_eq_mul_right hl h3
theorem rt_self {a b : Int} (h : NOk a b) : rtn a b = a ∧ rtd a b = b := rt_is (Int.ne_of_gt h.1) h rfl
theorem rt_one (a : Int) : rtn a 1 = a ∧ rtd a 1 = 1 := rt_self (.one a)
theorem rt_zero {l : Int} (h : l ≠ 0) : rtn 0 l = 0 ∧ rtd 0 l = 1 := rt_is h (.one 0) (by simp)
theorem rt_mul {u l p : Int} (hl : l ≠ 0) (hp : p ≠ 0) : rtn (u * p) (l * p) = rtn u l ∧ rtd (u * p) (l * p) = rtd u l := by
  refine rt_is (Int.mul_ne_zero hl hp) (rt_ok hl) ?_
  rw [← Int.mul_assoc, rt_cross, Int.mul_assoc, Int.mul_comm (rtd u l) p, ← Int.mul_assoc]
theorem abs_le_of_mul {a p u : Int} (e : a * p = u) (hp : p ≠ 0) : a.natAbs ≤ u.natAbs := by
  rw [← e, Int.natAbs_mul]
  exact Nat.le_mul_of_pos_right _ (by omega)
theorem rtn_le {u l : Int} (h : l ≠ 0) : (rtn u l).natAbs ≤ u.natAbs := abs_le_of_mul (rtn_mul u l) (cpt_ne h)
theorem rtd_le {u l : Int} (h : l ≠ 0) : (rtd u l).natAbs ≤ l.natAbs := abs_le_of_mul (rtd_mul u l) (cpt_ne h)
/-- a number, as it stands in the program -/
def nb (a b : Int) : D := if b = 1 then .int a else .node .tup [.int a, .int b]
def nbP (a b : Int) : PyData := if b = 1 then .int a else .tuple [.int a, .int b]
theorem nb_1 (a : Int) : nb a 1 = .int a := rfl
theorem nb_p {a b : Int} (h : b ≠ 1) : nb a b = .node .tup [.int a, .int b] := if_neg h
theorem nb_pdata (a b : Int) : pdata (nb a b) = some (nbP a b) := by
  unfold nb nbP
  split <;> rfl
theorem nbP_sp (a b : Int) : Sp 1 (nbP a b) := by
  unfold nbP
  split
  · exact Sp.int.mono (by decide)
  · exact Sp.tuple (k := 0) fun p hp => by
      simp only [List.mem_cons, List.not_mem_nil, or_false] at hp
      rcases hp with rfl | rfl <;> exact Sp.int
theorem nbP_sh {a b : Int} (ha : a.natAbs.log2 < 1920) (hb : b.natAbs.log2 < 1920) : Sh 3850 (nbP a b) := by
  unfold nbP
  split
  · exact (Sh.int ha).mono (by decide)
  · exact (Sh.tuple (n := 1921) fun p hp => by
      simp only [List.mem_cons, List.not_mem_nil, or_false] at hp
      rcases hp with rfl | rfl
      · exact Sh.int ha
      · exact Sh.int hb).mono (by simp only [List.length_cons, List.length_nil]; decide)
theorem eqv_int (a b : Int) : PyData.eqv (.int a) (.int b) = decide (a = b) := by
  show (a == b) = _
  by_cases h : a = b <;> simp [h]
theorem eqv_pair (a b c d : Int) : PyData.eqv (.tuple [.int a, .int b]) (.tuple [.int c, .int d]) = (decide (a = c) && decide (b = d)) := by
  show (PyData.eqv (.int a) (.int c) && (PyData.eqv (.int b) (.int d) && true)) = _
  rw [eqv_int, eqv_int, Bool.and_true]
theorem nbP_eqv {a b c d : Int} : PyData.eqv (nbP a b) (nbP c d) = decide (a = c ∧ b = d) := by
  unfold nbP
  by_cases hb : b = 1
  · by_cases hd : d = 1
    · rw [if_pos hb, if_pos hd, eqv_int, hb, hd]
      simp
    · rw [if_pos hb, if_neg hd]
      show false = _
      rw [decide_eq_false]
      omega
  · by_cases hd : d = 1
    · rw [if_neg hb, if_pos hd]
      show false = _
      rw [decide_eq_false]
      omega
    · rw [if_neg hb, if_neg hd, eqv_pair]
      simp
theorem f_eqN {a b c d : Int} {κ : Kap} {Q : DQ} (h : Q (.bl (decide (a = c ∧ b = d))) κ) : fEq (nb a b) (nb c d) κ Q :=
  eq_dat (nb_pdata a b) (nb_pdata c d) ((nbP_sp a b).shaped (by decide)) ((nbP_sp c d).shaped (by decide)) (by rw [nbP_eqv]; exact h)
theorem f_eqP {a b c d : Int} {κ : Kap} {Q : DQ} (h : Q (.bl (decide (a = c ∧ b = d))) κ) : fEq (.node .tup [.int a, .int b]) (.node .tup [.int c, .int d]) κ Q := by
  have sp : ∀ a b : Int, SeqAt.shaped (.tuple [.int a, .int b]) = true := fun a b => (Sp.tuple (k := 0) fun p hp => by
    simp only [List.mem_cons, List.not_mem_nil, or_false] at hp
    rcases hp with rfl | rfl <;> exact Sp.int).shaped (by decide)
  refine eq_dat (p := .tuple [.int a, .int b]) (q := .tuple [.int c, .int d]) rfl rfl (sp _ _) (sp _ _) ?_
  rw [eqv_pair, ← Bool.decide_and]
  exact h
theorem f_neN {a b c d : Int} {κ : Kap} {Q : DQ} (h : Q (.bl (!decide (a = c ∧ b = d))) κ) : fNe (nb a b) (nb c d) κ Q :=
  ne_dat (nb_pdata a b) (nb_pdata c d) ((nbP_sp a b).shaped (by decide)) ((nbP_sp c d).shaped (by decide)) (by rw [nbP_eqv]; exact h)
theorem NOk.zero {a b : Int} (h : NOk a b) : (a = 0 ∧ b = 1) ↔ a = 0 := ⟨fun h => h.1, fun e => ⟨e, by
  have h2 := h.2
  have h1 := h.1
  rw [e, Int.gcd_zero_left] at h2
  omega⟩⟩
theorem f_ne0 {a b : Int} {κ : Kap} {Q : DQ} (n : NOk a b) (h : Q (.bl (!decide (a = 0))) κ) : fNe (nb a b) (.int 0) κ Q := by
  refine f_neN (c := 0) (d := 1) ?_
  rw [decide_eq_decide.mpr n.zero]
  exact h
theorem f_eqNL {ps qs : List (Int × Int)} {κ : Kap} {Q : DQ} (h : Q (.bl (PyData.eqvAll (ps.map fun p => nbP p.1 p.2) (qs.map fun p => nbP p.1 p.2))) κ) : fEq (.node .lst (ps.map fun p => nb p.1 p.2)) (.node .lst (qs.map fun p => nb p.1 p.2)) κ Q := by
  have sp : ∀ l : List (Int × Int), SeqAt.shaped (.list (l.map fun p => nbP p.1 p.2)) = true := fun l => (Sp.list (k := 1) fun p hp => by
    obtain ⟨q, _, rfl⟩ := List.mem_map.mp hp
    exact nbP_sp _ _).shaped (by decide)
  exact eq_dat (pdata_list (pdataL_map (fun p => nb_pdata p.1 p.2) ps)) (pdata_list (pdataL_map (fun p => nb_pdata p.1 p.2) qs)) (sp ps) (sp qs) h
theorem repr_nbL {ps : List (Int × Int)} {κ : Kap} {Q : DQ} (hn : ps.length ≤ 4000) (hp : ∀ p ∈ ps, p.1.natAbs.log2 < 1920 ∧ p.2.natAbs.log2 < 1920) (q : ∀ x, x = (PyData.list (ps.map fun p => nbP p.1 p.2)).shown → Tx 16777216 x → Q (.str x) κ) : fRepr [.node .lst (ps.map fun p => nb p.1 p.2)] κ Q := by
  have h : Sh ((ps.map fun p => nbP p.1 p.2).length * (3850 + 2) + 2) (.list (ps.map fun p => nbP p.1 p.2)) := Sh.list fun p hp' => by
    obtain ⟨q, hq, rfl⟩ := List.mem_map.mp hp'
    exact nbP_sh (hp q hq).1 (hp q hq).2
  rw [List.length_map] at h
  have hd : (PyData.list (ps.map fun p => nbP p.1 p.2)).depth ≤ 60 := Nat.le_trans (Sp.list (k := 1) fun p hp => by
    obtain ⟨q, _, rfl⟩ := List.mem_map.mp hp
    exact nbP_sp _ _).2 (by decide)
  exact repr_sh (pdata_list (pdataL_map (fun p => nb_pdata p.1 p.2) ps)) h (by omega) hd fun t => q _ rfl (t.mono (by omega))
/-! calls by keywords -/
section
variable {δ : DEnv} {κ : Kap} {X : DX} {Q : DQ} {as kw : DA} {sp : DSp} {n m : Nat} {is : List Nat} {dds : List D}
theorem e_callC (h : as δ κ X fun xs κ1 => kw δ κ1 X fun ys κ2 => cC sp n m is dds xs ys κ2 (X δ) Q) : dCallC sp n m is dds as kw δ κ X Q := h
theorem c_C {xs ys zs : List D} {Y : Str → List D → Kap → Prop} (h1 : xs.length = n) (h2 : ys.length = m) (h3 : pick is (xs ++ (ys ++ dds)) = zs) (h : sp zs κ Y Q) : cC sp n m is dds xs ys κ Y Q := ⟨h1, h2, by rw [h3]; exact h⟩
end
end DL
namespace DL
open PySem PySem.Spec PyProof.Rows L2
/-- a number in lowest terms, of a bounded size -/
structure Nd (k : Nat) (a b : Int) : Prop where
  ok : NOk a b
  tb : a.natAbs < 2 ^ k
  bb : b.natAbs < 2 ^ k
theorem Nd.mono {k m : Nat} {a b : Int} (h : Nd k a b) (hm : k ≤ m) : Nd m a b :=
  ⟨h.ok, Nat.lt_of_lt_of_le h.tb (Nat.pow_le_pow_right (by decide) hm), Nat.lt_of_lt_of_le h.bb (Nat.pow_le_pow_right (by decide) hm)⟩
theorem Nd.rt {k : Nat} {u l : Int} (hl : l ≠ 0) (h1 : u.natAbs < 2 ^ k) (h2 : l.natAbs < 2 ^ k) : Nd k (rtn u l) (rtd u l) :=
  ⟨rt_ok hl, Nat.lt_of_le_of_lt (rtn_le hl) h1, Nat.lt_of_le_of_lt (rtd_le hl) h2⟩
theorem mul_bd {i j : Int} {a b : Nat} (h : i.natAbs < 2 ^ a) (h' : j.natAbs < 2 ^ b) : (i * j).natAbs < 2 ^ (a + b) := by
  rw [Int.natAbs_mul, Nat.pow_add]
  exact Nat.mul_lt_mul'' h h'
theorem add_bd {i j : Int} {a : Nat} (h : i.natAbs < 2 ^ a) (h' : j.natAbs < 2 ^ a) : (i + j).natAbs < 2 ^ (a + 1) := by
  have := Int.natAbs_add_le i j
  rw [Nat.pow_succ]
  omega
theorem sub_bd {i j : Int} {a : Nat} (h : i.natAbs < 2 ^ a) (h' : j.natAbs < 2 ^ a) : (i - j).natAbs < 2 ^ (a + 1) := by
  have := Int.natAbs_sub_le i j
  rw [Nat.pow_succ]
  omega
theorem bd_mono {i : Int} {a b : Nat} (h : i.natAbs < 2 ^ a) (hm : a ≤ b) : i.natAbs < 2 ^ b := Nat.lt_of_lt_of_le h (Nat.pow_le_pow_right (by decide) hm)
theorem Nd.b0 {k : Nat} {a b : Int} (h : Nd k a b) : b ≠ 0 := Int.ne_of_gt h.ok.1
/-- sums and differences, products and quotients -/
def pN (a b c d : Int) : Int := rtn (a * d + c * b) (b * d)
def pD (a b c d : Int) : Int := rtd (a * d + c * b) (b * d)
def mN (a b c d : Int) : Int := rtn (a * d - c * b) (b * d)
def mD (a b c d : Int) : Int := rtd (a * d - c * b) (b * d)
def tN (a b c d : Int) : Int := rtn (a * c) (b * d)
def tD (a b c d : Int) : Int := rtd (a * c) (b * d)
def oN (a b c d : Int) : Int := rtn (a * d) (b * c)
def oD (a b c d : Int) : Int := rtd (a * d) (b * c)
section
variable {k : Nat} {a b c d : Int}
theorem Nd.bd0 (h : Nd k a b) (h' : Nd k c d) : b * d ≠ 0 := Int.mul_ne_zero h.b0 h'.b0
theorem Nd.plus (h : Nd k a b) (h' : Nd k c d) : Nd (k + k + 1) (pN a b c d) (pD a b c d) := Nd.rt (h.bd0 h') (add_bd (mul_bd h.tb h'.bb) (mul_bd h'.tb h.bb)) (bd_mono (mul_bd h.bb h'.bb) (Nat.le_succ _))
theorem Nd.minus (h : Nd k a b) (h' : Nd k c d) : Nd (k + k + 1) (mN a b c d) (mD a b c d) := Nd.rt (h.bd0 h') (sub_bd (mul_bd h.tb h'.bb) (mul_bd h'.tb h.bb)) (bd_mono (mul_bd h.bb h'.bb) (Nat.le_succ _))
theorem Nd.times (h : Nd k a b) (h' : Nd k c d) : Nd (k + k + 1) (tN a b c d) (tD a b c d) := Nd.rt (h.bd0 h') (bd_mono (mul_bd h.tb h'.tb) (Nat.le_succ _)) (bd_mono (mul_bd h.bb h'.bb) (Nat.le_succ _))
theorem Nd.over (h : Nd k a b) (h' : Nd k c d) (h0 : c ≠ 0) : Nd (k + k + 1) (oN a b c d) (oD a b c d) := Nd.rt (Int.mul_ne_zero h.b0 h0) (bd_mono (mul_bd h.tb h'.bb) (Nat.le_succ _)) (bd_mono (mul_bd h.bb h'.tb) (Nat.le_succ _))
end
end DL
namespace DL
open PySem PySem.Spec PyProof.Rows L2
theorem fdiv_abs_le {x y : Int} (hy : 0 < y) : (x.fdiv y).natAbs ≤ x.natAbs + 1 := by
  have h1 := Int.mul_fdiv_add_fmod x y
  have h2 : x.fmod y < y := Int.fmod_lt_of_pos x hy
  have h3 : 0 ≤ x.fmod y := Int.fmod_nonneg_of_pos x hy
  generalize x.fdiv y = q at h1 ⊢
  generalize x.fmod y = r at h1 h2 h3
  subst h1
  by_cases hq : q = 0
  · subst hq; omega
  · have hb : q.natAbs ≤ (y * q).natAbs := by rw [Int.natAbs_mul]; exact Nat.le_mul_of_pos_left _ (by omega)
    rcases Int.lt_or_gt_of_ne hq with hq | hq
    · have e : (y * (q + 1)).natAbs = (y).natAbs * (q + 1).natAbs := Int.natAbs_mul ..
      have h5 : y * (q + 1) ≤ 0 := Int.mul_nonpos_of_nonneg_of_nonpos (by omega) (by omega)
      have h6 : y * (q + 1) = y * q + y := by rw [Int.mul_add, Int.mul_one]
      have h7 : (q + 1).natAbs ≤ y.natAbs * (q + 1).natAbs := Nat.le_mul_of_pos_left _ (by omega)
      omega
    · have h6 : 0 < y * q := Int.mul_pos hy hq
      omega
theorem f_intB {k : Bool} {κ : Kap} {Q : DQ} (h : Q (.int (if k = true then 1 else 0)) κ) : fInt [.bl k] κ Q := h
theorem f_intI {i : Int} {κ : Kap} {Q : DQ} (h : Q (.int i) κ) : fInt [.int i] κ Q := h
theorem bl2_shown : ∀ a b : Bool, (PyData.list [.bool a, .bool b]).depth ≤ 60 ∧ (PyData.list [.bool a, .bool b]).shown.length ≤ sizeLine := by decide +kernel
theorem repr_bl2 {a b : Bool} {κ : Kap} {Q : DQ} (h : Q (.str (PyData.list [.bool a, .bool b]).shown) κ) : fRepr [.lst [.bl a, .bl b]] κ Q :=
  repr_of rfl rfl (bl2_shown a b).1 (bl2_shown a b).2 h
theorem bl2_shaped : ∀ a b : Bool, SeqAt.shaped (.str (PyData.list [.bool a, .bool b]).shown) = true := by decide +kernel
theorem rt_pos {u l : Int} (hu : 0 < u) (hl : 0 < l) : 0 < rtn u l := by
  have e := rtn_mul u l
  have hc : 0 < cpt u l := by
    have := Int.gcd_pos_of_ne_zero_right u (Int.ne_of_gt hl)
    unfold cpt
    rw [if_neg (by omega)]
    omega
  rcases Int.lt_trichotomy 0 (rtn u l) with h | h | h
  · exact h
  · rw [← h, Int.zero_mul] at e; omega
  · have := Int.mul_neg_of_neg_of_pos h hc; omega
end DL

/-! DQ: steps: lists that grow, short loops, odd things. -/
namespace DL
open PySem PySem.Spec PyProof.Rows L2
section
variable {δ : DEnv} {κ : Kap} {X : DX} {Q : DQ} {a : DE} {as : DA} {T : String} {f : D1N} {n : Nat} {xs ds : List D} {d : D} {g : DG} {s : DS} {gd : Kap → Prop} {nx bk ct : DEnv → Kap → Prop} {rt : DQ} {A : Prop}
theorem e_bm (h : a δ κ X fun x κ1 => isSeq T x κ1 ∧ as δ κ1 X fun xs κ2 => f x xs κ2 Q) : dBM T f a as δ κ X Q := h
theorem isq_node (h : A) : isSeq "list" (.node .lst xs) κ ∧ A := ⟨⟨xs, rfl⟩, h⟩
theorem isq_cell (e : κ n = some (.live .lst xs)) (h : A) : isSeq "list" (.cell n) κ ∧ A := ⟨⟨xs, vw_cell e⟩, h⟩
theorem f_app (e : κ n = some (.live .lst xs)) (hl : xs.length < 16777216) (h : Q .non (kset κ n (.live .lst (xs ++ [d])))) : fAppend (.cell n) [d] κ Q := ⟨xs, e, hl, h⟩
theorem f_ixC {i : Nat} (e : κ n = some (.live .lst xs)) (hd : xs[i]? = some d) (h : Q d κ) : fIx (.cell n) (.int (i : Int)) κ Q := by
  rw [ix_cell e]
  exact ⟨d, at_nat hd, h⟩
theorem f_ixN {i : Nat} (hd : xs[i]? = some d) (h : Q d κ) : fIx (.node .lst xs) (.int (i : Int)) κ Q := ⟨d, at_nat hd, h⟩
theorem ix_memC {i : Int} (e : κ n = some (.live .lst xs)) (h0 : 0 ≤ i) (h1 : i < xs.length) (h : ∀ d ∈ xs, Q d κ) : fIx (.cell n) (.int i) κ Q := by
  rw [ix_cell e]
  obtain ⟨d, e, hd⟩ := at_of h0 h1
  exact ⟨d, e, h d hd⟩
theorem f_lnC (e : κ n = some (.live .lst xs)) (h : Q (.int (xs.length : Nat)) κ) : fLen [.cell n] κ Q := by
  unfold fLen
  simp only [vw_cell e]
  exact h
/-- a loop, turn by turn -/
theorem dl_cons (hg : gd κ) (h : g d δ κ X fun δ1 κ1 => s δ1 κ1 X ⟨dLoop g s gd X ⟨nx, rt, bk, ct⟩ ds, rt, nx, dLoop g s gd X ⟨nx, rt, bk, ct⟩ ds⟩) : dLoop g s gd X ⟨nx, rt, bk, ct⟩ (d :: ds) δ κ := ⟨hg, h⟩
theorem dl_nil (hg : gd κ) (h : nx δ κ) : dLoop g s gd X ⟨nx, rt, bk, ct⟩ [] δ κ := ⟨hg, h⟩
theorem range_0 : rangeD 0 (Int.toNat 0) = [] := rfl
theorem range_1 : rangeD 0 (Int.toNat 1) = [.int 0] := rfl
theorem range_2 : rangeD 0 (Int.toNat 2) = [.int 0, .int 1] := rfl
theorem range_3 : rangeD 0 (Int.toNat 3) = [.int 0, .int 1, .int 2] := rfl
/-- a text with itself -/
theorem f_eqSS {z : Str} (h : SeqAt.shaped (.str z) = true) (q : Q (.bl true) κ) : fEq (.str z) (.str z) κ Q := f_eqS h h (by rw [beq_self_eq_true]; exact q)
theorem f_neSS {z : Str} (h : SeqAt.shaped (.str z) = true) (q : Q (.bl false) κ) : fNe (.str z) (.str z) κ Q := f_neS h h (by rw [beq_self_eq_true]; exact q)
/-- is a truth among truths -/
theorem pdL_bls : ∀ bs : List Bool, pdataL (bs.map D.bl) = some (bs.map PyData.bool)
  | bs => pdataL_map (fun _ => rfl) bs
theorem sp_bls (bs : List Bool) : SeqAt.shaped (.list (bs.map PyData.bool)) = true := (Sp.list (k := 0) fun p hp => by
  obtain ⟨b, _, rfl⟩ := List.mem_map.mp hp
  exact Sp.bool).shaped (by decide)
theorem f_inBL {neg b : Bool} {bs : List Bool} (h : Q (.bl (if neg then !(bs.any fun c => c == b) else bs.any fun c => c == b)) κ) : fIn neg (.bl b) (.node .lst (bs.map D.bl)) κ Q := by
  have e : inP (.bool b) (.list (bs.map PyData.bool)) = bs.any fun c => c == b := by
    show (bs.map PyData.bool).any (fun z => PyData.eqv z (.bool b)) = _
    rw [List.any_map]
    rfl
  exact ⟨.bool b, .list (bs.map PyData.bool), .bl b, pd_of (pdata_list (pdL_bls bs)), rfl, sp_bls bs, ⟨_, .inl rfl⟩, by rw [e]; exact h⟩
theorem f_ixB {bs : List Bool} {b : Bool} (j : Nat) (ji : Int) (ej : (j : Int) = ji) (h1 : bs[j]? = some b) (h2 : ∀ m, m < j → bs[m]? ≠ some b) (h : Q (.int ji) κ) : fIndexB (.node .lst (bs.map D.bl)) [.bl b] κ Q := ⟨bs, b, j, rfl, rfl, h1, h2, by rw [ej]; exact h⟩
theorem repr_pd {x : D} {p : PyData} (hp : Pd κ x p) (h1 : p.showable = true) (h2 : p.depth ≤ 60) (h3 : p.shown.length ≤ sizeLine) (h : Q (.str p.shown) κ) : fRepr [x] κ Q := ⟨p, hp, h1, h2, h3, h⟩
theorem f_setD {ks : List Key} {i : D} {k : Key} {P : Kap → Prop} (e : κ n = some (.live (.dct ks) xs)) (hk : keyO i = some k) (hl : ks.length < 16777216) (h : P (kset κ n (.live (.dct (putKs ks k)) (putVs ks xs k d)))) : fSetD (.cell n) i d κ P := ⟨n, ks, xs, k, rfl, e, hk, hl, h⟩
theorem ty_cell {k : Kd} (e : κ n = some (.live k xs)) : tyK (.cell n) κ = kdTy k := by
  show (view (.cell n) κ).bind (fun p => kdTy p.1) = _
  rw [vw_cell e]
  rfl
end
/-! odd things: plain ones, lists and dicts that grow -/
def okP (p : PyData) : Bool := p.showable && (decide (p.depth ≤ 60) && (decide (p.shown.length ≤ 16777216) && SeqAt.shaped (.str p.shown)))
inductive Od (κ : Kap) : D → Prop
  | sim {d : D} {p : PyData} {t : String} (h : pdata d = some p) (ok : okP p = true) (ht : tyK d κ = some (.b t)) (no : t = "NoneType" ∨ t = "bool" ∨ t = "str" ∨ t = "tuple" ∨ t = "int") : Od κ d
  | lst {n : Nat} (h : κ n = some (.live .lst [.int 5])) : Od κ (.cell n)
  | dct {n : Nat} (h : κ n = some (.live (.dct []) [])) : Od κ (.cell n)
theorem okP_parts {p : PyData} (h : okP p = true) : p.showable = true ∧ p.depth ≤ 60 ∧ p.shown.length ≤ sizeLine ∧ SeqAt.shaped (.str p.shown) = true := by
  unfold okP at h
  rw [Bool.and_eq_true_iff, Bool.and_eq_true_iff, Bool.and_eq_true_iff] at h
  obtain ⟨h1, h2, h3, h4⟩ := h
  exact ⟨h1, of_decide_eq_true h2, of_decide_eq_true h3, h4⟩
theorem repr_ok {x : D} {p : PyData} {κ : Kap} {Q : DQ} (hp : Pd κ x p) (h : okP p = true) (q : SeqAt.shaped (.str p.shown) = true → Q (.str p.shown) κ) : fRepr [x] κ Q :=
  repr_pd hp (okP_parts h).1 (okP_parts h).2.1 (okP_parts h).2.2.1 (q (okP_parts h).2.2.2)
end DL
namespace DL
open PySem PySem.Spec PyProof.Rows L2
section
variable {δ : DEnv} {κ : Kap} {X : DX} {Q : DQ} {a b : DE} {x y : D} {k : Bool}
theorem e_ifx (ha : ∀ Q : DQ, Q x κ → a δ κ X Q) (hb : ∀ Q : DQ, Q y κ → b δ κ X Q) (h : ∀ z, (k = true → z = x) → (k = false → z = y) → Q z κ) : if k = true then a δ κ X Q else b δ κ X Q := by
  cases k
  · rw [if_neg (by decide)]
    exact hb _ (h y (fun z => by cases z) fun _ => rfl)
  · rw [if_pos rfl]
    exact ha _ (h x (fun _ => rfl) fun z => by cases z)
theorem f_inBr {neg c : Bool} {bs : List Bool} (r : Bool) (e : (if neg = true then !(bs.any fun z => z == c) else bs.any fun z => z == c) = r) (h : Q (.bl r) κ) : fIn neg (.bl c) (.node .lst (bs.map D.bl)) κ Q := f_inBL (by rw [e]; exact h)
theorem fr_at {bx m n : Nat} {κ' : Kap} {c : Cell} (f : Fr bx κ κ') (hB : Bx bx m κ) (e : κ n = some c) (h : ∀ x y z, c ≠ .live .lst [.int x, .int y, .int z]) : κ' n = some c := f _ _ (fun q => by
  obtain ⟨x, y, z, e1, _⟩ := hB
  rw [q, e1] at e
  cases e
  exact h _ _ _ rfl) e
theorem kk {m n : Nat} {c c' : Cell} (e : κ m = some c) (h : κ n = none) : kset κ n c' m = some c := by
  rw [kset_ne (kne e h)]
  exact e
theorem kp {m n : Nat} {c c' : Cell} (e : κ m = some c) (h : m ≠ n) : kset κ n c' m = some c := by
  rw [kset_ne h]
  exact e
theorem kd {m n : Nat} {c c' : Cell} (e : κ m = some c) (e' : κ n = some c') (h : c ≠ c') : m ≠ n := fun q => h (by rw [q, e'] at e; exact (Option.some.inj e).symm)
end
theorem pd_cl {κ : Kap} {n : Nat} {xs : List D} {ps : List PyData} (e : κ n = some (.live .lst xs)) (h : pdataL xs = some ps) : Pd κ (.cell n) (.list ps) := .lst (vw_cell e) (pdL_of h)
theorem pd_cd {κ : Kap} {n : Nat} {ks : List Key} {xs : List D} {ps : List PyData} (e : κ n = some (.live (.dct ks) xs)) (h : pdataL xs = some ps) : Pd κ (.cell n) (.dict ((ks.map keyP).zip ps)) := .dct (vw_cell e) (pdL_of h)
end DL

/-! DR: numbers as rational ones. -/
namespace DL
open PySem PySem.Spec PyProof.Rows L2
def nq (q : Rat) : D := nb q.num q.den
def Sz (k : Nat) (q : Rat) : Prop := q.num.natAbs < 2 ^ k ∧ q.den < 2 ^ k
theorem nq_ok (q : Rat) : NOk q.num q.den := ⟨by have := q.den_pos; omega, q.reduced⟩
theorem nq_int (i : Int) : nq (i : Rat) = .int i := rfl
theorem nq_nd {k : Nat} {q : Rat} (h : Sz k q) : Nd k q.num q.den := ⟨nq_ok q, h.1, by have := h.2; omega⟩
theorem rt_q {u l : Int} (hl : l ≠ 0) : rtn u l = (Rat.divInt u l).num ∧ rtd u l = ((Rat.divInt u l).den : Int) := by
  refine rt_is hl (nq_ok _) ?_
  have h := Rat.num_divInt_den (Rat.divInt u l)
  have hd : ((Rat.divInt u l).den : Int) ≠ 0 := by have := (Rat.divInt u l).den_pos; omega
  exact (Rat.divInt_eq_divInt_iff hd hl).mp h
theorem nb_rt {u l : Int} (hl : l ≠ 0) : nb (rtn u l) (rtd u l) = nq (Rat.divInt u l) := by
  unfold nq
  rw [(rt_q hl).1, (rt_q hl).2]
theorem Sz.divInt {k : Nat} {u l : Int} (hl : l ≠ 0) (h1 : u.natAbs < 2 ^ k) (h2 : l.natAbs < 2 ^ k) : Sz k (Rat.divInt u l) := by
  have n := Nd.rt hl h1 h2
  rw [(rt_q hl).1, (rt_q hl).2] at n
  exact ⟨n.tb, by have := n.bb; omega⟩
theorem Sz.mono {k m : Nat} {q : Rat} (h : Sz k q) (hm : k ≤ m) : Sz m q := ⟨Nat.lt_of_lt_of_le h.1 (Nat.pow_le_pow_right (by decide) hm), Nat.lt_of_lt_of_le h.2 (Nat.pow_le_pow_right (by decide) hm)⟩
theorem Sz.db {k : Nat} {q : Rat} (h : Sz k q) : (q.den : Int).natAbs < 2 ^ k := by have := h.2; omega
theorem Sz.d0 (q : Rat) : (q.den : Int) ≠ 0 := by have := q.den_pos; omega
theorem Sz.int {k : Nat} {i : Int} (h : i.natAbs < 2 ^ k) (hk : 1 ≤ k) : Sz k (i : Rat) := ⟨h, Nat.one_lt_two_pow (by omega)⟩
theorem q_add (p q : Rat) : p + q = Rat.divInt (p.num * q.den + q.num * p.den) (p.den * q.den) := by
  conv => lhs; rw [← Rat.num_divInt_den p, ← Rat.num_divInt_den q]
  exact Rat.divInt_add_divInt _ _ (Sz.d0 p) (Sz.d0 q)
theorem q_sub (p q : Rat) : p - q = Rat.divInt (p.num * q.den - q.num * p.den) (p.den * q.den) := by
  conv => lhs; rw [← Rat.num_divInt_den p, ← Rat.num_divInt_den q]
  exact Rat.divInt_sub_divInt _ _ (Sz.d0 p) (Sz.d0 q)
theorem q_mul (p q : Rat) : p * q = Rat.divInt (p.num * q.num) (p.den * q.den) := by
  conv => lhs; rw [← Rat.num_divInt_den p, ← Rat.num_divInt_den q]
  exact Rat.divInt_mul_divInt _ _
theorem q_div (p q : Rat) : p / q = Rat.divInt (p.num * q.den) (p.den * q.num) := by
  rw [Rat.div_def]
  conv => lhs; rw [← Rat.num_divInt_den p, ← Rat.num_divInt_den q]
  rw [Rat.inv_divInt]
  exact Rat.divInt_mul_divInt _ _
theorem q_num0 {q : Rat} (h : q ≠ 0) : q.num ≠ 0 := fun z => h (Rat.num_eq_zero.mp z)
section
variable {k j : Nat} {p q : Rat}
theorem Sz.dd (p q : Rat) : (p.den : Int) * q.den ≠ 0 := Int.mul_ne_zero (Sz.d0 p) (Sz.d0 q)
theorem Sz.add (h : Sz k p) (h' : Sz j q) : Sz (k + j + 1) (p + q) := by
  rw [q_add]
  exact .divInt (Sz.dd p q) (add_bd (mul_bd h.1 h'.db) (by rw [Nat.add_comm]; exact mul_bd h'.1 h.db)) (bd_mono (mul_bd h.db h'.db) (by omega))
theorem Sz.sub (h : Sz k p) (h' : Sz j q) : Sz (k + j + 1) (p - q) := by
  rw [q_sub]
  exact .divInt (Sz.dd p q) (sub_bd (mul_bd h.1 h'.db) (by rw [Nat.add_comm]; exact mul_bd h'.1 h.db)) (bd_mono (mul_bd h.db h'.db) (by omega))
theorem Sz.mul (h : Sz k p) (h' : Sz j q) : Sz (k + j) (p * q) := by
  rw [q_mul]
  exact .divInt (Sz.dd p q) (mul_bd h.1 h'.1) (mul_bd h.db h'.db)
theorem Sz.div (h : Sz k p) (h' : Sz j q) (h0 : q ≠ 0) : Sz (k + j) (p / q) := by
  rw [q_div]
  exact .divInt (Int.mul_ne_zero (Sz.d0 p) (q_num0 h0)) (mul_bd h.1 h'.db) (mul_bd h.db h'.1)
end
theorem divInt_1 (i : Int) : Rat.divInt i 1 = (i : Rat) := by
  have := Rat.num_divInt_den (i : Rat)
  exact this
theorem divInt_q (a b : Int) : Rat.divInt a b = (a : Rat) / (b : Rat) := by
  rw [q_div]
  show _ = Rat.divInt (a * 1) (1 * b)
  rw [Int.mul_one, Int.one_mul]
theorem nq_inj {p q : Rat} : (p.num = q.num ∧ (p.den : Int) = q.den) ↔ p = q := ⟨fun h => by
  rw [← Rat.num_divInt_den p, ← Rat.num_divInt_den q, h.1, h.2], fun h => by rw [h]; exact ⟨rfl, rfl⟩⟩
/-- one by a whole number -/
theorem nq_inv {s : Int} (h : 0 < s) : nq (1 / (s : Rat)) = nb 1 s := by
  have e : (1 : Rat) / (s : Rat) = Rat.divInt 1 s := (divInt_q 1 s).symm
  rw [e, ← nb_rt (by omega)]
  have := rt_self (a := 1) (b := s) ⟨h, by rw [Int.one_gcd]⟩
  rw [this.1, this.2]
def nqP (q : Rat) : PyData := nbP q.num q.den
theorem nq_pdata (q : Rat) : pdata (nq q) = some (nqP q) := nb_pdata _ _
theorem nqP_sp (q : Rat) : Sp 1 (nqP q) := nbP_sp _ _
theorem nqP_eqv (p q : Rat) : PyData.eqv (nqP p) (nqP q) = decide (p = q) := by
  unfold nqP
  rw [nbP_eqv]
  exact decide_eq_decide.mpr nq_inj
theorem f_eqQ {p q : Rat} {κ : Kap} {Q : DQ} (h : Q (.bl (decide (p = q))) κ) : fEq (nq p) (nq q) κ Q := by
  refine f_eqN ?_
  rw [decide_eq_decide.mpr nq_inj]
  exact h
/-- places: two numbers -/
def plD (x y : Rat) : D := .node .tup [nq x, nq y]
def plP (x y : Rat) : PyData := .tuple [nqP x, nqP y]
theorem plD_pdata (x y : Rat) : pdata (plD x y) = some (plP x y) := pdata_tup (by
  show (match pdata (nq x), pdataL [nq y] with
    | some p, some ps => some (p :: ps)
    | _, _ => none) = _
  rw [nq_pdata]
  show (match some (nqP x), (match pdata (nq y), pdataL [] with
    | some p, some ps => some (p :: ps)
    | _, _ => none) with
    | some p, some ps => some (p :: ps)
    | _, _ => none) = _
  rw [nq_pdata]
  rfl)
theorem plP_sp (x y : Rat) : Sp 2 (plP x y) := Sp.tuple (k := 1) fun p hp => by
  simp only [List.mem_cons, List.not_mem_nil, or_false] at hp
  rcases hp with rfl | rfl <;> exact nqP_sp _
theorem plP_eqv (x y u v : Rat) : PyData.eqv (plP x y) (plP u v) = decide (x = u ∧ y = v) := by
  show (PyData.eqv (nqP x) (nqP u) && (PyData.eqv (nqP y) (nqP v) && true)) = _
  rw [nqP_eqv, nqP_eqv, Bool.and_true, Bool.decide_and]
theorem f_eqPl {x y u v : Rat} {κ : Kap} {Q : DQ} (h : Q (.bl (decide (x = u ∧ y = v))) κ) : fEq (plD x y) (plD u v) κ Q :=
  eq_dat (plD_pdata x y) (plD_pdata u v) ((plP_sp _ _).shaped (by decide)) ((plP_sp _ _).shaped (by decide)) (by rw [plP_eqv]; exact h)
theorem f_nePl {x y u v : Rat} {κ : Kap} {Q : DQ} (h : Q (.bl (!decide (x = u ∧ y = v))) κ) : fNe (plD x y) (plD u v) κ Q :=
  ne_dat (plD_pdata x y) (plD_pdata u v) ((plP_sp _ _).shaped (by decide)) ((plP_sp _ _).shaped (by decide)) (by rw [plP_eqv]; exact h)
end DL
namespace DL
open PySem PySem.Spec PyProof.Rows L2
/-! a box of four -/
section
variable {κ : Kap} {Q : DQ} {d x y z w : D} {xs : List D}
theorem f_ic3 {N : Nat} (e : κ N = some (.live .lst (x :: y :: z :: d :: xs))) (h : Q d κ) : fIx (.cell N) (.int 3) κ Q := by rw [ix_cell e, at_3]; exact h
theorem f_ik3 {N : Nat} (h : Q d (kset κ N (.live .lst (x :: y :: z :: d :: xs)))) : fIx (.cell N) (.int 3) (kset κ N (.live .lst (x :: y :: z :: d :: xs))) Q := f_ic3 kset_same h
theorem f_se3 {N : Nat} {P : Kap → Prop} (e : κ N = some (.live .lst (x :: y :: z :: w :: xs))) (h : P (kset κ N (.live .lst (x :: y :: z :: d :: xs)))) : fSet (.cell N) (.int 3) d κ P := by rw [se_3 e]; exact h
end
def By (b m : Nat) (κ : Kap) : Prop := ∃ x y u z : Int, κ b = some (.live .lst [.int x, .int y, .int u, .int z]) ∧ (0 ≤ y ∧ y < 2 ^ 31) ∧ (0 ≤ u ∧ u < 2 ^ 31) ∧ 0 ≤ z ∧ z ≤ (m : Int)
theorem By.mono {b m m' : Nat} {κ : Kap} (h : By b m κ) (hm : m ≤ m') : By b m' κ := let ⟨x, y, u, z, h1, h2, h3, h4, h5⟩ := h; ⟨x, y, u, z, h1, h2, h3, h4, by omega⟩
theorem By.is {b m : Nat} {κ : Kap} (h : By b m κ) : ∃ k xs, κ b = some (.live k xs) := let ⟨_, _, _, _, h1, _⟩ := h; ⟨_, _, h1⟩
theorem By.ne {b m n : Nat} {κ : Kap} (h : By b m κ) (hn : κ n = none) : n ≠ b := fun e => by obtain ⟨_, _, q⟩ := h.is; rw [e] at hn; rw [hn] at q; cases q
theorem By.set {b m n : Nat} {κ : Kap} {c : Cell} (h : By b m κ) (hn : n ≠ b) : By b m (kset κ n c) := let ⟨x, y, u, z, h1, h2⟩ := h; ⟨x, y, u, z, by rw [kset_ne hn.symm]; exact h1, h2⟩
/-! multi-clause steps -/
section
variable {δ : DEnv} {κ : Kap} {X : DX} {Q : DQ} {it : DI} {t : TN} {tt : DT} {vs : List Nat} {rest : DK} {K : Kap → Prop} {a e : DE} {as : DA} {n : Nat} {gd : Kap → Prop} {items : List D} {d : D}
theorem e_lcG {r : Nat → DK} (h : it δ κ X fun items gd κ1 => ∀ n, κ1 n = none → cLoop t tt vs (r n) gd δ (fun κ' => ∃ acc, κ' n = some (.live .lst acc) ∧ Q (.node .lst acc) (kset κ' n .dead)) items (kset κ1 n (.live .lst []))) : dLcG false it t tt r vs δ κ X Q := h
theorem k_for (h : it δ κ XF fun items gd κ1 => cLoop t tt vs rest gd δ K items κ1) : cFor it t tt vs rest δ κ K := h
theorem k_elt (h : e δ κ XF fun y κ3 => ∃ acc, κ3 n = some (.live .lst acc) ∧ acc.length < sizeLine ∧ K (kset κ3 n (.live .lst (acc ++ [y])))) : cElt n e δ κ K := h
theorem cLoop_ind (I : List D → Kap → Prop) (h0 : ∀ κ, I [] κ → gd κ ∧ K κ)
    (hs : ∀ d ds κ (L : Kap → Prop), (∀ κ, I ds κ → L κ) → I (d :: ds) κ → gd κ ∧ ∃ δ1, bindT t d (dwipe δ vs) κ = some δ1 ∧ tt δ1 κ XF fun b κ2 => if b = true then rest δ1 κ2 L else L κ2) : ∀ ds κ, I ds κ → cLoop t tt vs rest gd δ K ds κ
  | [], κ, h => h0 κ h
  | d :: ds, κ, h => hs d ds κ _ (cLoop_ind I h0 hs ds) h
theorem cl_ix (I : Nat → Kap → Prop) (h0 : ∀ κ, I items.length κ → gd κ ∧ K κ)
    (hs : ∀ i d κ (L : Kap → Prop), items[i]? = some d → (∀ κ, I (i + 1) κ → L κ) → I i κ → gd κ ∧ ∃ δ1, bindT t d (dwipe δ vs) κ = some δ1 ∧ tt δ1 κ XF fun b κ2 => if b = true then rest δ1 κ2 L else L κ2) (h : I 0 κ) : cLoop t tt vs rest gd δ K items κ := by
  refine cLoop_ind (fun ds κ => ∃ i, ds = items.drop i ∧ i ≤ items.length ∧ I i κ) ?_ ?_ items κ ⟨0, rfl, Nat.zero_le _, h⟩
  · rintro κ ⟨i, e, hi, h⟩
    have : i = items.length := by
      have := congrArg List.length e
      simp at this
      omega
    subst this
    exact h0 κ h
  · rintro d ds κ L hL ⟨i, e, hi, h⟩
    have hlt : i < items.length := by
      have := congrArg List.length e
      simp at this
      omega
    rw [List.drop_eq_getElem_cons hlt] at e
    injection e with e1 e2
    exact hs i d κ L (by rw [e1]; exact List.getElem?_eq_getElem hlt) (fun κ q => hL κ ⟨i + 1, e2, hlt, q⟩) h
theorem i_en {QI : List D → (Kap → Prop) → Kap → Prop} (h : as δ κ X (eQ QI)) : iEnumD as δ κ X QI := h
theorem en_N {QI : List D → (Kap → Prop) → Kap → Prop} {ys : List D} (h : QI (enumD 0 ys) gTrue κ) : eQ QI [.node .lst ys] κ := h
theorem en_C {QI : List D → (Kap → Prop) → Kap → Prop} {ys : List D} (e : κ n = some (.live .lst ys)) (h : QI (enumD 0 ys) (fun κ => κ n = some (.live .lst ys)) κ) : eQ QI [.cell n] κ := ⟨ys, e, h⟩
theorem e_tupOf (h : a δ κ X fun x κ1 => fTup x κ1 Q) : dTupOf a δ κ X Q := h
theorem tp_L {ys : List D} (h : Q (.node .tup ys) κ) : fTup (.node .lst ys) κ Q := .inl ⟨ys, rfl, h⟩
theorem tp_T {ys : List D} (h : Q (.node .tup ys) κ) : fTup (.node .tup ys) κ Q := .inr ⟨ys, rfl, h⟩
theorem tp_C {ys : List D} (e : κ n = some (.live .lst ys)) (h : Q (.node .tup ys) κ) : fTup (.cell n) κ Q := .inl ⟨ys, vw_cell e, h⟩
theorem e_rev {m : Bool} (h : a δ κ X fun x κ1 => fRev m x κ1 Q) : dRev m a δ κ X Q := h
theorem rv_N {ys : List D} (h : Q (.node .lst ys.reverse) κ) : fRev false (.node .lst ys) κ Q := ⟨ys, rfl, h⟩
theorem rv_C {ys : List D} (e : κ n = some (.live .lst ys)) (h : Q (.node .lst ys.reverse) κ) : fRev false (.cell n) κ Q := ⟨ys, vw_cell e, h⟩
theorem q_cell {QI : List D → (Kap → Prop) → Kap → Prop} {ys : List D} (e : κ n = some (.live .lst ys)) (h : QI ys (fun κ => κ n = some (.live .lst ys)) κ) : sQ QI (.cell n) κ := by
  unfold sQ
  simp only [e]
  exact h
theorem sl_N {m : Bool} {ys : List D} {lo hi : Option Int} (h : fNew m .lst (cutD ys lo hi) κ Q) : fSl m (.node .lst ys) lo hi κ Q := h
theorem sl_C {m : Bool} {ys : List D} {lo hi : Option Int} (e : κ n = some (.live .lst ys)) (h : fNew m .lst (cutD ys lo hi) κ Q) : fSl m (.cell n) lo hi κ Q := by
  unfold fSl
  simp only [vw_cell e]
  exact h
theorem s_aug {i : Nat} {f : D2} {x : D} {nx : DEnv → Kap → Prop} {rt : DQ} {bk ct : DEnv → Kap → Prop} (e0 : δ[i]? = some (some x)) (h : a δ κ X fun y κ1 => f x y κ1 fun z κ2 => nx (δ.set i (some z)) κ2) : sAug i f a δ κ X ⟨nx, rt, bk, ct⟩ := ⟨x, e0, h⟩
theorem f_adII {i j : Int} (h : Q (.int (i + j)) κ) : fAddI (.int i) (.int j) κ Q := ⟨i, j, rfl, rfl, h⟩
end
end DL
namespace DL
open PySem PySem.Spec PyProof.Rows L2
/-! what can be walked -/
def Fa (κ κ' : Kap) : Prop := ∀ n c, κ n = some c → κ' n = some c
theorem Fa.refl {κ : Kap} : Fa κ κ := fun _ _ h => h
theorem Fa.trans {κ κ1 κ2 : Kap} (h : Fa κ κ1) (g : Fa κ1 κ2) : Fa κ κ2 := fun n c e => g n c (h n c e)
theorem Fa.new {κ : Kap} {n : Nat} {c : Cell} (h : κ n = none) : Fa κ (kset κ n c) := fun m d e => by rw [kset_ne (kne e h)]; exact e
theorem Fa.put {κ κ' : Kap} {n : Nat} {c : Cell} (f : Fa κ κ') (h : κ n = none) : Fa κ (kset κ' n c) := fun m d e => by rw [kset_ne (kne e h)]; exact f m d e
inductive Wk (κ : Kap) : D → List D → Prop
  | lst {xs : List D} : Wk κ (.node .lst xs) xs
  | tup {xs : List D} : Wk κ (.node .tup xs) xs
  | cell {n : Nat} {xs : List D} (h : κ n = some (.live .lst xs)) : Wk κ (.cell n) xs
theorem Wk.mono {κ κ' : Kap} {d : D} {xs : List D} (h : Wk κ d xs) (f : Fa κ κ') : Wk κ' d xs := by
  cases h with
  | lst => exact .lst
  | tup => exact .tup
  | cell e => exact .cell (f _ _ e)
theorem q_wk {κ : Kap} {d : D} {xs : List D} {QI : List D → (Kap → Prop) → Kap → Prop} (h : Wk κ d xs) (q : ∀ gd : Kap → Prop, (∀ κ', Fa κ κ' → gd κ') → QI xs gd κ) : sQ QI d κ := by
  cases h with
  | lst => exact q_L (q _ fun _ _ => trivial)
  | tup => exact q_T (q _ fun _ _ => trivial)
  | cell e => exact q_cell e (q _ fun κ' f => f _ _ e)
theorem f_lnW {κ : Kap} {d : D} {xs : List D} {Q : DQ} (h : Wk κ d xs) (q : Q (.int (xs.length : Nat)) κ) : fLen [d] κ Q := by
  cases h with
  | lst => exact q
  | tup => exact q
  | cell e => exact f_lnC e q
end DL
namespace DL
open PySem PySem.Spec PyProof.Rows L2
theorem q_wk2 {κ0 κ : Kap} {d : D} {xs : List D} {QI : List D → (Kap → Prop) → Kap → Prop} (h : Wk κ0 d xs) (f : Fa κ0 κ) (q : ∀ gd : Kap → Prop, (∀ κ', Fa κ0 κ' → gd κ') → QI xs gd κ) : sQ QI d κ := by
  cases h with
  | lst => exact q_L (q _ fun _ _ => trivial)
  | tup => exact q_T (q _ fun _ _ => trivial)
  | cell e => exact q_cell (f _ _ e) (q _ fun κ' f' => f' _ _ e)
end DL
namespace DL
open PySem PySem.Spec PyProof.Rows L2
section
variable {δ : DEnv} {κ : Kap} {t : TN} {tt : DT} {vs : List Nat} {rest : DK} {K : Kap → Prop} {gd : Kap → Prop} {items : List D} {d : D}
theorem cl_cons (hg : gd κ) (h : ∃ δ1, bindT t d (dwipe δ vs) κ = some δ1 ∧ tt δ1 κ XF fun b κ2 => if b = true then rest δ1 κ2 (cLoop t tt vs rest gd δ K items) else cLoop t tt vs rest gd δ K items κ2) : cLoop t tt vs rest gd δ K (d :: items) κ := ⟨hg, h⟩
theorem cl_nil (hg : gd κ) (h : K κ) : cLoop t tt vs rest gd δ K [] κ := ⟨hg, h⟩
end
end DL
namespace DL
open PySem PySem.Spec PyProof.Rows L2
/-- the place ahead, the last one ahead of the first -/
def prevI (n i : Nat) : Nat := if i = 0 then n - 1 else i - 1
theorem at_prev {α : Type} {xs : List α} {i : Nat} {a : α} (hi : i < xs.length) (h : xs[prevI xs.length i]? = some a) : atI xs ((i : Int) - 1) = some a := by
  unfold prevI at h
  by_cases h0 : i = 0
  · subst h0
    rw [if_pos rfl] at h
    unfold atI ixN
    rw [if_neg (by omega), if_pos (by omega)]
    have e : ((xs.length : Int) + (((0 : Nat) : Int) - 1)).toNat = xs.length - 1 := by omega
    first
      | (rw [e]; exact h)
      | (show xs[_]? = _; rw [show ((((0 : Nat) : Int) - 1) + (xs.length : Int)).toNat = xs.length - 1 by omega]; exact h)
  · rw [if_neg h0] at h
    rw [show (i : Int) - 1 = ((i - 1 : Nat) : Int) by omega]
    exact at_nat h
def cr (p q : Int × Int) : Int := p.1 * q.2 - p.2 * q.1
def sumTo (ps : List (Int × Int)) : Nat → Int
  | 0 => 0
  | i + 1 => sumTo ps i + cr (ps.getD (prevI ps.length i) (0, 0)) (ps.getD i (0, 0))
def prD (p : Int × Int) : D := .node .tup [.int p.1, .int p.2]
def sgI (s : Int) : Int := (if decide (0 < s) = true then 1 else 0) - (if decide (s < 0) = true then 1 else 0)
end DL
namespace DL
open PySem PySem.Spec PyProof.Rows L2
/-! areas of rounds -/
/-- along a row of points -/
def pth (a : Int × Int) : List (Int × Int) → Int
  | [] => 0
  | b :: r => cr a b + pth b r
def lastP (a : Int × Int) : List (Int × Int) → Int × Int
  | [] => a
  | b :: r => lastP b r
def areaL : List (Int × Int) → Int
  | [] => 0
  | p :: r => pth p (r ++ [p])
theorem pth_app (b : Int × Int) (r : List (Int × Int)) : ∀ (l : List (Int × Int)) (a : Int × Int), pth a (l ++ b :: r) = pth a (l ++ [b]) + pth b r
  | [], a => by show cr a b + pth b r = cr a b + 0 + pth b r; omega
  | c :: l, a => by
    show cr a c + pth c (l ++ b :: r) = cr a c + pth c (l ++ [b]) + pth b r
    rw [pth_app b r l c]; omega
theorem pth_snoc (b : Int × Int) : ∀ (l : List (Int × Int)) (a : Int × Int), pth a (l ++ [b]) = pth a l + cr (lastP a l) b
  | [], a => by show cr a b + 0 = 0 + cr a b; omega
  | c :: l, a => by
    show cr a c + pth c (l ++ [b]) = cr a c + pth c l + cr (lastP c l) b
    rw [pth_snoc b l c]; omega
theorem area_rot (l m : List (Int × Int)) : areaL (l ++ m) = areaL (m ++ l) := by
  cases l with
  | nil => simp
  | cons a l =>
    cases m with
    | nil => simp
    | cons b m =>
      show pth a (l ++ b :: m ++ [a]) = pth b (m ++ a :: l ++ [b])
      have h1 := pth_app b (m ++ [a]) l a
      have h2 := pth_app a (l ++ [b]) m b
      rw [List.append_assoc, List.append_assoc, List.cons_append, List.cons_append]
      omega
theorem cr_swap (a b : Int × Int) : cr a b = - cr b a := by unfold cr; grind
theorem pth_rev (b : Int × Int) : ∀ (l : List (Int × Int)) (a : Int × Int), pth b (l.reverse ++ [a]) = - pth a (l ++ [b])
  | [], a => by show cr b a + 0 = -(cr a b + 0); rw [cr_swap b a]; omega
  | c :: l, a => by
    show _ = -(cr a c + pth c (l ++ [b]))
    rw [List.reverse_cons, List.append_assoc, List.cons_append, List.nil_append, pth_app, pth_rev b l c]
    show _ + (cr c a + 0) = _
    rw [cr_swap c a]; omega
theorem area_rev (l : List (Int × Int)) : areaL l.reverse = - areaL l := by
  cases l with
  | nil => rfl
  | cons p r =>
    rw [List.reverse_cons, area_rot]
    show pth p (r.reverse ++ [p]) = - pth p (r ++ [p])
    exact pth_rev p r p
def shP (t : Int × Int) (g : Int) (p : Int × Int) : Int × Int := ((p.1 + t.1) * g, (p.2 + t.2) * g)
theorem pth_sh (t : Int × Int) (g : Int) : ∀ (l : List (Int × Int)) (a : Int × Int), pth (shP t g a) (l.map (shP t g)) = g * g * (pth a l + cr t (lastP a l) - cr t a)
  | [], a => by show 0 = g * g * (0 + cr t a - cr t a); grind
  | b :: l, a => by
    show cr (shP t g a) (shP t g b) + pth (shP t g b) (l.map (shP t g)) = g * g * (cr a b + pth b l + cr t (lastP b l) - cr t a)
    rw [pth_sh t g l b]
    unfold cr shP
    grind
theorem lastP_snoc (b : Int × Int) : ∀ (l : List (Int × Int)) (a : Int × Int), lastP a (l ++ [b]) = b
  | [], _ => rfl
  | c :: l, _ => lastP_snoc b l c
theorem area_sh (t : Int × Int) (g : Int) (l : List (Int × Int)) : areaL (l.map (shP t g)) = g * g * areaL l := by
  cases l with
  | nil => show 0 = g * g * 0; grind
  | cons p r =>
    show pth (shP t g p) (r.map (shP t g) ++ [shP t g p]) = g * g * pth p (r ++ [p])
    have := pth_sh t g (r ++ [p]) p
    rw [lastP_snoc, List.map_append] at this
    rw [show r.map (shP t g) ++ [shP t g p] = r.map (shP t g) ++ [p].map (shP t g) from rfl, this]
    grind
theorem lastP_take (p : Int × Int) (r : List (Int × Int)) : ∀ j, j < (p :: r).length → lastP p (r.take j) = (p :: r).getD j (0, 0) := by
  intro j hj
  induction j generalizing p r with
  | zero => rfl
  | succ j ih =>
    cases r with
    | nil => simp at hj
    | cons b r =>
      show lastP b (r.take j) = (b :: r).getD j (0, 0)
      exact ih b r (by simp at hj ⊢; omega)
theorem take_succD (r : List (Int × Int)) (j : Nat) (h : j < r.length) : r.take (j + 1) = r.take j ++ [r.getD j (0, 0)] := by
  rw [List.take_add_one, List.getElem?_eq_getElem h, List.getD_eq_getElem?_getD, List.getElem?_eq_getElem h]
  rfl
theorem sumTo_area (ps : List (Int × Int)) : DL.sumTo ps ps.length = areaL ps := by
  cases ps with
  | nil => rfl
  | cons p r =>
    have key : ∀ j, j ≤ r.length → DL.sumTo (p :: r) (j + 1) = cr ((p :: r).getD r.length (0, 0)) p + pth p (r.take j) := by
      intro j
      induction j with
      | zero =>
        intro _
        show 0 + cr ((p :: r).getD (prevI (p :: r).length 0) (0, 0)) p = _ + 0
        unfold prevI
        rw [if_pos rfl]
        simp
      | succ j ih =>
        intro hj
        show DL.sumTo (p :: r) (j + 1) + cr ((p :: r).getD (prevI (p :: r).length (j + 1)) (0, 0)) ((p :: r).getD (j + 1) (0, 0)) = _
        rw [ih (by omega), take_succD r j (by omega), pth_snoc, lastP_take p r j (by simp; omega)]
        unfold prevI
        rw [if_neg (by omega)]
        show _ + cr ((p :: r).getD j (0, 0)) (r.getD j (0, 0)) = _
        omega
    have h1 := key r.length (Nat.le_refl _)
    rw [List.take_length] at h1
    show DL.sumTo (p :: r) (r.length + 1) = pth p (r ++ [p])
    rw [h1, pth_snoc]
    have h2 := lastP_take p r r.length (by simp)
    rw [List.take_length] at h2
    rw [h2]
    omega
/-- the place behind, the first one behind the last -/
def sumNx (ps : List (Int × Int)) : Nat → Int
  | 0 => 0
  | i + 1 => sumNx ps i + (ps.getD i (0, 0)).1 * (ps.getD ((i + 1) % ps.length) (0, 0)).2 - (ps.getD i (0, 0)).2 * (ps.getD ((i + 1) % ps.length) (0, 0)).1
theorem sumNx_area (ps : List (Int × Int)) : sumNx ps ps.length = areaL ps := by
  cases ps with
  | nil => rfl
  | cons p r =>
    have key : ∀ j, j ≤ r.length → sumNx (p :: r) j = pth p (r.take j) := by
      intro j
      induction j with
      | zero => intro _; rfl
      | succ j ih =>
        intro hj
        rw [take_succD r j (by omega), pth_snoc, lastP_take p r j (by simp; omega)]
        show sumNx (p :: r) j + _ - _ = _
        rw [ih (by omega)]
        have : (j + 1) % (p :: r).length = j + 1 := Nat.mod_eq_of_lt (by simp; omega)
        rw [this]
        show _ + ((p :: r).getD j (0, 0)).1 * (r.getD j (0, 0)).2 - ((p :: r).getD j (0, 0)).2 * (r.getD j (0, 0)).1 = _
        unfold cr
        omega
    have h1 := key r.length (Nat.le_refl _)
    rw [List.take_length] at h1
    show sumNx (p :: r) r.length + _ - _ = pth p (r ++ [p])
    rw [h1, pth_snoc]
    have h2 := lastP_take p r r.length (by simp)
    rw [List.take_length] at h2
    rw [h2]
    have : (r.length + 1) % (p :: r).length = 0 := by simp
    rw [this]
    show _ + ((p :: r).getD r.length (0, 0)).1 * p.2 - ((p :: r).getD r.length (0, 0)).2 * p.1 = _
    unfold cr
    omega
end DL
namespace DL
open PySem PySem.Spec PyProof.Rows L2
/-! signs -/
theorem sgI_of {a b c d : Int} (hc : 0 < c) (hd : 0 < d) (h : c * a = d * b) : sgI a = sgI b := by
  have h1 : 0 < a ↔ 0 < b := ⟨fun z => by
    have : 0 < d * b := by rw [← h]; exact Int.mul_pos hc z
    exact Int.pos_of_mul_pos_left (by rw [Int.mul_comm]; exact this) hd, fun z => by
    have : 0 < c * a := by rw [h]; exact Int.mul_pos hd z
    exact Int.pos_of_mul_pos_left (by rw [Int.mul_comm]; exact this) hc⟩
  have h2 : a < 0 ↔ b < 0 := by
    have h3 : a = 0 ↔ b = 0 := ⟨fun z => by
      rw [z, Int.mul_zero] at h
      rcases Int.mul_eq_zero.mp h.symm with q | q
      · omega
      · exact q, fun z => by
      rw [z, Int.mul_zero] at h
      rcases Int.mul_eq_zero.mp h with q | q
      · omega
      · exact q⟩
    omega
  unfold sgI
  rw [decide_eq_decide.mpr h1, decide_eq_decide.mpr h2]
theorem sgI_neg (a : Int) : sgI (-a) = 0 - sgI a := by
  unfold sgI
  by_cases h : 0 < a
  · rw [decide_eq_true h, decide_eq_false (show ¬ (0 < -a) by omega), decide_eq_true (show -a < 0 by omega), decide_eq_false (show ¬ a < 0 by omega)]
    rfl
  · by_cases h' : a < 0
    · rw [decide_eq_false h, decide_eq_true (show 0 < -a by omega), decide_eq_false (show ¬ -a < 0 by omega), decide_eq_true h']
      rfl
    · rw [decide_eq_false h, decide_eq_false (show ¬ 0 < -a by omega), decide_eq_false (show ¬ -a < 0 by omega), decide_eq_false h']
      rfl
/-- a point over a base -/
def tq (b : Int) (p : Int × Int) : Rat × Rat := (Rat.divInt p.1 b, Rat.divInt p.2 b)
theorem whole_mul {x b : Int} {M : Nat} (hb : 0 < b) (hd : (Rat.divInt x b).den ∣ M) : (Rat.divInt x b).num * (M : Int).fdiv ((Rat.divInt x b).den : Nat) * b = x * M := by
  have h := Rat.num_divInt_den (Rat.divInt x b)
  have hd0 : ((Rat.divInt x b).den : Int) ≠ 0 := Sz.d0 _
  have hc := (Rat.divInt_eq_divInt_iff hd0 (show b ≠ 0 by omega)).mp h
  obtain ⟨c, rfl⟩ := hd
  generalize (Rat.divInt x b).num = n at hc ⊢
  generalize hD : (Rat.divInt x b).den = D at hc hd0 ⊢
  have e : (((D * c : Nat)) : Int).fdiv (D : Nat) = (c : Int) := by
    rw [Int.natCast_mul]
    exact Int.mul_fdiv_cancel_left _ hd0
  rw [e, Int.natCast_mul]
  calc n * (c : Int) * b = (n * b) * c := by grind
    _ = x * (D : Int) * c := by rw [hc]
    _ = x * ((D : Int) * c) := by grind
theorem den_dvd {x b : Int} (hb : 0 < b) : (Rat.divInt x b).den ∣ b.natAbs := by
  have h := (rt_q (u := x) (l := b) (by omega)).2
  have h2 := rtd_mul x b
  rw [h] at h2
  refine ⟨(cpt x b).natAbs, ?_⟩
  have h3 := congrArg Int.natAbs h2
  rw [Int.natAbs_mul] at h3
  exact h3.symm
end DL

namespace L_k04
open PySem PySem.Spec PyProof.Rows L2 DL
def topS (i : Nat) : Stmt := PySem.Challenge.pw_hintedpoints_k04_numbers_as_texts.main.body.getD i (.Pass ⟨0, 0, 0, 0⟩)
def ktab : List KRow := [(.e "NoText", .b "str", false)]
def kt : KTab := ktOf ktab
structure Tz (K : PySem.W.Frag) (mg : Str → Option Value) : Prop where
  kit : KitT K mg kt
  z_abs : mg "abs" = none
  z_all : mg "all" = none
  z_bool : mg "bool" = none
  z_int : mg "int" = none
  z_isinstance : mg "isinstance" = none
  z_len : mg "len" = none
  z_max : mg "max" = none
  z_min : mg "min" = none
  z_range : mg "range" = none
  z_str : mg "str" = none
  z_tuple : mg "tuple" = none
  g_FIGURES : ∃ t, mg "FIGURES" = some (.str "0123456789" t)
  g_MOST_FIGURES : ∃ t, mg "MOST_FIGURES" = some (.int 60 t)

/-! is_plain -/
abbrev s_is_plain : Stmt := topS 8
theorem sc_is_plain : FnScope ["thing"] ["thing"] (defScope s_is_plain) := ⟨rfl, rfl, rfl, by decide +kernel, rfl, by decide +kernel, by decide +kernel⟩
def b_is_plain : DS := (sRet (dAnd (dB (fIsi kt) (dCons (dVar 0) (dCons (dC (.ty "int")) dNil))) (dNot (dB (fIsi kt) (dCons (dVar 0) (dCons (dC (.ty "bool")) dNil))))))
def sp_is_plain : DSp := spOf 1 1 b_is_plain
theorem fn_is_plain {P : Program} {w : World} {K : PySem.W.Frag} {mg : Str → Option Value} {base : Heap} {f : Addr} {fd : FuncData} (T : Tz K mg) (D : DefAt K mg "is_plain" s_is_plain f fd) (sm : ∃ o, base.get? sysModules = some o)  : FnG P w K mg base 1 f fd ["thing"] sp_is_plain :=
  Fn_ok (k := 0) (b := b_is_plain) D.F sc_is_plain sm fun cdv A outer s H E G => (sd_one (sd_ret (pd_and (pd_callB (call_isiD T.kit) sim_isi T.z_isinstance (pa_consD (pd_var 0) (pa_consD (pd_tyName T.z_int) pa_nilD))) (pd_one (pd_not (pd_callB (call_isiD T.kit) sim_isi T.z_isinstance (pa_consD (pd_var 0) (pa_consD (pd_tyName T.z_bool) pa_nilD))))))))
theorem ok_is_plain {P : Program} {w : World} {K : PySem.W.Frag} {mg : Str → Option Value} {base : Heap} {f : Addr} {fd : FuncData} (T : Tz K mg) (D : DefAt K mg "is_plain" s_is_plain f fd) (sm : ∃ o, base.get? sysModules = some o)  : Ok P w K mg base 1 "is_plain" ["thing"] sp_is_plain := ok_mk D (fn_is_plain T D sm ) (fun _ _ _ _ _ _ us hl => match us, hl with | [_], _ => rfl)
/-! common_part -/
abbrev s_common_part : Stmt := topS 9
theorem sc_common_part : FnScope ["one", "other"] ["one", "other"] (defScope s_common_part) := ⟨rfl, rfl, rfl, by decide +kernel, rfl, by decide +kernel, by decide +kernel⟩
def b_common_part : DS := (sSeq (sPar 0 1 (dCons (dB fAbs (dCons (dVar 0) dNil)) (dCons (dB fAbs (dCons (dVar 1) dNil)) dNil))) (sSeq (sWhile (tBl (dOp fNe (dVar 1) (dC (.int 0)))) (sPar 0 1 (dCons (dVar 1) (dCons (dOp fMod (dVar 0) (dVar 1)) dNil)))) (sRet (dVar 0))))
def sp_common_part : DSp := spOf 2 2 b_common_part
theorem fn_common_part {P : Program} {w : World} {K : PySem.W.Frag} {mg : Str → Option Value} {base : Heap} {f : Addr} {fd : FuncData} (T : Tz K mg) (D : DefAt K mg "common_part" s_common_part f fd) (sm : ∃ o, base.get? sysModules = some o)  : FnG P w K mg base 1 f fd ["one", "other"] sp_common_part :=
  Fn_ok (k := 0) (b := b_common_part) D.F sc_common_part sm fun cdv A outer s H E G => (sd_cons (sd_par 0 1 (fun _ h => ps_par G.calm G.nd rfl rfl (by decide) rfl rfl h (by rfl)) (pa_consD (pd_callB call_abs sim_abs T.z_abs (pa_consD (pd_var 0) pa_nilD)) (pa_consD (pd_callB call_abs sim_abs T.z_abs (pa_consD (pd_var 1) pa_nilD)) pa_nilD))) (sd_cons (sd_while G (pt_ne G (pd_var 1) pd_int) (sd_one (sd_par 0 1 (fun _ h => ps_par G.calm G.nd rfl rfl (by decide) rfl rfl h (by rfl)) (pa_consD (pd_var 1) (pa_consD (pd_mod (pd_var 0) (pd_var 1)) pa_nilD))))) (sd_one (sd_ret (pd_var 0)))))
theorem ok_common_part {P : Program} {w : World} {K : PySem.W.Frag} {mg : Str → Option Value} {base : Heap} {f : Addr} {fd : FuncData} (T : Tz K mg) (D : DefAt K mg "common_part" s_common_part f fd) (sm : ∃ o, base.get? sysModules = some o)  : Ok P w K mg base 1 "common_part" ["one", "other"] sp_common_part := ok_mk D (fn_common_part T D sm ) (fun _ _ _ _ _ _ us hl => match us, hl with | [_, _], _ => rfl)
/-! is_part -/
abbrev s_is_part : Stmt := topS 10
theorem sc_is_part : FnScope ["thing", "top", "base"] ["thing"] (defScope s_is_part) := ⟨rfl, rfl, rfl, by decide +kernel, rfl, by decide +kernel, by decide +kernel⟩
def b_is_part : DS := (sSeq (sIf (tOrD (tNotD (tTru (dB (fIsi kt) (dCons (dVar 0) (dCons (dC (.ty "tuple")) dNil))))) (tBl (dOp fNe (dB fLen (dCons (dVar 0) dNil)) (dC (.int 2))))) (sRet (dC (.bl false))) sNil) (sSeq (sAsg (dVar 0) (gTupD 2 (gConsD (gN 1) (gConsD (gN 2) gNilD)))) (sRet (dAnd (dCall sp_is_plain [] (dCons (dVar 1) dNil)) (dAnd (dCall sp_is_plain [] (dCons (dVar 2) dNil)) (dAnd (dOp fGtS (dVar 2) (dC (.int 1))) (dOp fEq (dCall sp_common_part [] (dCons (dVar 1) (dCons (dVar 2) dNil))) (dC (.int 1)))))))))
def sp_is_part : DSp := spOf 3 1 b_is_part
theorem fn_is_part {P : Program} {w : World} {K : PySem.W.Frag} {mg : Str → Option Value} {base : Heap} {f : Addr} {fd : FuncData} (T : Tz K mg) (D : DefAt K mg "is_part" s_is_part f fd) (sm : ∃ o, base.get? sysModules = some o) (O_common_part : Ok P w K mg base 1 "common_part" ["one", "other"] sp_common_part) (O_is_plain : Ok P w K mg base 1 "is_plain" ["thing"] sp_is_plain) : FnG P w K mg base 2 f fd ["thing"] sp_is_part :=
  Fn_ok (k := 1) (b := b_is_part) D.F sc_is_part sm fun cdv A outer s H E G => (sd_cons (sd_if (PW.pt (pw_orD (pt_notD (pt_truD (pd_callB (call_isiD T.kit) sim_isi T.z_isinstance (pa_consD (pd_var 0) (pa_consD (pd_tyName T.z_tuple) pa_nilD))))) (pw_or1D (pt_ne G (pd_callB call_len sim_len T.z_len (pa_consD (pd_var 0) pa_nilD)) pd_int)))) (sd_one (sd_ret pd_bl)) sd_nil) (sd_cons (sd_asg (pd_var 0) (pg_tupD G.calm (pgs_consD (pg_nameD (i := 1) G.nd) (pgs_consD (pg_nameD (i := 2) G.nd) pgs_nilD)))) (sd_one (sd_ret (pd_and (pd_callN G (O_is_plain.mono (by decide)) (pa_consD (pd_var 1) pa_nilD)) (pd_and (pd_callN G (O_is_plain.mono (by decide)) (pa_consD (pd_var 2) pa_nilD)) (pd_and (pd_gt (pd_var 2) pd_int) (pd_one (pd_eq G (pd_callN G (O_common_part.mono (by decide)) (pa_consD (pd_var 1) (pa_consD (pd_var 2) pa_nilD))) pd_int)))))))))
theorem ok_is_part {P : Program} {w : World} {K : PySem.W.Frag} {mg : Str → Option Value} {base : Heap} {f : Addr} {fd : FuncData} (T : Tz K mg) (D : DefAt K mg "is_part" s_is_part f fd) (sm : ∃ o, base.get? sysModules = some o) (O_common_part : Ok P w K mg base 1 "common_part" ["one", "other"] sp_common_part) (O_is_plain : Ok P w K mg base 1 "is_plain" ["thing"] sp_is_plain) : Ok P w K mg base 2 "is_part" ["thing"] sp_is_part := ok_mk D (fn_is_part T D sm O_common_part O_is_plain) (fun _ _ _ _ _ _ us hl => match us, hl with | [_], _ => rfl)
/-! reckoned -/
abbrev s_reckoned : Stmt := topS 11
theorem sc_reckoned : FnScope ["top", "base", "part"] ["top", "base"] (defScope s_reckoned) := ⟨rfl, rfl, rfl, by decide +kernel, rfl, by decide +kernel, by decide +kernel⟩
def b_reckoned : DS := (sSeq (sAsg (dCall sp_common_part [] (dCons (dVar 0) (dCons (dVar 1) dNil))) (gN 2)) (sSeq (sIf (tBl (dOp fLtS (dVar 1) (dC (.int 0)))) (sAsg (dOp fSub (dC (.int 0)) (dVar 2)) (gN 2)) sNil) (sSeq (sPar 0 1 (dCons (dOp fDiv (dVar 0) (dVar 2)) (dCons (dOp fDiv (dVar 1) (dVar 2)) dNil))) (sRet (dIf (tBl (dOp fEq (dVar 1) (dC (.int 1)))) (dVar 0) (dTup (dCons (dVar 0) (dCons (dVar 1) dNil))))))))
def sp_reckoned : DSp := spOf 3 2 b_reckoned
theorem fn_reckoned {P : Program} {w : World} {K : PySem.W.Frag} {mg : Str → Option Value} {base : Heap} {f : Addr} {fd : FuncData} (T : Tz K mg) (D : DefAt K mg "reckoned" s_reckoned f fd) (sm : ∃ o, base.get? sysModules = some o) (O_common_part : Ok P w K mg base 1 "common_part" ["one", "other"] sp_common_part) : FnG P w K mg base 2 f fd ["top", "base"] sp_reckoned :=
  Fn_ok (k := 1) (b := b_reckoned) D.F sc_reckoned sm fun cdv A outer s H E G => (sd_cons (sd_set 2 G.nd (pd_callN G (O_common_part.mono (by decide)) (pa_consD (pd_var 0) (pa_consD (pd_var 1) pa_nilD)))) (sd_cons (sd_if (pt_lt (pd_var 1) pd_int) (sd_one (sd_set 2 G.nd (pd_sub pd_int (pd_var 2)))) sd_nil) (sd_cons (sd_par 0 1 (fun _ h => ps_par G.calm G.nd rfl rfl (by decide) rfl rfl h (by rfl)) (pa_consD (pd_fdiv (pd_var 0) (pd_var 2)) (pa_consD (pd_fdiv (pd_var 1) (pd_var 2)) pa_nilD))) (sd_one (sd_ret (pd_if (pt_eq G (pd_var 1) pd_int) (pd_var 0) (pd_tup (pa_consD (pd_var 0) (pa_consD (pd_var 1) pa_nilD)))))))))
theorem ok_reckoned {P : Program} {w : World} {K : PySem.W.Frag} {mg : Str → Option Value} {base : Heap} {f : Addr} {fd : FuncData} (T : Tz K mg) (D : DefAt K mg "reckoned" s_reckoned f fd) (sm : ∃ o, base.get? sysModules = some o) (O_common_part : Ok P w K mg base 1 "common_part" ["one", "other"] sp_common_part) : Ok P w K mg base 2 "reckoned" ["top", "base"] sp_reckoned := ok_mk D (fn_reckoned T D sm O_common_part) (fun _ _ _ _ _ _ us hl => match us, hl with | [_, _], _ => rfl)
/-! pair_of -/
abbrev s_pair_of : Stmt := topS 12
theorem sc_pair_of : FnScope ["number"] ["number"] (defScope s_pair_of) := ⟨rfl, rfl, rfl, by decide +kernel, rfl, by decide +kernel, by decide +kernel⟩
def b_pair_of : DS := (sSeq (sIf (tTru (dCall sp_is_plain [] (dCons (dVar 0) dNil))) (sRet (dTup (dCons (dVar 0) (dCons (dC (.int 1)) dNil)))) sNil) (sSeq (sIf (tNotD (tTru (dCall sp_is_part [] (dCons (dVar 0) dNil)))) (sRz "NoNumber" ["found"] (dCons (dVar 0) dNil)) sNil) (sRet (dVar 0))))
def sp_pair_of : DSp := spOf 1 1 b_pair_of
theorem fn_pair_of {P : Program} {w : World} {K : PySem.W.Frag} {mg : Str → Option Value} {base : Heap} {f : Addr} {fd : FuncData} (T : Tz K mg) (D : DefAt K mg "pair_of" s_pair_of f fd) (sm : ∃ o, base.get? sysModules = some o) (E_NoNumber : ExOk P w K mg base "NoNumber" ["found"]) (O_is_part : Ok P w K mg base 2 "is_part" ["thing"] sp_is_part) (O_is_plain : Ok P w K mg base 1 "is_plain" ["thing"] sp_is_plain) : FnG P w K mg base 3 f fd ["number"] sp_pair_of :=
  Fn_ok (k := 2) (b := b_pair_of) D.F sc_pair_of sm fun cdv A outer s H E G => (sd_cons (sd_if (pt_truD (pd_callN G (O_is_plain.mono (by decide)) (pa_consD (pd_var 0) pa_nilD))) (sd_one (sd_ret (pd_tup (pa_consD (pd_var 0) (pa_consD pd_int pa_nilD))))) sd_nil) (sd_cons (sd_if (pt_notD (pt_truD (pd_callN G (O_is_part.mono (by decide)) (pa_consD (pd_var 0) pa_nilD)))) (sd_one (sd_raise (G.mono (j := 2) (by decide)) E_NoNumber (by simp) (pa_consD (pd_var 0) pa_nilD))) sd_nil) (sd_one (sd_ret (pd_var 0)))))
theorem ok_pair_of {P : Program} {w : World} {K : PySem.W.Frag} {mg : Str → Option Value} {base : Heap} {f : Addr} {fd : FuncData} (T : Tz K mg) (D : DefAt K mg "pair_of" s_pair_of f fd) (sm : ∃ o, base.get? sysModules = some o) (E_NoNumber : ExOk P w K mg base "NoNumber" ["found"]) (O_is_part : Ok P w K mg base 2 "is_part" ["thing"] sp_is_part) (O_is_plain : Ok P w K mg base 1 "is_plain" ["thing"] sp_is_plain) : Ok P w K mg base 3 "pair_of" ["number"] sp_pair_of := ok_mk D (fn_pair_of T D sm E_NoNumber O_is_part O_is_plain) (fun _ _ _ _ _ _ us hl => match us, hl with | [_], _ => rfl)
/-! times -/
abbrev s_times : Stmt := topS 13
theorem sc_times : FnScope ["one", "other", "top", "base", "more", "under"] ["one", "other"] (defScope s_times) := ⟨rfl, rfl, rfl, by decide +kernel, rfl, by decide +kernel, by decide +kernel⟩
def b_times : DS := (sSeq (sAsg (dTup (dCons (dCall sp_pair_of [] (dCons (dVar 0) dNil)) (dCons (dCall sp_pair_of [] (dCons (dVar 1) dNil)) dNil))) (gTupD 2 (gConsD (gTupD 2 (gConsD (gN 2) (gConsD (gN 3) gNilD))) (gConsD (gTupD 2 (gConsD (gN 4) (gConsD (gN 5) gNilD))) gNilD)))) (sRet (dCall sp_reckoned [] (dCons (dOp fMulI (dVar 2) (dVar 4)) (dCons (dOp fMulI (dVar 3) (dVar 5)) dNil)))))
def sp_times : DSp := spOf 6 2 b_times
theorem fn_times {P : Program} {w : World} {K : PySem.W.Frag} {mg : Str → Option Value} {base : Heap} {f : Addr} {fd : FuncData} (T : Tz K mg) (D : DefAt K mg "times" s_times f fd) (sm : ∃ o, base.get? sysModules = some o) (O_pair_of : Ok P w K mg base 3 "pair_of" ["number"] sp_pair_of) (O_reckoned : Ok P w K mg base 2 "reckoned" ["top", "base"] sp_reckoned) : FnG P w K mg base 4 f fd ["one", "other"] sp_times :=
  Fn_ok (k := 3) (b := b_times) D.F sc_times sm fun cdv A outer s H E G => (sd_cons (sd_asg (pd_tup (pa_consD (pd_callN G (O_pair_of.mono (by decide)) (pa_consD (pd_var 0) pa_nilD)) (pa_consD (pd_callN G (O_pair_of.mono (by decide)) (pa_consD (pd_var 1) pa_nilD)) pa_nilD))) (pg_tupD G.calm (pgs_consD (pg_tupD G.calm (pgs_consD (pg_nameD (i := 2) G.nd) (pgs_consD (pg_nameD (i := 3) G.nd) pgs_nilD))) (pgs_consD (pg_tupD G.calm (pgs_consD (pg_nameD (i := 4) G.nd) (pgs_consD (pg_nameD (i := 5) G.nd) pgs_nilD))) pgs_nilD)))) (sd_one (sd_ret (pd_callN G (O_reckoned.mono (by decide)) (pa_consD (pd_mulI (pd_var 2) (pd_var 4)) (pa_consD (pd_mulI (pd_var 3) (pd_var 5)) pa_nilD))))))
theorem ok_times {P : Program} {w : World} {K : PySem.W.Frag} {mg : Str → Option Value} {base : Heap} {f : Addr} {fd : FuncData} (T : Tz K mg) (D : DefAt K mg "times" s_times f fd) (sm : ∃ o, base.get? sysModules = some o) (O_pair_of : Ok P w K mg base 3 "pair_of" ["number"] sp_pair_of) (O_reckoned : Ok P w K mg base 2 "reckoned" ["top", "base"] sp_reckoned) : Ok P w K mg base 4 "times" ["one", "other"] sp_times := ok_mk D (fn_times T D sm O_pair_of O_reckoned) (fun _ _ _ _ _ _ us hl => match us, hl with | [_, _], _ => rfl)
/-! over -/
abbrev s_over : Stmt := topS 14
theorem sc_over : FnScope ["one", "other", "top", "base", "more", "under"] ["one", "other"] (defScope s_over) := ⟨rfl, rfl, rfl, by decide +kernel, rfl, by decide +kernel, by decide +kernel⟩
def b_over : DS := (sSeq (sAsg (dTup (dCons (dCall sp_pair_of [] (dCons (dVar 0) dNil)) (dCons (dCall sp_pair_of [] (dCons (dVar 1) dNil)) dNil))) (gTupD 2 (gConsD (gTupD 2 (gConsD (gN 2) (gConsD (gN 3) gNilD))) (gConsD (gTupD 2 (gConsD (gN 4) (gConsD (gN 5) gNilD))) gNilD)))) (sSeq (sIf (tBl (dOp fEq (dVar 4) (dC (.int 0)))) sNever sNil) (sRet (dCall sp_reckoned [] (dCons (dOp fMulI (dVar 2) (dVar 5)) (dCons (dOp fMulI (dVar 3) (dVar 4)) dNil))))))
def sp_over : DSp := spOf 6 2 b_over
theorem fn_over {P : Program} {w : World} {K : PySem.W.Frag} {mg : Str → Option Value} {base : Heap} {f : Addr} {fd : FuncData} (T : Tz K mg) (D : DefAt K mg "over" s_over f fd) (sm : ∃ o, base.get? sysModules = some o) (O_pair_of : Ok P w K mg base 3 "pair_of" ["number"] sp_pair_of) (O_reckoned : Ok P w K mg base 2 "reckoned" ["top", "base"] sp_reckoned) : FnG P w K mg base 4 f fd ["one", "other"] sp_over :=
  Fn_ok (k := 3) (b := b_over) D.F sc_over sm fun cdv A outer s H E G => (sd_cons (sd_asg (pd_tup (pa_consD (pd_callN G (O_pair_of.mono (by decide)) (pa_consD (pd_var 0) pa_nilD)) (pa_consD (pd_callN G (O_pair_of.mono (by decide)) (pa_consD (pd_var 1) pa_nilD)) pa_nilD))) (pg_tupD G.calm (pgs_consD (pg_tupD G.calm (pgs_consD (pg_nameD (i := 2) G.nd) (pgs_consD (pg_nameD (i := 3) G.nd) pgs_nilD))) (pgs_consD (pg_tupD G.calm (pgs_consD (pg_nameD (i := 4) G.nd) (pgs_consD (pg_nameD (i := 5) G.nd) pgs_nilD))) pgs_nilD)))) (sd_cons (sd_if (pt_eq G (pd_var 4) pd_int) (sd_one sd_never) sd_nil) (sd_one (sd_ret (pd_callN G (O_reckoned.mono (by decide)) (pa_consD (pd_mulI (pd_var 2) (pd_var 5)) (pa_consD (pd_mulI (pd_var 3) (pd_var 4)) pa_nilD)))))))
theorem ok_over {P : Program} {w : World} {K : PySem.W.Frag} {mg : Str → Option Value} {base : Heap} {f : Addr} {fd : FuncData} (T : Tz K mg) (D : DefAt K mg "over" s_over f fd) (sm : ∃ o, base.get? sysModules = some o) (O_pair_of : Ok P w K mg base 3 "pair_of" ["number"] sp_pair_of) (O_reckoned : Ok P w K mg base 2 "reckoned" ["top", "base"] sp_reckoned) : Ok P w K mg base 4 "over" ["one", "other"] sp_over := ok_mk D (fn_over T D sm O_pair_of O_reckoned) (fun _ _ _ _ _ _ us hl => match us, hl with | [_, _], _ => rfl)
/-! number_text -/
abbrev s_number_text : Stmt := topS 15
theorem sc_number_text : FnScope ["number", "top", "base"] ["number"] (defScope s_number_text) := ⟨rfl, rfl, rfl, by decide +kernel, rfl, by decide +kernel, by decide +kernel⟩
def b_number_text : DS := (sSeq (sAsg (dCall sp_pair_of [] (dCons (dVar 0) dNil)) (gTupD 2 (gConsD (gN 1) (gConsD (gN 2) gNilD)))) (sRet (dIf (tBl (dOp fEq (dVar 2) (dC (.int 1)))) (dB fStr (dCons (dVar 1) dNil)) (dJoined [(dFmt (dVar 1)), (dC (.str "/")), (dFmt (dVar 2))]))))
def sp_number_text : DSp := spOf 3 1 b_number_text
theorem fn_number_text {P : Program} {w : World} {K : PySem.W.Frag} {mg : Str → Option Value} {base : Heap} {f : Addr} {fd : FuncData} (T : Tz K mg) (D : DefAt K mg "number_text" s_number_text f fd) (sm : ∃ o, base.get? sysModules = some o) (O_pair_of : Ok P w K mg base 3 "pair_of" ["number"] sp_pair_of) : FnG P w K mg base 4 f fd ["number"] sp_number_text :=
  Fn_ok (k := 3) (b := b_number_text) D.F sc_number_text sm fun cdv A outer s H E G => (sd_cons (sd_asg (pd_callN G (O_pair_of.mono (by decide)) (pa_consD (pd_var 0) pa_nilD)) (pg_tupD G.calm (pgs_consD (pg_nameD (i := 1) G.nd) (pgs_consD (pg_nameD (i := 2) G.nd) pgs_nilD)))) (sd_one (sd_ret (pd_if (pt_eq G (pd_var 2) pd_int) (pd_callTy (DL.CallR.or call_str_int SkE.call_str_str) sim_str T.z_str (pa_consD (pd_var 1) pa_nilD)) (pd_joined (pj_consD (pd_fmt (pd_var 1)) (pj_consD pd_str (pj_consD (pd_fmt (pd_var 2)) pj_nilD))))))))
theorem ok_number_text {P : Program} {w : World} {K : PySem.W.Frag} {mg : Str → Option Value} {base : Heap} {f : Addr} {fd : FuncData} (T : Tz K mg) (D : DefAt K mg "number_text" s_number_text f fd) (sm : ∃ o, base.get? sysModules = some o) (O_pair_of : Ok P w K mg base 3 "pair_of" ["number"] sp_pair_of) : Ok P w K mg base 4 "number_text" ["number"] sp_number_text := ok_mk D (fn_number_text T D sm O_pair_of) (fun _ _ _ _ _ _ us hl => match us, hl with | [_], _ => rfl)
/-! figures_of -/
abbrev s_figures_of : Stmt := topS 16
theorem sc_figures_of : FnScope ["text", "figure"] ["text"] (defScope s_figures_of) := ⟨rfl, rfl, rfl, by decide +kernel, rfl, by decide +kernel, by decide +kernel⟩
def b_figures_of : DS := (sSeq (sIf (tOrD (tNotD (tBl (dChain fLeS fLeS (dC (.int 1)) (dB fLen (dCons (dVar 0) dNil)) (dC (.int 60))))) (tNotD (tTru (dB fAllB (dCons (dLc false (iSeq (dVar 0)) (.inl 1) tYesD (dOp (fIn false) (dVar 1) (dC (.str "0123456789"))) [1]) dNil))))) (sRet (dC .non)) sNil) (sSeq (sIf (tAndD (tBl (dOp fEq (dOp fIx (dVar 0) (dC (.int 0))) (dC (.str "0")))) (tBl (dOp fNe (dVar 0) (dC (.str "0"))))) (sRet (dC .non)) sNil) (sRet (dB fIntT (dCons (dVar 0) dNil)))))
def sp_figures_of : DSp := spOf 2 1 b_figures_of
theorem fn_figures_of {P : Program} {w : World} {K : PySem.W.Frag} {mg : Str → Option Value} {base : Heap} {f : Addr} {fd : FuncData} (T : Tz K mg) (D : DefAt K mg "figures_of" s_figures_of f fd) (sm : ∃ o, base.get? sysModules = some o)  : FnG P w K mg base 1 f fd ["text"] sp_figures_of :=
  Fn_ok (k := 0) (b := b_figures_of) D.F sc_figures_of sm fun cdv A outer s H E G => (sd_cons (sd_if (PW.pt (pw_orD (pt_notD (pt_chainD op_leS sim_ord op_leS sim_ord pd_int (pd_callB call_len sim_len T.z_len (pa_consD (pd_var 0) pa_nilD)) (pd_glbInt T.g_MOST_FIGURES))) (pw_or1D (pt_notD (pt_truD (pd_callB (cr_all G.calm) sim_all T.z_all (pa_consD (pd_lc false [("figure", 1)] (.inl 1) G (pi_seqD (pd_var 0)) (fun _ _ _ _ _ => pg_name G.nd rfl (by first | exact Or.inl rfl | exact Or.inr rfl)) (fun _ _ _ _ _ => pts_nilD) (fun _ _ _ _ _ => (pd_in G.blk (pd_var 1) (pd_glbStr T.g_FIGURES)))) pa_nilD))))))) (sd_one (sd_ret pd_non)) sd_nil) (sd_cons (sd_if (PW.pt (pw_andD (pt_eq G (pd_ix (pd_var 0) pd_int) pd_str) (pw_and1D (pt_ne G (pd_var 0) pd_str)))) (sd_one (sd_ret pd_non)) sd_nil) (sd_one (sd_ret (pd_callTy call_int_str sim_intT T.z_int (pa_consD (pd_var 0) pa_nilD))))))
theorem ok_figures_of {P : Program} {w : World} {K : PySem.W.Frag} {mg : Str → Option Value} {base : Heap} {f : Addr} {fd : FuncData} (T : Tz K mg) (D : DefAt K mg "figures_of" s_figures_of f fd) (sm : ∃ o, base.get? sysModules = some o)  : Ok P w K mg base 1 "figures_of" ["text"] sp_figures_of := ok_mk D (fn_figures_of T D sm ) (fun _ _ _ _ _ _ us hl => match us, hl with | [_], _ => rfl)
/-! number_of -/
abbrev s_number_of : Stmt := topS 17
theorem sc_number_of : FnScope ["thing", "first", "rest", "below", "top", "base"] ["thing"] (defScope s_number_of) := ⟨rfl, rfl, rfl, by decide +kernel, rfl, by decide +kernel, by decide +kernel⟩
def b_number_of : DS := (sSeq (sIf (tNotD (tTru (dB (fIsi kt) (dCons (dVar 0) (dCons (dC (.ty "str")) dNil))))) (sRet (dC .non)) sNil) (sSeq (sAsg (dM1 fSpl (dVar 0) (dC (.str "/"))) (gStarD 1 2)) (sSeq (sAsg (dM1 fStw (dVar 1) (dC (.str "-"))) (gN 3)) (sSeq (sAsg (dCall sp_figures_of [] (dCons (dIf (tTru (dVar 3)) (dSl false (dVar 1) (dPart (dC (.int 1))) dNo) (dVar 1)) dNil)) (gN 4)) (sSeq (sAsg (dIf (tBl (dOp fEq (dVar 2) (dLst false dNil))) (dC (.int 1)) (dCall sp_figures_of [] (dCons (dOp fIx (dVar 2) (dC (.int 0))) dNil))) (gN 5)) (sSeq (sIf (tOrD (tBl (dOp fGtS (dB fLen (dCons (dVar 2) dNil)) (dC (.int 1)))) (tOrD (tBl (dOp fIs (dVar 4) (dC .non))) (tOrD (tBl (dOp fIs (dVar 5) (dC .non))) (tBl (dOp fEq (dVar 5) (dC (.int 0))))))) (sRet (dC .non)) sNil) (sRet (dCall sp_reckoned [] (dCons (dIf (tTru (dVar 3)) (dOp fSub (dC (.int 0)) (dVar 4)) (dVar 4)) (dCons (dVar 5) dNil))))))))))
def sp_number_of : DSp := spOf 6 1 b_number_of
theorem fn_number_of {P : Program} {w : World} {K : PySem.W.Frag} {mg : Str → Option Value} {base : Heap} {f : Addr} {fd : FuncData} (T : Tz K mg) (D : DefAt K mg "number_of" s_number_of f fd) (sm : ∃ o, base.get? sysModules = some o) (O_figures_of : Ok P w K mg base 1 "figures_of" ["text"] sp_figures_of) (O_reckoned : Ok P w K mg base 2 "reckoned" ["top", "base"] sp_reckoned) : FnG P w K mg base 3 f fd ["thing"] sp_number_of :=
  Fn_ok (k := 2) (b := b_number_of) D.F sc_number_of sm fun cdv A outer s H E G => (sd_cons (sd_if (pt_notD (pt_truD (pd_callB (call_isiD T.kit) sim_isi T.z_isinstance (pa_consD (pd_var 0) (pa_consD (pd_tyName T.z_str) pa_nilD))))) (sd_one (sd_ret pd_non)) sd_nil) (sd_cons (sd_asg (pd_spl (pd_var 0) pd_str) (pg_starD (i := 1) (j := 2) G.calm G.nd)) (sd_cons (sd_set 3 G.nd (pd_stw (pd_var 1) pd_str)) (sd_cons (sd_set 4 G.nd (pd_callN G (O_figures_of.mono (by decide)) (pa_consD (pd_if (pt_truD (pd_var 3)) (pd_sl false (pd_var 1) (po_partD pd_int) po_noD) (pd_var 1)) pa_nilD))) (sd_cons (sd_set 5 G.nd (pd_if (pt_eq G (pd_var 2) (pd_lst false pa_nilD)) pd_int (pd_callN G (O_figures_of.mono (by decide)) (pa_consD (pd_ix (pd_var 2) pd_int) pa_nilD)))) (sd_cons (sd_if (PW.pt (pw_orD (pt_gt (pd_callB call_len sim_len T.z_len (pa_consD (pd_var 2) pa_nilD)) pd_int) (pw_orD (pt_is (pd_var 4) pd_non) (pw_orD (pt_is (pd_var 5) pd_non) (pw_or1D (pt_eq G (pd_var 5) pd_int)))))) (sd_one (sd_ret pd_non)) sd_nil) (sd_one (sd_ret (pd_callN G (O_reckoned.mono (by decide)) (pa_consD (pd_if (pt_truD (pd_var 3)) (pd_sub pd_int (pd_var 4)) (pd_var 4)) (pa_consD (pd_var 5) pa_nilD)))))))))))
theorem ok_number_of {P : Program} {w : World} {K : PySem.W.Frag} {mg : Str → Option Value} {base : Heap} {f : Addr} {fd : FuncData} (T : Tz K mg) (D : DefAt K mg "number_of" s_number_of f fd) (sm : ∃ o, base.get? sysModules = some o) (O_figures_of : Ok P w K mg base 1 "figures_of" ["text"] sp_figures_of) (O_reckoned : Ok P w K mg base 2 "reckoned" ["top", "base"] sp_reckoned) : Ok P w K mg base 3 "number_of" ["thing"] sp_number_of := ok_mk D (fn_number_of T D sm O_figures_of O_reckoned) (fun _ _ _ _ _ _ us hl => match us, hl with | [_], _ => rfl)
/-! _law_cell -/
abbrev s__law_cell : Stmt := topS 19
theorem sc__law_cell : FnScope ["_law_script", "_law_k"] ["_law_script", "_law_k"] (defScope s__law_cell) := ⟨rfl, rfl, rfl, by decide +kernel, rfl, by decide +kernel, by decide +kernel⟩
def b__law_cell : DS := (sSeq (sIf (tBl (dOp fLtS (dVar 1) (dB fLen (dCons (dVar 0) dNil)))) (sRet (dOp fIx (dVar 0) (dVar 1))) sNil) (sRet (dOp (fAdd false) (dOp fMulI (dC (.int 15485863)) (dVar 1)) (dC (.int 53)))))
def sp__law_cell : DSp := spOf 2 2 b__law_cell
theorem fn__law_cell {P : Program} {w : World} {K : PySem.W.Frag} {mg : Str → Option Value} {base : Heap} {f : Addr} {fd : FuncData} (T : Tz K mg) (D : DefAt K mg "_law_cell" s__law_cell f fd) (sm : ∃ o, base.get? sysModules = some o)  : FnG P w K mg base 1 f fd ["_law_script", "_law_k"] sp__law_cell :=
  Fn_ok (k := 0) (b := b__law_cell) D.F sc__law_cell sm fun cdv A outer s H E G => (sd_cons (sd_if (pt_lt (pd_var 1) (pd_callB call_len sim_len T.z_len (pa_consD (pd_var 0) pa_nilD))) (sd_one (sd_ret (pd_ix (pd_var 0) (pd_var 1)))) sd_nil) (sd_one (sd_ret (pd_add false (pd_mulI pd_int (pd_var 1)) pd_int))))
theorem ok__law_cell {P : Program} {w : World} {K : PySem.W.Frag} {mg : Str → Option Value} {base : Heap} {f : Addr} {fd : FuncData} (T : Tz K mg) (D : DefAt K mg "_law_cell" s__law_cell f fd) (sm : ∃ o, base.get? sysModules = some o)  : Ok P w K mg base 1 "_law_cell" ["_law_script", "_law_k"] sp__law_cell := ok_mk D (fn__law_cell T D sm ) (fun _ _ _ _ _ _ us hl => match us, hl with | [_, _], _ => rfl)
/-! _law_box -/
abbrev s__law_box : Stmt := topS 20
theorem sc__law_box : FnScope ["_law_cell_here"] ["_law_cell_here"] (defScope s__law_box) := ⟨rfl, rfl, rfl, by decide +kernel, rfl, by decide +kernel, by decide +kernel⟩
def b__law_box : DS := (sRet (dLst true (dCons (dB fMax2 (dCons (dC (.int 0)) (dCons (dOp fSub (dVar 0) (dOp fPow (dC (.int 10)) (dC (.int 18)))) dNil))) (dCons (dOp fMod (dVar 0) (dC (.int 2147483629))) (dCons (dC (.int 0)) dNil)))))
def sp__law_box : DSp := spOf 1 1 b__law_box
theorem fn__law_box {P : Program} {w : World} {K : PySem.W.Frag} {mg : Str → Option Value} {base : Heap} {f : Addr} {fd : FuncData} (T : Tz K mg) (D : DefAt K mg "_law_box" s__law_box f fd) (sm : ∃ o, base.get? sysModules = some o)  : FnG P w K mg base 1 f fd ["_law_cell_here"] sp__law_box :=
  Fn_ok (k := 0) (b := b__law_box) D.F sc__law_box sm fun cdv A outer s H E G => (sd_one (sd_ret (pd_lst true (pa_consD (pd_callB (call_max2 G.calm) sim_max2 T.z_max (pa_consD pd_int (pa_consD (pd_sub (pd_var 0) (pd_pow pd_int pd_int)) pa_nilD))) (pa_consD (pd_mod (pd_var 0) pd_int) (pa_consD pd_int pa_nilD))))))
theorem ok__law_box {P : Program} {w : World} {K : PySem.W.Frag} {mg : Str → Option Value} {base : Heap} {f : Addr} {fd : FuncData} (T : Tz K mg) (D : DefAt K mg "_law_box" s__law_box f fd) (sm : ∃ o, base.get? sysModules = some o)  : Ok P w K mg base 1 "_law_box" ["_law_cell_here"] sp__law_box := ok_mk D (fn__law_box T D sm ) (fun _ _ _ _ _ _ us hl => match us, hl with | [_], _ => rfl)
/-! _law_take -/
abbrev s__law_take : Stmt := topS 21
theorem sc__law_take : FnScope ["_law_box_here", "_law_many", "_law_digit", "_law_number_here"] ["_law_box_here", "_law_many"] (defScope s__law_take) := ⟨rfl, rfl, rfl, by decide +kernel, rfl, by decide +kernel, by decide +kernel⟩
def b__law_take : DS := (sSeq (sIf (tBl (dOp fGtS (dOp fIx (dVar 0) (dC (.int 0))) (dC (.int 0)))) (sSeq (sAsg (dOp fMod (dOp fIx (dVar 0) (dC (.int 0))) (dVar 1)) (gN 2)) (sSeq (sAsg (dOp fDiv (dOp fIx (dVar 0) (dC (.int 0))) (dVar 1)) (gSubD (dVar 0) (dC (.int 0)) fSet)) (sRet (dVar 2)))) sNil) (sSeq (sAsg (dOp (fAdd false) (dOp fIx (dVar 0) (dC (.int 2))) (dC (.int 1))) (gSubD (dVar 0) (dC (.int 2)) fSet)) (sSeq (sAsg (dOp fMod (dOp fPow (dOp (fAdd false) (dOp (fAdd false) (dOp fIx (dVar 0) (dC (.int 1))) (dOp fMulI (dC (.int 6733)) (dOp fIx (dVar 0) (dC (.int 2))))) (dC (.int 47))) (dC (.int 5))) (dC (.int 2147483647))) (gN 3)) (sSeq (sAsg (dOp fMod (dOp fPow (dOp (fAdd false) (dVar 3) (dOp fMulI (dC (.int 92811)) (dOp fIx (dVar 0) (dC (.int 2))))) (dC (.int 3))) (dC (.int 2147483587))) (gN 3)) (sRet (dOp fMod (dOp fDiv (dVar 3) (dC (.int 16))) (dVar 1)))))))
def sp__law_take : DSp := spOf 4 2 b__law_take
theorem fn__law_take {P : Program} {w : World} {K : PySem.W.Frag} {mg : Str → Option Value} {base : Heap} {f : Addr} {fd : FuncData} (T : Tz K mg) (D : DefAt K mg "_law_take" s__law_take f fd) (sm : ∃ o, base.get? sysModules = some o)  : FnG P w K mg base 1 f fd ["_law_box_here", "_law_many"] sp__law_take :=
  Fn_ok (k := 0) (b := b__law_take) D.F sc__law_take sm fun cdv A outer s H E G => (sd_cons (sd_if (pt_gt (pd_ix (pd_var 0) pd_int) pd_int) (sd_cons (sd_set 2 G.nd (pd_mod (pd_ix (pd_var 0) pd_int) (pd_var 1))) (sd_cons (sd_asg (pd_fdiv (pd_ix (pd_var 0) pd_int) (pd_var 1)) (pg_subD (pd_var 0) pd_int)) (sd_one (sd_ret (pd_var 2))))) sd_nil) (sd_cons (sd_asg (pd_add false (pd_ix (pd_var 0) pd_int) pd_int) (pg_subD (pd_var 0) pd_int)) (sd_cons (sd_set 3 G.nd (pd_mod (pd_pow (pd_add false (pd_add false (pd_ix (pd_var 0) pd_int) (pd_mulI pd_int (pd_ix (pd_var 0) pd_int))) pd_int) pd_int) pd_int)) (sd_cons (sd_set 3 G.nd (pd_mod (pd_pow (pd_add false (pd_var 3) (pd_mulI pd_int (pd_ix (pd_var 0) pd_int))) pd_int) pd_int)) (sd_one (sd_ret (pd_mod (pd_fdiv (pd_var 3) pd_int) (pd_var 1))))))))
theorem ok__law_take {P : Program} {w : World} {K : PySem.W.Frag} {mg : Str → Option Value} {base : Heap} {f : Addr} {fd : FuncData} (T : Tz K mg) (D : DefAt K mg "_law_take" s__law_take f fd) (sm : ∃ o, base.get? sysModules = some o)  : Ok P w K mg base 1 "_law_take" ["_law_box_here", "_law_many"] sp__law_take := ok_mk D (fn__law_take T D sm ) (fun _ _ _ _ _ _ us hl => match us, hl with | [_, _], _ => rfl)
/-! _law_far -/
abbrev s__law_far : Stmt := topS 22
theorem sc__law_far : FnScope ["_law_box_here", "_law_number_here", "_law_k"] ["_law_box_here"] (defScope s__law_far) := ⟨rfl, rfl, rfl, by decide +kernel, rfl, by decide +kernel, by decide +kernel⟩
def b__law_far : DS := (sSeq (sAsg (dC (.int 0)) (gN 1)) (sSeq (sFor (iRange1 (dCons (dOp (fAdd false) (dC (.int 1)) (dCall sp__law_take [] (dCons (dVar 0) (dCons (dC (.int 20)) dNil)))) dNil)) (gN 2) (sAsg (dOp (fAdd false) (dOp fMulI (dC (.int 1000)) (dVar 1)) (dCall sp__law_take [] (dCons (dVar 0) (dCons (dC (.int 1000)) dNil)))) (gN 1))) (sRet (dOp fIx (dLst false (dCons (dVar 1) (dCons (dOp fSub (dC (.int 0)) (dVar 1)) (dCons (dOp fSub (dOp fMod (dVar 1) (dC (.int 1000))) (dC (.int 500))) dNil)))) (dCall sp__law_take [] (dCons (dVar 0) (dCons (dC (.int 3)) dNil)))))))
def sp__law_far : DSp := spOf 3 1 b__law_far
theorem fn__law_far {P : Program} {w : World} {K : PySem.W.Frag} {mg : Str → Option Value} {base : Heap} {f : Addr} {fd : FuncData} (T : Tz K mg) (D : DefAt K mg "_law_far" s__law_far f fd) (sm : ∃ o, base.get? sysModules = some o) (O__law_take : Ok P w K mg base 1 "_law_take" ["_law_box_here", "_law_many"] sp__law_take) : FnG P w K mg base 2 f fd ["_law_box_here"] sp__law_far :=
  Fn_ok (k := 1) (b := b__law_far) D.F sc__law_far sm fun cdv A outer s H E G => (sd_cons (sd_set 1 G.nd pd_int) (sd_cons (sd_for G (pi_range1D T.z_range (pa_consD (pd_add false pd_int (pd_callN G (O__law_take.mono (by decide)) (pa_consD (pd_var 0) (pa_consD pd_int pa_nilD)))) pa_nilD)) (pg_nameD (i := 2) G.nd) (sd_one (sd_set 1 G.nd (pd_add false (pd_mulI pd_int (pd_var 1)) (pd_callN G (O__law_take.mono (by decide)) (pa_consD (pd_var 0) (pa_consD pd_int pa_nilD))))))) (sd_one (sd_ret (pd_ix (pd_lst false (pa_consD (pd_var 1) (pa_consD (pd_sub pd_int (pd_var 1)) (pa_consD (pd_sub (pd_mod (pd_var 1) pd_int) pd_int) pa_nilD)))) (pd_callN G (O__law_take.mono (by decide)) (pa_consD (pd_var 0) (pa_consD pd_int pa_nilD))))))))
theorem ok__law_far {P : Program} {w : World} {K : PySem.W.Frag} {mg : Str → Option Value} {base : Heap} {f : Addr} {fd : FuncData} (T : Tz K mg) (D : DefAt K mg "_law_far" s__law_far f fd) (sm : ∃ o, base.get? sysModules = some o) (O__law_take : Ok P w K mg base 1 "_law_take" ["_law_box_here", "_law_many"] sp__law_take) : Ok P w K mg base 2 "_law_far" ["_law_box_here"] sp__law_far := ok_mk D (fn__law_far T D sm O__law_take) (fun _ _ _ _ _ _ us hl => match us, hl with | [_], _ => rfl)
/-! _law_number -/
abbrev s__law_number : Stmt := topS 23
theorem sc__law_number : FnScope ["_law_upper", "_law_lower", "_law_left", "_law_right_here"] ["_law_upper", "_law_lower"] (defScope s__law_number) := ⟨rfl, rfl, rfl, by decide +kernel, rfl, by decide +kernel, by decide +kernel⟩
def b__law_number : DS := (sSeq (sPar 2 3 (dCons (dB fAbs (dCons (dVar 0) dNil)) (dCons (dB fAbs (dCons (dVar 1) dNil)) dNil))) (sSeq (sWhile (tBl (dOp fNe (dVar 3) (dC (.int 0)))) (sPar 2 3 (dCons (dVar 3) (dCons (dOp fMod (dVar 2) (dVar 3)) dNil)))) (sSeq (sIf (tBl (dOp fLtS (dVar 1) (dC (.int 0)))) (sAsg (dOp fSub (dC (.int 0)) (dVar 2)) (gN 2)) sNil) (sRet (dIf (tBl (dOp fEq (dOp fDiv (dVar 1) (dVar 2)) (dC (.int 1)))) (dOp fDiv (dVar 0) (dVar 2)) (dTup (dCons (dOp fDiv (dVar 0) (dVar 2)) (dCons (dOp fDiv (dVar 1) (dVar 2)) dNil))))))))
def sp__law_number : DSp := spOf 4 2 b__law_number
theorem fn__law_number {P : Program} {w : World} {K : PySem.W.Frag} {mg : Str → Option Value} {base : Heap} {f : Addr} {fd : FuncData} (T : Tz K mg) (D : DefAt K mg "_law_number" s__law_number f fd) (sm : ∃ o, base.get? sysModules = some o)  : FnG P w K mg base 1 f fd ["_law_upper", "_law_lower"] sp__law_number :=
  Fn_ok (k := 0) (b := b__law_number) D.F sc__law_number sm fun cdv A outer s H E G => (sd_cons (sd_par 2 3 (fun _ h => ps_par G.calm G.nd rfl rfl (by decide) rfl rfl h (by rfl)) (pa_consD (pd_callB call_abs sim_abs T.z_abs (pa_consD (pd_var 0) pa_nilD)) (pa_consD (pd_callB call_abs sim_abs T.z_abs (pa_consD (pd_var 1) pa_nilD)) pa_nilD))) (sd_cons (sd_while G (pt_ne G (pd_var 3) pd_int) (sd_one (sd_par 2 3 (fun _ h => ps_par G.calm G.nd rfl rfl (by decide) rfl rfl h (by rfl)) (pa_consD (pd_var 3) (pa_consD (pd_mod (pd_var 2) (pd_var 3)) pa_nilD))))) (sd_cons (sd_if (pt_lt (pd_var 1) pd_int) (sd_one (sd_set 2 G.nd (pd_sub pd_int (pd_var 2)))) sd_nil) (sd_one (sd_ret (pd_if (pt_eq G (pd_fdiv (pd_var 1) (pd_var 2)) pd_int) (pd_fdiv (pd_var 0) (pd_var 2)) (pd_tup (pa_consD (pd_fdiv (pd_var 0) (pd_var 2)) (pa_consD (pd_fdiv (pd_var 1) (pd_var 2)) pa_nilD)))))))))
theorem ok__law_number {P : Program} {w : World} {K : PySem.W.Frag} {mg : Str → Option Value} {base : Heap} {f : Addr} {fd : FuncData} (T : Tz K mg) (D : DefAt K mg "_law_number" s__law_number f fd) (sm : ∃ o, base.get? sysModules = some o)  : Ok P w K mg base 1 "_law_number" ["_law_upper", "_law_lower"] sp__law_number := ok_mk D (fn__law_number T D sm ) (fun _ _ _ _ _ _ us hl => match us, hl with | [_, _], _ => rfl)
/-! _law_pair -/
abbrev s__law_pair : Stmt := topS 24
theorem sc__law_pair : FnScope ["_law_number_here"] ["_law_number_here"] (defScope s__law_pair) := ⟨rfl, rfl, rfl, by decide +kernel, rfl, by decide +kernel, by decide +kernel⟩
def b__law_pair : DS := (sRet (dIf (tTru (dB (fIsi kt) (dCons (dVar 0) (dCons (dC (.ty "tuple")) dNil)))) (dVar 0) (dTup (dCons (dVar 0) (dCons (dC (.int 1)) dNil)))))
def sp__law_pair : DSp := spOf 1 1 b__law_pair
theorem fn__law_pair {P : Program} {w : World} {K : PySem.W.Frag} {mg : Str → Option Value} {base : Heap} {f : Addr} {fd : FuncData} (T : Tz K mg) (D : DefAt K mg "_law_pair" s__law_pair f fd) (sm : ∃ o, base.get? sysModules = some o)  : FnG P w K mg base 1 f fd ["_law_number_here"] sp__law_pair :=
  Fn_ok (k := 0) (b := b__law_pair) D.F sc__law_pair sm fun cdv A outer s H E G => (sd_one (sd_ret (pd_if (pt_truD (pd_callB (call_isiD T.kit) sim_isi T.z_isinstance (pa_consD (pd_var 0) (pa_consD (pd_tyName T.z_tuple) pa_nilD)))) (pd_var 0) (pd_tup (pa_consD (pd_var 0) (pa_consD pd_int pa_nilD))))))
theorem ok__law_pair {P : Program} {w : World} {K : PySem.W.Frag} {mg : Str → Option Value} {base : Heap} {f : Addr} {fd : FuncData} (T : Tz K mg) (D : DefAt K mg "_law_pair" s__law_pair f fd) (sm : ∃ o, base.get? sysModules = some o)  : Ok P w K mg base 1 "_law_pair" ["_law_number_here"] sp__law_pair := ok_mk D (fn__law_pair T D sm ) (fun _ _ _ _ _ _ us hl => match us, hl with | [_], _ => rfl)
/-! _law_is -/
abbrev s__law_is : Stmt := topS 25
theorem sc__law_is : FnScope ["_law_found", "_law_due_here"] ["_law_found", "_law_due_here"] (defScope s__law_is) := ⟨rfl, rfl, rfl, by decide +kernel, rfl, by decide +kernel, by decide +kernel⟩
def b__law_is (r : DSp) : DS := (sSeq (sIf (tTru (dB (fIsi kt) (dCons (dVar 1) (dCons (dC (.ty "tuple")) dNil)))) (sRet (dAnd (dB (fIsi kt) (dCons (dVar 0) (dCons (dC (.ty "tuple")) dNil))) (dAnd (dOp fEq (dVar 0) (dVar 1)) (dAnd (dCall r [] (dCons (dOp fIx (dVar 0) (dC (.int 0))) (dCons (dOp fIx (dVar 1) (dC (.int 0))) dNil))) (dCall r [] (dCons (dOp fIx (dVar 0) (dC (.int 1))) (dCons (dOp fIx (dVar 1) (dC (.int 1))) dNil))))))) sNil) (sRet (dAnd (dB (fIsi kt) (dCons (dVar 0) (dCons (dC (.ty "int")) dNil))) (dAnd (dNot (dB (fIsi kt) (dCons (dVar 0) (dCons (dC (.ty "bool")) dNil)))) (dOp fEq (dVar 0) (dVar 1))))))
def sp__law_is : Nat → DSp
  | 0 => fun _ _ _ _ => False
  | n + 1 => spOf 2 2 (b__law_is (sp__law_is n))
theorem fn__law_is {P : Program} {w : World} {K : PySem.W.Frag} {mg : Str → Option Value} {base : Heap} {f : Addr} {fd : FuncData} (T : Tz K mg) (D : DefAt K mg "_law_is" s__law_is f fd) (sm : ∃ o, base.get? sysModules = some o)  : ∀ n : Nat, FnG P w K mg base (0 + n) f fd ["_law_found", "_law_due_here"] (sp__law_is n)
  | 0 => fnG_no
  | n + 1 => by
    have O__law_is : Ok P w K mg base (0 + n) "_law_is" ["_law_found", "_law_due_here"] (sp__law_is n) := ok_mk D (fn__law_is T D sm  n) (fun _ _ _ _ _ _ us hl => match us, hl with | [_, _], _ => rfl)
    exact Fn_ok (k := 0 + n) (b := b__law_is (sp__law_is n)) D.F sc__law_is sm fun cdv A outer s H E G => (sd_cons (sd_if (pt_truD (pd_callB (call_isiD T.kit) sim_isi T.z_isinstance (pa_consD (pd_var 1) (pa_consD (pd_tyName T.z_tuple) pa_nilD)))) (sd_one (sd_ret (pd_and (pd_callB (call_isiD T.kit) sim_isi T.z_isinstance (pa_consD (pd_var 0) (pa_consD (pd_tyName T.z_tuple) pa_nilD))) (pd_and (pd_eq G (pd_var 0) (pd_var 1)) (pd_and (pd_callN G (O__law_is.mono (by omega)) (pa_consD (pd_ix (pd_var 0) pd_int) (pa_consD (pd_ix (pd_var 1) pd_int) pa_nilD))) (pd_one (pd_callN G (O__law_is.mono (by omega)) (pa_consD (pd_ix (pd_var 0) pd_int) (pa_consD (pd_ix (pd_var 1) pd_int) pa_nilD))))))))) sd_nil) (sd_one (sd_ret (pd_and (pd_callB (call_isiD T.kit) sim_isi T.z_isinstance (pa_consD (pd_var 0) (pa_consD (pd_tyName T.z_int) pa_nilD))) (pd_and (pd_not (pd_callB (call_isiD T.kit) sim_isi T.z_isinstance (pa_consD (pd_var 0) (pa_consD (pd_tyName T.z_bool) pa_nilD)))) (pd_one (pd_eq G (pd_var 0) (pd_var 1))))))))
theorem ok__law_is {P : Program} {w : World} {K : PySem.W.Frag} {mg : Str → Option Value} {base : Heap} {f : Addr} {fd : FuncData} (T : Tz K mg) (D : DefAt K mg "_law_is" s__law_is f fd) (sm : ∃ o, base.get? sysModules = some o)  : Ok P w K mg base 2 "_law_is" ["_law_found", "_law_due_here"] (sp__law_is 2) := ok_mk D (fn__law_is T D sm  2) (fun _ _ _ _ _ _ us hl => match us, hl with | [_, _], _ => rfl)
/-! _law_drawn -/
abbrev s__law_drawn : Stmt := topS 26
theorem sc__law_drawn : FnScope ["_law_box_here", "_law_upper", "_law_lower"] ["_law_box_here"] (defScope s__law_drawn) := ⟨rfl, rfl, rfl, by decide +kernel, rfl, by decide +kernel, by decide +kernel⟩
def b__law_drawn : DS := (sSeq (sAsg (dOp fIx (dLst false (dCons (dOp fSub (dCall sp__law_take [] (dCons (dVar 0) (dCons (dC (.int 41)) dNil))) (dC (.int 20))) (dCons (dCall sp__law_far [] (dCons (dVar 0) dNil)) dNil))) (dCall sp__law_take [] (dCons (dVar 0) (dCons (dC (.int 2)) dNil)))) (gN 1)) (sSeq (sAsg (dOp fIx (dLst false (dCons (dC (.int 1)) (dCons (dC (.int 1)) (dCons (dOp (fAdd false) (dC (.int 1)) (dCall sp__law_take [] (dCons (dVar 0) (dCons (dC (.int 12)) dNil)))) (dCons (dOp (fAdd false) (dC (.int 1)) (dOp fMod (dB fAbs (dCons (dCall sp__law_far [] (dCons (dVar 0) dNil)) dNil)) (dOp fSub (dOp fPow (dC (.int 10)) (dC (.int 60))) (dC (.int 1))))) dNil))))) (dCall sp__law_take [] (dCons (dVar 0) (dCons (dC (.int 4)) dNil)))) (gN 2)) (sRet (dCall sp__law_number [] (dCons (dVar 1) (dCons (dVar 2) dNil))))))
def sp__law_drawn : DSp := spOf 3 1 b__law_drawn
theorem fn__law_drawn {P : Program} {w : World} {K : PySem.W.Frag} {mg : Str → Option Value} {base : Heap} {f : Addr} {fd : FuncData} (T : Tz K mg) (D : DefAt K mg "_law_drawn" s__law_drawn f fd) (sm : ∃ o, base.get? sysModules = some o) (O__law_far : Ok P w K mg base 2 "_law_far" ["_law_box_here"] sp__law_far) (O__law_number : Ok P w K mg base 1 "_law_number" ["_law_upper", "_law_lower"] sp__law_number) (O__law_take : Ok P w K mg base 1 "_law_take" ["_law_box_here", "_law_many"] sp__law_take) : FnG P w K mg base 3 f fd ["_law_box_here"] sp__law_drawn :=
  Fn_ok (k := 2) (b := b__law_drawn) D.F sc__law_drawn sm fun cdv A outer s H E G => (sd_cons (sd_set 1 G.nd (pd_ix (pd_lst false (pa_consD (pd_sub (pd_callN G (O__law_take.mono (by decide)) (pa_consD (pd_var 0) (pa_consD pd_int pa_nilD))) pd_int) (pa_consD (pd_callN G (O__law_far.mono (by decide)) (pa_consD (pd_var 0) pa_nilD)) pa_nilD))) (pd_callN G (O__law_take.mono (by decide)) (pa_consD (pd_var 0) (pa_consD pd_int pa_nilD))))) (sd_cons (sd_set 2 G.nd (pd_ix (pd_lst false (pa_consD pd_int (pa_consD pd_int (pa_consD (pd_add false pd_int (pd_callN G (O__law_take.mono (by decide)) (pa_consD (pd_var 0) (pa_consD pd_int pa_nilD)))) (pa_consD (pd_add false pd_int (pd_mod (pd_callB call_abs sim_abs T.z_abs (pa_consD (pd_callN G (O__law_far.mono (by decide)) (pa_consD (pd_var 0) pa_nilD)) pa_nilD)) (pd_sub (pd_pow pd_int pd_int) pd_int))) pa_nilD))))) (pd_callN G (O__law_take.mono (by decide)) (pa_consD (pd_var 0) (pa_consD pd_int pa_nilD))))) (sd_one (sd_ret (pd_callN G (O__law_number.mono (by decide)) (pa_consD (pd_var 1) (pa_consD (pd_var 2) pa_nilD)))))))
theorem ok__law_drawn {P : Program} {w : World} {K : PySem.W.Frag} {mg : Str → Option Value} {base : Heap} {f : Addr} {fd : FuncData} (T : Tz K mg) (D : DefAt K mg "_law_drawn" s__law_drawn f fd) (sm : ∃ o, base.get? sysModules = some o) (O__law_far : Ok P w K mg base 2 "_law_far" ["_law_box_here"] sp__law_far) (O__law_number : Ok P w K mg base 1 "_law_number" ["_law_upper", "_law_lower"] sp__law_number) (O__law_take : Ok P w K mg base 1 "_law_take" ["_law_box_here", "_law_many"] sp__law_take) : Ok P w K mg base 3 "_law_drawn" ["_law_box_here"] sp__law_drawn := ok_mk D (fn__law_drawn T D sm O__law_far O__law_number O__law_take) (fun _ _ _ _ _ _ us hl => match us, hl with | [_], _ => rfl)
/-! _law_signs -/
abbrev s__law_signs : Stmt := topS 27
theorem sc__law_signs : FnScope ["_law_signs_here"] [] (defScope s__law_signs) := ⟨rfl, rfl, rfl, by decide +kernel, rfl, by decide +kernel, by decide +kernel⟩
def b__law_signs : DS := (sSeq (sAsg (dC (.str " !\"#$&'()*+,-./0123456789:;<=>?@ABCDEFGHIJKLMNOPQRSTUVWXYZ[\\]^_`")) (gN 0)) (sRet (dOp (fAdd false) (dVar 0) (dC (.str "abcdefghijklmnopqrstuvwxyz{|}~\n")))))
def sp__law_signs : DSp := spOf 1 0 b__law_signs
theorem fn__law_signs {P : Program} {w : World} {K : PySem.W.Frag} {mg : Str → Option Value} {base : Heap} {f : Addr} {fd : FuncData} (T : Tz K mg) (D : DefAt K mg "_law_signs" s__law_signs f fd) (sm : ∃ o, base.get? sysModules = some o)  : FnG P w K mg base 1 f fd [] sp__law_signs :=
  Fn_ok (k := 0) (b := b__law_signs) D.F sc__law_signs sm fun cdv A outer s H E G => (sd_cons (sd_set 0 G.nd pd_str) (sd_one (sd_ret (pd_add false (pd_var 0) pd_str))))
theorem ok__law_signs {P : Program} {w : World} {K : PySem.W.Frag} {mg : Str → Option Value} {base : Heap} {f : Addr} {fd : FuncData} (T : Tz K mg) (D : DefAt K mg "_law_signs" s__law_signs f fd) (sm : ∃ o, base.get? sysModules = some o)  : Ok P w K mg base 1 "_law_signs" [] sp__law_signs := ok_mk D (fn__law_signs T D sm ) (fun _ _ _ _ _ _ us hl => match us, hl with | [], _ => rfl)
/-! _law_figures -/
abbrev s__law_figures : Stmt := topS 28
theorem sc__law_figures : FnScope ["_law_box_here", "_law_size", "_law_found", "_law_stripped", "_law_k"] ["_law_box_here"] (defScope s__law_figures) := ⟨rfl, rfl, rfl, by decide +kernel, rfl, by decide +kernel, by decide +kernel⟩
def b__law_figures : DS := (sSeq (sAsg (dOp (fAdd false) (dC (.int 1)) (dOp fIx (dLst false (dCons (dCall sp__law_take [] (dCons (dVar 0) (dCons (dC (.int 3)) dNil))) (dCons (dCall sp__law_take [] (dCons (dVar 0) (dCons (dC (.int 12)) dNil))) (dCons (dOp (fAdd false) (dC (.int 56)) (dCall sp__law_take [] (dCons (dVar 0) (dCons (dC (.int 6)) dNil)))) dNil)))) (dCall sp__law_take [] (dCons (dVar 0) (dCons (dC (.int 3)) dNil))))) (gN 1)) (sSeq (sAsg (dM1 fJoin (dC (.str "")) (dLc false (iRange1 (dCons (dVar 1) dNil)) (.inl 4) tYesD (dOp fIx (dC (.str "0123456789")) (dCall sp__law_take [] (dCons (dVar 0) (dCons (dC (.int 10)) dNil)))) [4])) (gN 2)) (sSeq (sAsg (dM1 fLst (dVar 2) (dC (.str "0"))) (gN 3)) (sRet (dOp fIx (dLst false (dCons (dIf (tBl (dOp fNe (dVar 3) (dC (.str "")))) (dVar 3) (dC (.str "0"))) (dCons (dVar 2) dNil))) (dB fInt (dCons (dOp fEq (dCall sp__law_take [] (dCons (dVar 0) (dCons (dC (.int 8)) dNil))) (dC (.int 0))) dNil)))))))
def sp__law_figures : DSp := spOf 5 1 b__law_figures
theorem fn__law_figures {P : Program} {w : World} {K : PySem.W.Frag} {mg : Str → Option Value} {base : Heap} {f : Addr} {fd : FuncData} (T : Tz K mg) (D : DefAt K mg "_law_figures" s__law_figures f fd) (sm : ∃ o, base.get? sysModules = some o) (O__law_take : Ok P w K mg base 1 "_law_take" ["_law_box_here", "_law_many"] sp__law_take) : FnG P w K mg base 2 f fd ["_law_box_here"] sp__law_figures :=
  Fn_ok (k := 1) (b := b__law_figures) D.F sc__law_figures sm fun cdv A outer s H E G => (sd_cons (sd_set 1 G.nd (pd_add false pd_int (pd_ix (pd_lst false (pa_consD (pd_callN G (O__law_take.mono (by decide)) (pa_consD (pd_var 0) (pa_consD pd_int pa_nilD))) (pa_consD (pd_callN G (O__law_take.mono (by decide)) (pa_consD (pd_var 0) (pa_consD pd_int pa_nilD))) (pa_consD (pd_add false pd_int (pd_callN G (O__law_take.mono (by decide)) (pa_consD (pd_var 0) (pa_consD pd_int pa_nilD)))) pa_nilD)))) (pd_callN G (O__law_take.mono (by decide)) (pa_consD (pd_var 0) (pa_consD pd_int pa_nilD)))))) (sd_cons (sd_set 2 G.nd (pd_join pd_str (pd_lc false [("_law_k", 4)] (.inl 4) G (pi_range1D T.z_range (pa_consD (pd_var 1) pa_nilD)) (fun _ _ _ _ _ => pg_name G.nd rfl (by first | exact Or.inl rfl | exact Or.inr rfl)) (fun _ _ _ _ _ => pts_nilD) (fun _ _ _ _ _ => (pd_ix pd_str (pd_callN G.blk (O__law_take.mono (by decide)) (pa_consD (pd_var 0) (pa_consD pd_int pa_nilD)))))))) (sd_cons (sd_set 3 G.nd (pd_lst1 (pd_var 2) pd_str)) (sd_one (sd_ret (pd_ix (pd_lst false (pa_consD (pd_if (pt_ne G (pd_var 3) pd_str) (pd_var 3) pd_str) (pa_consD (pd_var 2) pa_nilD))) (pd_callTy call_int1 sim_int T.z_int (pa_consD (pd_eq G (pd_callN G (O__law_take.mono (by decide)) (pa_consD (pd_var 0) (pa_consD pd_int pa_nilD))) pd_int) pa_nilD))))))))
theorem ok__law_figures {P : Program} {w : World} {K : PySem.W.Frag} {mg : Str → Option Value} {base : Heap} {f : Addr} {fd : FuncData} (T : Tz K mg) (D : DefAt K mg "_law_figures" s__law_figures f fd) (sm : ∃ o, base.get? sysModules = some o) (O__law_take : Ok P w K mg base 1 "_law_take" ["_law_box_here", "_law_many"] sp__law_take) : Ok P w K mg base 2 "_law_figures" ["_law_box_here"] sp__law_figures := ok_mk D (fn__law_figures T D sm O__law_take) (fun _ _ _ _ _ _ us hl => match us, hl with | [_], _ => rfl)
/-! _law_written -/
abbrev s__law_written : Stmt := topS 29
theorem sc__law_written : FnScope ["_law_box_here", "_law_turn", "_law_text", "_law_at", "_law_mark"] ["_law_box_here"] (defScope s__law_written) := ⟨rfl, rfl, rfl, by decide +kernel, rfl, by decide +kernel, by decide +kernel⟩
def b__law_written : DS := (sSeq (sAsg (dCall sp__law_take [] (dCons (dVar 0) (dCons (dC (.int 6)) dNil))) (gN 1)) (sSeq (sAsg (dOp (fAdd false) (dOp fIx (dLst false (dCons (dC (.str "")) (dCons (dC (.str "-")) (dCons (dC (.str "")) dNil)))) (dCall sp__law_take [] (dCons (dVar 0) (dCons (dC (.int 3)) dNil)))) (dCall sp__law_figures [] (dCons (dVar 0) dNil))) (gN 2)) (sSeq (sIf (tBl (dOp fGtS (dCall sp__law_take [] (dCons (dVar 0) (dCons (dC (.int 3)) dNil))) (dC (.int 0)))) (sAsg (dOp (fAdd false) (dOp (fAdd false) (dVar 2) (dC (.str "/"))) (dCall sp__law_figures [] (dCons (dVar 0) dNil))) (gN 2)) sNil) (sSeq (sAsg (dOp fIx (dLst false (dCons (dC (.int 0)) (dCons (dB fLen (dCons (dVar 2) dNil)) (dCons (dCall sp__law_take [] (dCons (dVar 0) (dCons (dOp (fAdd false) (dB fLen (dCons (dVar 2) dNil)) (dC (.int 1))) dNil))) dNil)))) (dCall sp__law_take [] (dCons (dVar 0) (dCons (dC (.int 3)) dNil)))) (gN 3)) (sSeq (sAsg (dOp fIx (dLst false (dCons (dOp fIx (dCall sp__law_signs [] dNil) (dCall sp__law_take [] (dCons (dVar 0) (dCons (dC (.int 95)) dNil)))) (dCons (dC (.str "/")) (dCons (dC (.str "-")) (dCons (dC (.str "0")) dNil))))) (dCall sp__law_take [] (dCons (dVar 0) (dCons (dC (.int 4)) dNil)))) (gN 4)) (sSeq (sIf (tBl (dOp fEq (dVar 1) (dC (.int 0)))) (sRet (dOp (fAdd false) (dOp (fAdd false) (dSl false (dVar 2) dNo (dPart (dVar 3))) (dVar 4)) (dSl false (dVar 2) (dPart (dVar 3)) dNo))) sNil) (sSeq (sIf (tBl (dOp fEq (dVar 1) (dC (.int 1)))) (sRet (dOp (fAdd false) (dSl false (dVar 2) dNo (dPart (dVar 3))) (dSl false (dVar 2) (dPart (dOp (fAdd false) (dVar 3) (dC (.int 1)))) dNo))) sNil) (sSeq (sIf (tBl (dOp fEq (dVar 1) (dC (.int 2)))) (sRet (dOp (fAdd false) (dOp (fAdd false) (dSl false (dVar 2) dNo (dPart (dVar 3))) (dVar 4)) (dSl false (dVar 2) (dPart (dOp (fAdd false) (dVar 3) (dC (.int 1)))) dNo))) sNil) (sRet (dVar 2))))))))))
def sp__law_written : DSp := spOf 5 1 b__law_written
theorem fn__law_written {P : Program} {w : World} {K : PySem.W.Frag} {mg : Str → Option Value} {base : Heap} {f : Addr} {fd : FuncData} (T : Tz K mg) (D : DefAt K mg "_law_written" s__law_written f fd) (sm : ∃ o, base.get? sysModules = some o) (O__law_figures : Ok P w K mg base 2 "_law_figures" ["_law_box_here"] sp__law_figures) (O__law_signs : Ok P w K mg base 1 "_law_signs" [] sp__law_signs) (O__law_take : Ok P w K mg base 1 "_law_take" ["_law_box_here", "_law_many"] sp__law_take) : FnG P w K mg base 3 f fd ["_law_box_here"] sp__law_written :=
  Fn_ok (k := 2) (b := b__law_written) D.F sc__law_written sm fun cdv A outer s H E G => (sd_cons (sd_set 1 G.nd (pd_callN G (O__law_take.mono (by decide)) (pa_consD (pd_var 0) (pa_consD pd_int pa_nilD)))) (sd_cons (sd_set 2 G.nd (pd_add false (pd_ix (pd_lst false (pa_consD pd_str (pa_consD pd_str (pa_consD pd_str pa_nilD)))) (pd_callN G (O__law_take.mono (by decide)) (pa_consD (pd_var 0) (pa_consD pd_int pa_nilD)))) (pd_callN G (O__law_figures.mono (by decide)) (pa_consD (pd_var 0) pa_nilD)))) (sd_cons (sd_if (pt_gt (pd_callN G (O__law_take.mono (by decide)) (pa_consD (pd_var 0) (pa_consD pd_int pa_nilD))) pd_int) (sd_one (sd_set 2 G.nd (pd_add false (pd_add false (pd_var 2) pd_str) (pd_callN G (O__law_figures.mono (by decide)) (pa_consD (pd_var 0) pa_nilD))))) sd_nil) (sd_cons (sd_set 3 G.nd (pd_ix (pd_lst false (pa_consD pd_int (pa_consD (pd_callB call_len sim_len T.z_len (pa_consD (pd_var 2) pa_nilD)) (pa_consD (pd_callN G (O__law_take.mono (by decide)) (pa_consD (pd_var 0) (pa_consD (pd_add false (pd_callB call_len sim_len T.z_len (pa_consD (pd_var 2) pa_nilD)) pd_int) pa_nilD))) pa_nilD)))) (pd_callN G (O__law_take.mono (by decide)) (pa_consD (pd_var 0) (pa_consD pd_int pa_nilD))))) (sd_cons (sd_set 4 G.nd (pd_ix (pd_lst false (pa_consD (pd_ix (pd_callN0 G (O__law_signs.mono (by decide))) (pd_callN G (O__law_take.mono (by decide)) (pa_consD (pd_var 0) (pa_consD pd_int pa_nilD)))) (pa_consD pd_str (pa_consD pd_str (pa_consD pd_str pa_nilD))))) (pd_callN G (O__law_take.mono (by decide)) (pa_consD (pd_var 0) (pa_consD pd_int pa_nilD))))) (sd_cons (sd_if (pt_eq G (pd_var 1) pd_int) (sd_one (sd_ret (pd_add false (pd_add false (pd_sl false (pd_var 2) po_noD (po_partD (pd_var 3))) (pd_var 4)) (pd_sl false (pd_var 2) (po_partD (pd_var 3)) po_noD)))) sd_nil) (sd_cons (sd_if (pt_eq G (pd_var 1) pd_int) (sd_one (sd_ret (pd_add false (pd_sl false (pd_var 2) po_noD (po_partD (pd_var 3))) (pd_sl false (pd_var 2) (po_partD (pd_add false (pd_var 3) pd_int)) po_noD)))) sd_nil) (sd_cons (sd_if (pt_eq G (pd_var 1) pd_int) (sd_one (sd_ret (pd_add false (pd_add false (pd_sl false (pd_var 2) po_noD (po_partD (pd_var 3))) (pd_var 4)) (pd_sl false (pd_var 2) (po_partD (pd_add false (pd_var 3) pd_int)) po_noD)))) sd_nil) (sd_one (sd_ret (pd_var 2)))))))))))
theorem ok__law_written {P : Program} {w : World} {K : PySem.W.Frag} {mg : Str → Option Value} {base : Heap} {f : Addr} {fd : FuncData} (T : Tz K mg) (D : DefAt K mg "_law_written" s__law_written f fd) (sm : ∃ o, base.get? sysModules = some o) (O__law_figures : Ok P w K mg base 2 "_law_figures" ["_law_box_here"] sp__law_figures) (O__law_signs : Ok P w K mg base 1 "_law_signs" [] sp__law_signs) (O__law_take : Ok P w K mg base 1 "_law_take" ["_law_box_here", "_law_many"] sp__law_take) : Ok P w K mg base 3 "_law_written" ["_law_box_here"] sp__law_written := ok_mk D (fn__law_written T D sm O__law_figures O__law_signs O__law_take) (fun _ _ _ _ _ _ us hl => match us, hl with | [_], _ => rfl)
/-! _law_plainly -/
abbrev s__law_plainly : Stmt := topS 30
theorem sc__law_plainly : FnScope ["_law_text", "_law_number_here", "_law_mark"] ["_law_text"] (defScope s__law_plainly) := ⟨rfl, rfl, rfl, by decide +kernel, rfl, by decide +kernel, by decide +kernel⟩
def b__law_plainly : DS := (sSeq (sIf (tOrD (tNotD (tBl (dChain fLeS fLeS (dC (.int 1)) (dB fLen (dCons (dVar 0) dNil)) (dC (.int 60))))) (tAndD (tBl (dOp fGtS (dB fLen (dCons (dVar 0) dNil)) (dC (.int 1)))) (tBl (dOp fEq (dOp fIx (dVar 0) (dC (.int 0))) (dC (.str "0")))))) (sRet (dC .non)) sNil) (sSeq (sAsg (dC (.int 0)) (gN 1)) (sSeq (sFor (iSeq (dVar 0)) (gN 2) (sSeq (sIf (tNotD (tBl (dChain fLeS fLeS (dC (.str "0")) (dVar 2) (dC (.str "9"))))) (sRet (dC .non)) sNil) (sAsg (dOp (fAdd false) (dOp fMulI (dC (.int 10)) (dVar 1)) (dM1 fFnd (dC (.str "0123456789")) (dVar 2))) (gN 1)))) (sRet (dVar 1)))))
def sp__law_plainly : DSp := spOf 3 1 b__law_plainly
theorem fn__law_plainly {P : Program} {w : World} {K : PySem.W.Frag} {mg : Str → Option Value} {base : Heap} {f : Addr} {fd : FuncData} (T : Tz K mg) (D : DefAt K mg "_law_plainly" s__law_plainly f fd) (sm : ∃ o, base.get? sysModules = some o)  : FnG P w K mg base 1 f fd ["_law_text"] sp__law_plainly :=
  Fn_ok (k := 0) (b := b__law_plainly) D.F sc__law_plainly sm fun cdv A outer s H E G => (sd_cons (sd_if (PW.pt (pw_orD (pt_notD (pt_chainD op_leS sim_ord op_leS sim_ord pd_int (pd_callB call_len sim_len T.z_len (pa_consD (pd_var 0) pa_nilD)) pd_int)) (pw_or1D (PW.pt (pw_andD (pt_gt (pd_callB call_len sim_len T.z_len (pa_consD (pd_var 0) pa_nilD)) pd_int) (pw_and1D (pt_eq G (pd_ix (pd_var 0) pd_int) pd_str))))))) (sd_one (sd_ret pd_non)) sd_nil) (sd_cons (sd_set 1 G.nd pd_int) (sd_cons (sd_for G (pi_seqD (pd_var 0)) (pg_nameD (i := 2) G.nd) (sd_cons (sd_if (pt_notD (pt_chainD op_leS sim_ord op_leS sim_ord pd_str (pd_var 2) pd_str)) (sd_one (sd_ret pd_non)) sd_nil) (sd_one (sd_set 1 G.nd (pd_add false (pd_mulI pd_int (pd_var 1)) (pd_fnd pd_str (pd_var 2))))))) (sd_one (sd_ret (pd_var 1))))))
theorem ok__law_plainly {P : Program} {w : World} {K : PySem.W.Frag} {mg : Str → Option Value} {base : Heap} {f : Addr} {fd : FuncData} (T : Tz K mg) (D : DefAt K mg "_law_plainly" s__law_plainly f fd) (sm : ∃ o, base.get? sysModules = some o)  : Ok P w K mg base 1 "_law_plainly" ["_law_text"] sp__law_plainly := ok_mk D (fn__law_plainly T D sm ) (fun _ _ _ _ _ _ us hl => match us, hl with | [_], _ => rfl)
/-! _law_due -/
abbrev s__law_due : Stmt := topS 31
theorem sc__law_due : FnScope ["_law_thing", "_law_below", "_law_parts", "_law_mark", "_law_numbers", "_law_part"] ["_law_thing"] (defScope s__law_due) := ⟨rfl, rfl, rfl, by decide +kernel, rfl, by decide +kernel, by decide +kernel⟩
def b__law_due : DS := (sSeq (sIf (tNotD (tTru (dB (fIsi kt) (dCons (dVar 0) (dCons (dC (.ty "str")) dNil))))) (sRet (dC .non)) sNil) (sSeq (sAsg (dOp fEq (dSl false (dVar 0) dNo (dPart (dC (.int 1)))) (dC (.str "-"))) (gN 1)) (sSeq (sAsg (dLst true (dCons (dC (.str "")) dNil)) (gN 2)) (sSeq (sFor (iSeq (dSl false (dVar 0) (dPart (dB fInt (dCons (dVar 1) dNil))) dNo)) (gN 3) (sIf (tBl (dOp fEq (dVar 3) (dC (.str "/")))) (sExp (dBM "list" fAppend (dVar 2) (dCons (dC (.str "")) dNil))) (sAsg (dOp (fAdd false) (dOp fIx (dVar 2) (dUn fNeg (dC (.int 1)))) (dVar 3)) (gSubD (dVar 2) (dUn fNeg (dC (.int 1))) fSet)))) (sSeq (sAsg (dLc false (iSeq (dVar 2)) (.inl 5) tYesD (dCall sp__law_plainly [] (dCons (dVar 5) dNil)) [5]) (gN 4)) (sSeq (sIf (tOrD (tBl (dOp fGtS (dB fLen (dCons (dVar 2) dNil)) (dC (.int 2)))) (tOrD (tBl (dOp (fIn false) (dC .non) (dVar 4))) (tAndD (tBl (dOp fEq (dB fLen (dCons (dVar 2) dNil)) (dC (.int 2)))) (tBl (dOp fEq (dOp fIx (dVar 4) (dC (.int 1))) (dC (.int 0))))))) (sRet (dC .non)) sNil) (sRet (dCall sp__law_number [] (dCons (dIf (tTru (dVar 1)) (dOp fSub (dC (.int 0)) (dOp fIx (dVar 4) (dC (.int 0)))) (dOp fIx (dVar 4) (dC (.int 0)))) (dCons (dOp fIx (dOp (fAdd false) (dVar 4) (dLst false (dCons (dC (.int 1)) dNil))) (dC (.int 1))) dNil))))))))))
def sp__law_due : DSp := spOf 6 1 b__law_due
theorem fn__law_due {P : Program} {w : World} {K : PySem.W.Frag} {mg : Str → Option Value} {base : Heap} {f : Addr} {fd : FuncData} (T : Tz K mg) (D : DefAt K mg "_law_due" s__law_due f fd) (sm : ∃ o, base.get? sysModules = some o) (O__law_number : Ok P w K mg base 1 "_law_number" ["_law_upper", "_law_lower"] sp__law_number) (O__law_plainly : Ok P w K mg base 1 "_law_plainly" ["_law_text"] sp__law_plainly) : FnG P w K mg base 2 f fd ["_law_thing"] sp__law_due :=
  Fn_ok (k := 1) (b := b__law_due) D.F sc__law_due sm fun cdv A outer s H E G => (sd_cons (sd_if (pt_notD (pt_truD (pd_callB (call_isiD T.kit) sim_isi T.z_isinstance (pa_consD (pd_var 0) (pa_consD (pd_tyName T.z_str) pa_nilD))))) (sd_one (sd_ret pd_non)) sd_nil) (sd_cons (sd_set 1 G.nd (pd_eq G (pd_sl false (pd_var 0) po_noD (po_partD pd_int)) pd_str)) (sd_cons (sd_set 2 G.nd (pd_lst true (pa_consD pd_str pa_nilD))) (sd_cons (sd_for G (pi_seqD (pd_sl false (pd_var 0) (po_partD (pd_callTy call_int1 sim_int T.z_int (pa_consD (pd_var 1) pa_nilD))) po_noD)) (pg_nameD (i := 3) G.nd) (sd_one (sd_if (pt_eq G (pd_var 3) pd_str) (sd_one (sd_exp (pd_append (pd_var 2) (pa_consD pd_str pa_nilD)))) (sd_one (sd_asg (pd_add false (pd_ix (pd_var 2) (pd_neg pd_int)) (pd_var 3)) (pg_subD (pd_var 2) (pd_neg pd_int))))))) (sd_cons (sd_setLc 4 false [("_law_part", 5)] (.inl 5) G (pi_seqD (pd_var 2)) (fun _ _ _ _ _ => pg_name G.nd rfl (by first | exact Or.inl rfl | exact Or.inr rfl)) (fun _ _ _ _ _ => pts_nilD) (fun _ _ _ _ _ => (pd_callN G.blk (O__law_plainly.mono (by decide)) (pa_consD (pd_var 5) pa_nilD)))) (sd_cons (sd_if (PW.pt (pw_orD (pt_gt (pd_callB call_len sim_len T.z_len (pa_consD (pd_var 2) pa_nilD)) pd_int) (pw_orD (pt_in G pd_non (pd_var 4)) (pw_or1D (PW.pt (pw_andD (pt_eq G (pd_callB call_len sim_len T.z_len (pa_consD (pd_var 2) pa_nilD)) pd_int) (pw_and1D (pt_eq G (pd_ix (pd_var 4) pd_int) pd_int)))))))) (sd_one (sd_ret pd_non)) sd_nil) (sd_one (sd_ret (pd_callN G (O__law_number.mono (by decide)) (pa_consD (pd_if (pt_truD (pd_var 1)) (pd_sub pd_int (pd_ix (pd_var 4) pd_int)) (pd_ix (pd_var 4) pd_int)) (pa_consD (pd_ix (pd_add false (pd_var 4) (pd_lst false (pa_consD pd_int pa_nilD))) pd_int) pa_nilD)))))))))))
theorem ok__law_due {P : Program} {w : World} {K : PySem.W.Frag} {mg : Str → Option Value} {base : Heap} {f : Addr} {fd : FuncData} (T : Tz K mg) (D : DefAt K mg "_law_due" s__law_due f fd) (sm : ∃ o, base.get? sysModules = some o) (O__law_number : Ok P w K mg base 1 "_law_number" ["_law_upper", "_law_lower"] sp__law_number) (O__law_plainly : Ok P w K mg base 1 "_law_plainly" ["_law_text"] sp__law_plainly) : Ok P w K mg base 2 "_law_due" ["_law_thing"] sp__law_due := ok_mk D (fn__law_due T D sm O__law_number O__law_plainly) (fun _ _ _ _ _ _ us hl => match us, hl with | [_], _ => rfl)
/-! _law_right -/
abbrev s__law_right : Stmt := topS 32
theorem sc__law_right : FnScope ["_law_thing", "_law_due_here", "_law_turn", "_law_found"] ["_law_thing"] (defScope s__law_right) := ⟨rfl, rfl, rfl, by decide +kernel, rfl, by decide +kernel, by decide +kernel⟩
def b__law_right : DS := (sSeq (sAsg (dCall sp__law_due [] (dCons (dVar 0) dNil)) (gN 1)) (sSeq (sFor (iRange1 (dCons (dC (.int 2)) dNil)) (gN 2) (sSeq (sAsg (dCall sp_number_of [] (dCons (dVar 0) dNil)) (gN 3)) (sIf (tOrD (tAndD (tBl (dOp fIs (dVar 1) (dC .non))) (tBl (dOp fIsNot (dVar 3) (dC .non)))) (tAndD (tBl (dOp fIsNot (dVar 1) (dC .non))) (tNotD (tTru (dCall (sp__law_is 2) [] (dCons (dVar 3) (dCons (dVar 1) dNil))))))) (sRet (dC (.bl false))) sNil))) (sRet (dC (.bl true)))))
def sp__law_right : DSp := spOf 4 1 b__law_right
theorem fn__law_right {P : Program} {w : World} {K : PySem.W.Frag} {mg : Str → Option Value} {base : Heap} {f : Addr} {fd : FuncData} (T : Tz K mg) (D : DefAt K mg "_law_right" s__law_right f fd) (sm : ∃ o, base.get? sysModules = some o) (O__law_due : Ok P w K mg base 2 "_law_due" ["_law_thing"] sp__law_due) (O__law_is : Ok P w K mg base 2 "_law_is" ["_law_found", "_law_due_here"] (sp__law_is 2)) (O_number_of : Ok P w K mg base 3 "number_of" ["thing"] sp_number_of) : FnG P w K mg base 4 f fd ["_law_thing"] sp__law_right :=
  Fn_ok (k := 3) (b := b__law_right) D.F sc__law_right sm fun cdv A outer s H E G => (sd_cons (sd_set 1 G.nd (pd_callN G (O__law_due.mono (by decide)) (pa_consD (pd_var 0) pa_nilD))) (sd_cons (sd_for G (pi_range1D T.z_range (pa_consD pd_int pa_nilD)) (pg_nameD (i := 2) G.nd) (sd_cons (sd_set 3 G.nd (pd_callN G (O_number_of.mono (by decide)) (pa_consD (pd_var 0) pa_nilD))) (sd_one (sd_if (PW.pt (pw_orD (PW.pt (pw_andD (pt_is (pd_var 1) pd_non) (pw_and1D (pt_isNot (pd_var 3) pd_non)))) (pw_or1D (PW.pt (pw_andD (pt_isNot (pd_var 1) pd_non) (pw_and1D (pt_notD (pt_truD (pd_callN G (O__law_is.mono (by decide)) (pa_consD (pd_var 3) (pa_consD (pd_var 1) pa_nilD))))))))))) (sd_one (sd_ret pd_bl)) sd_nil)))) (sd_one (sd_ret pd_bl))))
theorem ok__law_right {P : Program} {w : World} {K : PySem.W.Frag} {mg : Str → Option Value} {base : Heap} {f : Addr} {fd : FuncData} (T : Tz K mg) (D : DefAt K mg "_law_right" s__law_right f fd) (sm : ∃ o, base.get? sysModules = some o) (O__law_due : Ok P w K mg base 2 "_law_due" ["_law_thing"] sp__law_due) (O__law_is : Ok P w K mg base 2 "_law_is" ["_law_found", "_law_due_here"] (sp__law_is 2)) (O_number_of : Ok P w K mg base 3 "number_of" ["thing"] sp_number_of) : Ok P w K mg base 4 "_law_right" ["_law_thing"] sp__law_right := ok_mk D (fn__law_right T D sm O__law_due O__law_is O_number_of) (fun _ _ _ _ _ _ us hl => match us, hl with | [_], _ => rfl)
/-! law -/
abbrev s_law : Stmt := topS 33
theorem sc_law : FnScope ["_law_script", "_law_k", "_law_box_here", "_law_number_here", "_law_a", "_law_b", "_law_text", "_law_thing", "_law_odd", "_law_far_here", "_law_great"] ["_law_script"] (defScope s_law) := ⟨rfl, rfl, rfl, by decide +kernel, rfl, by decide +kernel, by decide +kernel⟩
def b_law : DS := (sSeq (sFor (iRange1 (dCons (dB fMax2 (dCons (dC (.int 2)) (dCons (dB fMin2 (dCons (dC (.int 10)) (dCons (dB fLen (dCons (dVar 0) dNil)) dNil))) dNil))) dNil)) (gN 1) (sSeq (sAsg (dCall sp__law_box [] (dCons (dCall sp__law_cell [] (dCons (dVar 0) (dCons (dVar 1) dNil))) dNil)) (gN 2)) (sSeq (sAsg (dCall sp__law_drawn [] (dCons (dVar 2) dNil)) (gN 3)) (sSeq (sAsg (dCall sp__law_pair [] (dCons (dVar 3) dNil)) (gTupD 2 (gConsD (gN 4) (gConsD (gN 5) gNilD)))) (sSeq (sAsg (dOp (fAdd false) (dOp (fAdd false) (dOp fIx (dLst false (dCons (dC (.str "")) (dCons (dC (.str "-")) dNil))) (dB fInt (dCons (dOp fLtS (dVar 4) (dC (.int 0))) dNil))) (dB fStr (dCons (dB fAbs (dCons (dVar 4) dNil)) dNil))) (dOp fIx (dLst false (dCons (dC (.str "")) (dCons (dOp (fAdd false) (dC (.str "/")) (dB fStr (dCons (dVar 5) dNil))) dNil))) (dB fInt (dCons (dOp fGtS (dVar 5) (dC (.int 1))) dNil)))) (gN 6)) (sSeq (sIf (tOrD (tBl (dOp fNe (dCall sp_number_text [] (dCons (dVar 3) dNil)) (dVar 6))) (tNotD (tTru (dCall (sp__law_is 2) [] (dCons (dCall sp_number_of [] (dCons (dVar 6) dNil)) (dCons (dVar 3) dNil)))))) (sRet (dC (.bl false))) sNil) (sSeq (sFor (iSeq (dLst false (dCons (dCall sp__law_written [] (dCons (dVar 2) dNil)) (dCons (dCall sp__law_written [] (dCons (dVar 2) dNil)) (dCons (dC (.str "-0")) (dCons (dOp (fAdd false) (dVar 6) (dC (.str "\n"))) (dCons (dOp (fAdd false) (dVar 6) (dC (.str "/1"))) dNil))))))) (gN 7) (sIf (tNotD (tTru (dCall sp__law_right [] (dCons (dVar 7) dNil)))) (sRet (dC (.bl false))) sNil)) (sSeq (sAsg (dLst true (dCons (dC .non) (dCons (dC (.int 3)) (dCons (dC (.bl true)) (dCons (dTup (dCons (dC (.int 1)) (dCons (dC (.int 2)) dNil))) (dCons (dLst false (dCons (dC (.str "1")) dNil)) (dCons (dTup (dCons (dC (.str "1")) dNil)) (dCons (dDct0 false) (dCons (dC (.str "")) (dCons (dC (.str "/")) (dCons (dC (.str "-")) (dCons (dC (.str "1/")) (dCons (dC (.str "/2")) (dCons (dC (.str "--1")) (dCons (dC (.str "1/-2")) (dCons (dC (.str "+1")) (dCons (dC (.str "1_0")) dNil))))))))))))))))) (gN 8)) (sSeq (sExp (dBM "list" fAppend (dVar 8) (dCons (dMk "NoText" ["found"] (dCons (dC (.str "1")) dNil)) dNil))) (sSeq (sIf (tBl (dOp fEq (dVar 1) (dC (.int 0)))) (sSeq (sAsg (dOp (fAdd false) (dOp fPow (dC (.int 10)) (dC (.int 59))) (dCall sp__law_take [] (dCons (dVar 2) (dCons (dOp fPow (dC (.int 10)) (dC (.int 9))) dNil)))) (gN 9)) (sSeq (sAsg (dCall sp_times [] (dCons (dVar 9) (dCons (dVar 9) dNil))) (gN 10)) (sSeq (sAsg (dB fStr (dCons (dOp fMulI (dVar 9) (dVar 9)) dNil)) (gN 6)) (sSeq (sIf (tOrD (tBl (dOp fNe (dCall sp_number_text [] (dCons (dVar 10) dNil)) (dVar 6))) (tBl (dOp fNe (dCall sp_number_text [] (dCons (dCall sp_over [] (dCons (dC (.int 1)) (dCons (dVar 10) dNil))) dNil)) (dOp (fAdd false) (dC (.str "1/")) (dVar 6))))) (sRet (dC (.bl false))) sNil) (sIf (tBl (dOp fNe (dLc false (iSeq (dLst false (dCons (dC (.str "")) (dCons (dC (.str "-")) (dCons (dC (.str "1/")) dNil))))) (.inl 7) (tBl (dOp fIsNot (dCall sp_number_of [] (dCons (dOp (fAdd false) (dVar 7) (dOp fMulS (dC (.str "7")) (dC (.int 5000)))) dNil)) (dC .non))) (dVar 7) [7]) (dLst false dNil))) (sRet (dC (.bl false))) sNil))))) sNil) (sIf (tNotD (tTru (dCall sp__law_right [] (dCons (dOp fIx (dVar 8) (dCall sp__law_take [] (dCons (dVar 2) (dCons (dC (.int 17)) dNil)))) dNil)))) (sRet (dC (.bl false))) sNil))))))))))) (sRet (dC (.bl true))))
def sp_law : DSp := spOf 11 1 b_law
theorem fn_law {P : Program} {w : World} {K : PySem.W.Frag} {mg : Str → Option Value} {base : Heap} {f : Addr} {fd : FuncData} (T : Tz K mg) (D : DefAt K mg "law" s_law f fd) (sm : ∃ o, base.get? sysModules = some o) (E_NoText : ExOk P w K mg base "NoText" ["found"]) (O__law_box : Ok P w K mg base 1 "_law_box" ["_law_cell_here"] sp__law_box) (O__law_cell : Ok P w K mg base 1 "_law_cell" ["_law_script", "_law_k"] sp__law_cell) (O__law_drawn : Ok P w K mg base 3 "_law_drawn" ["_law_box_here"] sp__law_drawn) (O__law_is : Ok P w K mg base 2 "_law_is" ["_law_found", "_law_due_here"] (sp__law_is 2)) (O__law_pair : Ok P w K mg base 1 "_law_pair" ["_law_number_here"] sp__law_pair) (O__law_right : Ok P w K mg base 4 "_law_right" ["_law_thing"] sp__law_right) (O__law_take : Ok P w K mg base 1 "_law_take" ["_law_box_here", "_law_many"] sp__law_take) (O__law_written : Ok P w K mg base 3 "_law_written" ["_law_box_here"] sp__law_written) (O_number_of : Ok P w K mg base 3 "number_of" ["thing"] sp_number_of) (O_number_text : Ok P w K mg base 4 "number_text" ["number"] sp_number_text) (O_over : Ok P w K mg base 4 "over" ["one", "other"] sp_over) (O_times : Ok P w K mg base 4 "times" ["one", "other"] sp_times) : FnG P w K mg base 5 f fd ["_law_script"] sp_law :=
  Fn_ok (k := 4) (b := b_law) D.F sc_law sm fun cdv A outer s H E G => (sd_cons (sd_for G (pi_range1D T.z_range (pa_consD (pd_callB (call_max2 G.calm) sim_max2 T.z_max (pa_consD pd_int (pa_consD (pd_callB (call_min2 G.calm) sim_min2 T.z_min (pa_consD pd_int (pa_consD (pd_callB call_len sim_len T.z_len (pa_consD (pd_var 0) pa_nilD)) pa_nilD))) pa_nilD))) pa_nilD)) (pg_nameD (i := 1) G.nd) (sd_cons (sd_set 2 G.nd (pd_callN G (O__law_box.mono (by decide)) (pa_consD (pd_callN G (O__law_cell.mono (by decide)) (pa_consD (pd_var 0) (pa_consD (pd_var 1) pa_nilD))) pa_nilD))) (sd_cons (sd_set 3 G.nd (pd_callN G (O__law_drawn.mono (by decide)) (pa_consD (pd_var 2) pa_nilD))) (sd_cons (sd_asg (pd_callN G (O__law_pair.mono (by decide)) (pa_consD (pd_var 3) pa_nilD)) (pg_tupD G.calm (pgs_consD (pg_nameD (i := 4) G.nd) (pgs_consD (pg_nameD (i := 5) G.nd) pgs_nilD)))) (sd_cons (sd_set 6 G.nd (pd_add false (pd_add false (pd_ix (pd_lst false (pa_consD pd_str (pa_consD pd_str pa_nilD))) (pd_callTy call_int1 sim_int T.z_int (pa_consD (pd_lt (pd_var 4) pd_int) pa_nilD))) (pd_callTy (DL.CallR.or call_str_int SkE.call_str_str) sim_str T.z_str (pa_consD (pd_callB call_abs sim_abs T.z_abs (pa_consD (pd_var 4) pa_nilD)) pa_nilD))) (pd_ix (pd_lst false (pa_consD pd_str (pa_consD (pd_add false pd_str (pd_callTy (DL.CallR.or call_str_int SkE.call_str_str) sim_str T.z_str (pa_consD (pd_var 5) pa_nilD))) pa_nilD))) (pd_callTy call_int1 sim_int T.z_int (pa_consD (pd_gt (pd_var 5) pd_int) pa_nilD))))) (sd_cons (sd_if (PW.pt (pw_orD (pt_ne G (pd_callN G (O_number_text.mono (by decide)) (pa_consD (pd_var 3) pa_nilD)) (pd_var 6)) (pw_or1D (pt_notD (pt_truD (pd_callN G (O__law_is.mono (by decide)) (pa_consD (pd_callN G (O_number_of.mono (by decide)) (pa_consD (pd_var 6) pa_nilD)) (pa_consD (pd_var 3) pa_nilD)))))))) (sd_one (sd_ret pd_bl)) sd_nil) (sd_cons (sd_for G (pi_seqD (pd_lst false (pa_consD (pd_callN G (O__law_written.mono (by decide)) (pa_consD (pd_var 2) pa_nilD)) (pa_consD (pd_callN G (O__law_written.mono (by decide)) (pa_consD (pd_var 2) pa_nilD)) (pa_consD pd_str (pa_consD (pd_add false (pd_var 6) pd_str) (pa_consD (pd_add false (pd_var 6) pd_str) pa_nilD))))))) (pg_nameD (i := 7) G.nd) (sd_one (sd_if (pt_notD (pt_truD (pd_callN G (O__law_right.mono (by decide)) (pa_consD (pd_var 7) pa_nilD)))) (sd_one (sd_ret pd_bl)) sd_nil))) (sd_cons (sd_set 8 G.nd (pd_lst true (pa_consD pd_non (pa_consD pd_int (pa_consD pd_bl (pa_consD (pd_tup (pa_consD pd_int (pa_consD pd_int pa_nilD))) (pa_consD (pd_lst false (pa_consD pd_str pa_nilD)) (pa_consD (pd_tup (pa_consD pd_str pa_nilD)) (pa_consD (pd_dct0 false) (pa_consD pd_str (pa_consD pd_str (pa_consD pd_str (pa_consD pd_str (pa_consD pd_str (pa_consD pd_str (pa_consD pd_str (pa_consD pd_str (pa_consD pd_str pa_nilD)))))))))))))))))) (sd_cons (sd_exp (pd_append (pd_var 8) (pa_consD (pd_mkE (G.mono (j := 2) (by decide)) E_NoText (pa_consD pd_str pa_nilD)) pa_nilD))) (sd_cons (sd_if (pt_eq G (pd_var 1) pd_int) (sd_cons (sd_set 9 G.nd (pd_add false (pd_pow pd_int pd_int) (pd_callN G (O__law_take.mono (by decide)) (pa_consD (pd_var 2) (pa_consD (pd_pow pd_int pd_int) pa_nilD))))) (sd_cons (sd_set 10 G.nd (pd_callN G (O_times.mono (by decide)) (pa_consD (pd_var 9) (pa_consD (pd_var 9) pa_nilD)))) (sd_cons (sd_set 6 G.nd (pd_callTy (DL.CallR.or call_str_int SkE.call_str_str) sim_str T.z_str (pa_consD (pd_mulI (pd_var 9) (pd_var 9)) pa_nilD))) (sd_cons (sd_if (PW.pt (pw_orD (pt_ne G (pd_callN G (O_number_text.mono (by decide)) (pa_consD (pd_var 10) pa_nilD)) (pd_var 6)) (pw_or1D (pt_ne G (pd_callN G (O_number_text.mono (by decide)) (pa_consD (pd_callN G (O_over.mono (by decide)) (pa_consD pd_int (pa_consD (pd_var 10) pa_nilD))) pa_nilD)) (pd_add false pd_str (pd_var 6)))))) (sd_one (sd_ret pd_bl)) sd_nil) (sd_one (sd_if (pt_ne G (pd_lc false [("_law_thing", 7)] (.inl 7) G (pi_seqD (pd_lst false (pa_consD pd_str (pa_consD pd_str (pa_consD pd_str pa_nilD))))) (fun _ _ _ _ _ => pg_name G.nd rfl (by first | exact Or.inl rfl | exact Or.inr rfl)) (fun _ _ _ _ _ => pts_oneD (pt_isNot (pd_callN G.blk (O_number_of.mono (by decide)) (pa_consD (pd_add false (pd_var 7) (pd_mulS pd_str pd_int)) pa_nilD)) pd_non)) (fun _ _ _ _ _ => (pd_var 7))) (pd_lst false pa_nilD)) (sd_one (sd_ret pd_bl)) sd_nil)))))) sd_nil) (sd_one (sd_if (pt_notD (pt_truD (pd_callN G (O__law_right.mono (by decide)) (pa_consD (pd_ix (pd_var 8) (pd_callN G (O__law_take.mono (by decide)) (pa_consD (pd_var 2) (pa_consD pd_int pa_nilD)))) pa_nilD)))) (sd_one (sd_ret pd_bl)) sd_nil)))))))))))) (sd_one (sd_ret pd_bl)))
end L_k04

namespace L_k04
open PySem DL
/-! what a text of figures writes -/
def dg (c : Nat) : Bool := decide (48 ≤ c ∧ c ≤ 57)
def fv (cs : List Nat) : Nat := cs.foldl (fun a c => a * 10 + (c - 48)) 0
def pl (cs : List Nat) : Option Nat := if 1 ≤ cs.length ∧ cs.length ≤ 60 ∧ cs.all dg = true ∧ ¬ (1 < cs.length ∧ cs.head? = some 48) then some (fv cs) else none
def spl : List Nat → List (List Nat)
  | [] => [[]]
  | c :: cs => if c = 47 then [] :: spl cs else match spl cs with
    | p :: ps => (c :: p) :: ps
    | [] => [[c]]
theorem spl_ne : ∀ cs, spl cs ≠ []
  | [] => by
    unfold spl
    exact List.cons_ne_nil _ _
  | c :: cs => by
    unfold spl
    split
    · exact List.cons_ne_nil _ _
    · split <;> exact List.cons_ne_nil _ _
theorem spl_cons {c : Nat} {cs : List Nat} (h : c ≠ 47) : ∃ p ps, spl cs = p :: ps ∧ spl (c :: cs) = (c :: p) :: ps := by
  cases e : spl cs with
  | nil => exact absurd e (spl_ne cs)
  | cons p ps =>
    refine ⟨p, ps, rfl, ?_⟩
    show (if c = 47 then [] :: spl cs else match spl cs with | p :: ps => (c :: p) :: ps | [] => [[c]]) = _
    rw [if_neg h, e]
theorem spl_bar (cs : List Nat) : spl (47 :: cs) = [] :: spl cs := by
  show (if 47 = 47 then [] :: spl cs else _) = _
  rw [if_pos rfl]
theorem spl_free : ∀ {a : List Nat}, 47 ∉ a → spl a = [a]
  | [], _ => rfl
  | c :: cs, h => by
    obtain ⟨p, ps, e1, e2⟩ := spl_cons (cs := cs) (fun z : c = 47 => h (by rw [z]; exact List.mem_cons_self))
    rw [spl_free fun z => h (List.mem_cons_of_mem _ z)] at e1
    cases e1
    exact e2
theorem spl_app : ∀ {a : List Nat} (t : List Nat), 47 ∉ a → spl (a ++ 47 :: t) = a :: spl t
  | [], t, _ => spl_bar t
  | c :: cs, t, h => by
    obtain ⟨p, ps, e1, e2⟩ := spl_cons (cs := cs ++ 47 :: t) (fun z : c = 47 => h (by rw [z]; exact List.mem_cons_self))
    rw [spl_app t fun z => h (List.mem_cons_of_mem _ z)] at e1
    cases e1
    exact e2
theorem spl_snoc : ∀ (cs : List Nat) (ps : List (List Nat)) (p : List Nat) (c : Nat), spl cs = ps ++ [p] → spl (cs ++ [c]) = if c = 47 then ps ++ [p, []] else ps ++ [p ++ [c]]
  | [], ps, p, c, h => by
    have e : ps = [] ∧ p = [] := by
      cases ps with
      | nil =>
        have : ([[]] : List (List Nat)) = [p] := h
        injection this with h1 _
        exact ⟨rfl, h1.symm⟩
      | cons q qs =>
        have := congrArg List.length h
        rw [List.length_append, List.length_cons] at this
        simp [spl] at this
    obtain ⟨rfl, rfl⟩ := e
    show (if c = 47 then [] :: spl [] else match spl [] with | p :: ps => (c :: p) :: ps | [] => [[c]]) = _
    rfl
  | d :: cs, ps, p, c, h => by
    by_cases hd : d = 47
    · subst hd
      rw [spl_bar] at h
      show spl (47 :: (cs ++ [c])) = _
      rw [spl_bar]
      cases ps with
      | nil =>
        injection h with h1 h2
        exact absurd h2 (spl_ne cs)
      | cons q qs =>
        injection h with h1 h2
        subst h1
        rw [spl_snoc cs qs p c h2]
        split <;> rfl
    · obtain ⟨q, qs, e1, e2⟩ := spl_cons (cs := cs) hd
      obtain ⟨r, rs, e3, e4⟩ := spl_cons (cs := cs ++ [c]) hd
      rw [e2] at h
      show spl (d :: (cs ++ [c])) = _
      rw [e4]
      cases ps with
      | nil =>
        injection h with h1 h2
        subst h1 h2
        have := spl_snoc cs [] q c e1
        rw [e3] at this
        split at this
        · rename_i hc
          rw [if_pos hc]
          cases this
          rfl
        · rename_i hc
          rw [if_neg hc]
          cases this
          rfl
      | cons q' qs' =>
        injection h with h1 h2
        subst h1 h2
        have := spl_snoc cs (q :: qs') p c e1
        rw [e3] at this
        split at this
        · rename_i hc
          rw [if_pos hc]
          injection this with t1 t2
          subst t1 t2
          rfl
        · rename_i hc
          rw [if_neg hc]
          injection this with t1 t2
          subst t1 t2
          rfl
theorem spl_join : ∀ (ps : List Str), ps ≠ [] → (∀ p ∈ ps, 47 ∉ p.cps.toList) → spl (Str.join (⟨#[47]⟩ : Str) ps).cps.toList = ps.map (·.cps.toList)
  | [], h, _ => absurd rfl h
  | [a], _, h => spl_free (h a List.mem_cons_self)
  | a :: b :: r, _, h => by
    have ih := spl_join (b :: r) (List.cons_ne_nil _ _) fun p hp => h p (List.mem_cons_of_mem _ hp)
    have e : (Str.join (⟨#[47]⟩ : Str) (a :: b :: r)).cps.toList = a.cps.toList ++ 47 :: (Str.join (⟨#[47]⟩ : Str) (b :: r)).cps.toList := by
      show ((a.cps ++ #[47]) ++ (Str.join (⟨#[47]⟩ : Str) (b :: r)).cps).toList = _
      rw [Array.toList_append, Array.toList_append]
      simp
    rw [e, spl_app _ (h a List.mem_cons_self), ih]
    rfl
theorem split_is (x : Str) : (Txt.split x (⟨#[47]⟩ : Str)).map (·.cps.toList) = spl x.cps.toList := by
  have h := StrLaws.join_split x (⟨#[47]⟩ : Str)
  have ne : Txt.split x (⟨#[47]⟩ : Str) ≠ [] := fun z => by
    have := PyProof.Rows.split_pos x (⟨#[47]⟩ : Str)
    rw [z] at this
    exact absurd this (by decide)
  rw [← spl_join _ ne (StrLaws.split_free x 47), h]
/-! the value of figures -/
theorem fv_snoc (cs : List Nat) (c : Nat) : fv (cs ++ [c]) = fv cs * 10 + (c - 48) := by
  unfold fv
  rw [List.foldl_append]
  rfl
theorem fv_lt : ∀ cs : List Nat, cs.all dg = true → fv cs < 10 ^ cs.length := by
  intro cs
  generalize hn : cs.length = n
  induction n generalizing cs with
  | zero =>
    intro _
    rw [List.length_eq_zero_iff.mp hn]
    decide
  | succ n ih =>
    intro h
    have ne : cs ≠ [] := fun z => by rw [z] at hn; cases hn
    have e := List.dropLast_concat_getLast ne
    rw [← e] at h ⊢
    rw [List.all_append, Bool.and_eq_true] at h
    have h1 := ih cs.dropLast (by rw [List.length_dropLast]; omega) h.1
    have h2 : dg (cs.getLast ne) = true := by simpa using h.2
    unfold dg at h2
    have h3 := of_decide_eq_true h2
    rw [fv_snoc, Nat.pow_succ]
    omega
theorem pl_lt {cs : List Nat} {n : Nat} (h : pl cs = some n) : n < 10 ^ 60 := by
  unfold pl at h
  split at h
  · rename_i hc
    cases h
    exact Nat.lt_of_lt_of_le (fv_lt cs hc.2.2.1) (Nat.pow_le_pow_right (by decide) hc.2.1)
  · cases h
/-! the figures of a number -/
def dgs (n : Nat) : List Nat := (Nat.toDigits 10 n).map Char.toNat
theorem dgs_dg {n : Nat} : (dgs n).all dg = true := by
  rw [List.all_eq_true]
  intro c hc
  obtain ⟨d, hd, rfl⟩ := List.mem_map.mp hc
  have := Nat.isDigit_of_mem_toDigits (by decide) (by decide) hd
  unfold Char.isDigit at this
  simp only [Bool.and_eq_true, decide_eq_true_eq] at this
  refine decide_eq_true ⟨?_, ?_⟩
  · exact this.1
  · exact this.2
theorem dgs_fv {n : Nat} : fv (dgs n) = n := by
  have h := Nat.ofDigitChars_ten_toDigits (n := n)
  rw [Nat.ofDigitChars_eq_foldl] at h
  unfold fv dgs
  rw [List.foldl_map]
  have e : (fun (a : Nat) (c : Char) => a * 10 + (c.toNat - 48)) = fun sofar c => 10 * sofar + (c.toNat - '0'.toNat) := by
    funext a c
    rw [Nat.mul_comm]
    rfl
  rw [e]
  exact h
theorem dgs_len {n : Nat} (h : n < 10 ^ 60) : 1 ≤ (dgs n).length ∧ (dgs n).length ≤ 60 := by
  unfold dgs
  rw [List.length_map]
  exact ⟨Nat.length_toDigits_pos, (Nat.length_toDigits_le_iff (by decide) (by decide)).mpr h⟩
theorem digitChar_ne : ∀ n : Nat, n < 10 → 1 ≤ n → (Nat.digitChar n).toNat ≠ 48 := by decide
theorem dgs_head : ∀ n : Nat, 1 ≤ n → (dgs n).head? ≠ some 48 := by
  intro n
  induction n using Nat.strongRecOn with
  | ind n ih =>
    intro h1
    by_cases h : n < 10
    · unfold dgs
      rw [Nat.toDigits_of_lt_base h]
      intro z
      injection z with z
      exact digitChar_ne n h h1 z
    · have ih := ih (n / 10) (by omega) (by omega)
      unfold dgs at ih ⊢
      rw [Nat.toDigits_of_base_le (by decide) (by omega), List.map_append]
      cases e : List.map Char.toNat (Nat.toDigits 10 (n / 10)) with
      | nil =>
        have := congrArg List.length e
        rw [List.length_map] at this
        have := Nat.length_toDigits_pos (b := 10) (n := n / 10)
        simp at *
      | cons c r =>
        rw [e] at ih
        exact ih
theorem dgs_pl {n : Nat} (h : n < 10 ^ 60) : pl (dgs n) = some n := by
  obtain ⟨l1, l2⟩ := dgs_len h
  unfold pl
  rw [if_pos, dgs_fv]
  refine ⟨l1, l2, dgs_dg, fun ⟨z1, z2⟩ => ?_⟩
  by_cases hn : n = 0
  · subst hn
    exact absurd z1 (by decide)
  · exact dgs_head n (by omega) z2
theorem dgs_free {n : Nat} {c : Nat} (h : c ∈ dgs n) : 48 ≤ c ∧ c ≤ 57 := by
  have := List.all_eq_true.mp (dgs_dg (n := n)) c h
  exact of_decide_eq_true this
theorem str_nat (n : Nat) : (Str.ofString (toString n)).cps.toList = dgs n := by
  rw [Str.ofString_eq_toList]
  show (n.repr.toList.map Char.toNat) = _
  rw [Nat.toList_repr]
  rfl
/-! the reading of a text -/
def sgn (b : Bool) (t : Nat) : Int := if b = true then 0 - (t : Int) else t
def ngt (cs : List Nat) : Bool := decide (cs.head? = some 45)
def body (cs : List Nat) : List Nat := if ngt cs = true then cs.tail else cs
def rd (b : Bool) (ps : List (List Nat)) : Option (Int × Nat) := match ps with
  | [p] => (pl p).map fun t => (sgn b t, 1)
  | [p, q] => match pl p, pl q with
    | some t, some d => if d = 0 then none else some (sgn b t, d)
    | _, _ => none
  | _ => none
def res (cs : List Nat) : Option (Int × Nat) := rd (ngt cs) (spl (body cs))
theorem res_ok {cs : List Nat} {t : Int} {d : Nat} (h : res cs = some (t, d)) : 1 ≤ d ∧ d < 10 ^ 60 := by
  unfold res rd at h
  split at h
  · rw [Option.map_eq_some_iff] at h
    obtain ⟨t, h1, h2⟩ := h
    cases h2
    decide
  · split at h
    · rename_i e1 e2
      split at h
      · cases h
      · cases h
        exact ⟨by omega, pl_lt e2⟩
    · cases h
  · cases h
/-- a number's text -/
def ntx (a : Int) (b : Nat) : List Nat := (if a < 0 then [45] else []) ++ dgs a.natAbs ++ (if b = 1 then [] else 47 :: dgs b)
theorem res_ntx {a : Int} {b : Nat} (ha : a.natAbs < 10 ^ 60) (hb : b < 10 ^ 60) (b1 : 1 ≤ b) : res (ntx a b) = some (a, b) := by
  have hd : ∃ c r, dgs a.natAbs = c :: r ∧ 48 ≤ c ∧ c ≤ 57 := by
    cases e : dgs a.natAbs with
    | nil =>
      have := (dgs_len ha).1
      rw [e] at this
      exact absurd this (by decide)
    | cons c r => exact ⟨c, r, rfl, dgs_free (n := a.natAbs) (by rw [e]; exact List.mem_cons_self)⟩
  obtain ⟨c, r, e, c1, c2⟩ := hd
  have free : ∀ n : Nat, 47 ∉ dgs n := fun n z => by
    have := dgs_free z
    omega
  have core : spl (dgs a.natAbs ++ (if b = 1 then [] else 47 :: dgs b)) = dgs a.natAbs :: (if b = 1 then [] else [dgs b]) := by
    by_cases h : b = 1
    · rw [if_pos h, if_pos h, List.append_nil, spl_free (free _)]
    · rw [if_neg h, if_neg h, spl_app _ (free _), spl_free (free _)]
  have fin : ∀ g : Bool, sgn g a.natAbs = a → rd g (dgs a.natAbs :: (if b = 1 then [] else [dgs b])) = some (a, b) := by
    intro g hg
    by_cases h : b = 1
    · rw [if_pos h, h]
      show (pl (dgs a.natAbs)).map _ = _
      rw [dgs_pl ha]
      show some (sgn g a.natAbs, 1) = _
      rw [hg]
    · rw [if_neg h]
      show (match pl (dgs a.natAbs), pl (dgs b) with | some t, some d => if d = 0 then none else some (sgn g t, d) | _, _ => none) = _
      rw [dgs_pl ha, dgs_pl hb]
      show (if b = 0 then none else some (sgn g a.natAbs, b)) = _
      rw [if_neg (by omega), hg]
  unfold res body
  by_cases h : a < 0
  · have e1 : ntx a b = 45 :: (dgs a.natAbs ++ (if b = 1 then [] else 47 :: dgs b)) := by
      unfold ntx
      rw [if_pos h]
      rfl
    have e2 : ngt (ntx a b) = true := by
      rw [e1]
      rfl
    rw [e2, if_pos rfl, e1]
    show rd true (spl (dgs a.natAbs ++ _)) = _
    rw [core]
    exact fin true (by unfold sgn; rw [if_pos rfl]; omega)
  · have e1 : ntx a b = dgs a.natAbs ++ (if b = 1 then [] else 47 :: dgs b) := by
      unfold ntx
      rw [if_neg h]
      rfl
    have e2 : ngt (ntx a b) = false := by
      rw [e1, e]
      refine decide_eq_false fun z => ?_
      injection z with z
      omega
    rw [e2, if_neg (by decide), e1, core]
    exact fin false (by unfold sgn; rw [if_neg (by decide)]; omega)

local macro_rules | `(tactic| walk_at "st") => `(tactic| with_reducible first
  | refine s_seq ?_ | refine s_nil ?_ | refine s_asg ?_ | refine s_exp ?_ | refine s_ret ?_ | refine s_retN ?_ | refine s_brk ?_ | refine s_con ?_ | refine s_if ?_ | refine s_par ?_ | refine s_for ?_ | refine x_par ?_ | refine s_par3 ?_ | refine x_par3 ?_ | refine s_rz ?_ | refine s_rz3 rfl (by simp only [List.length_cons, List.length_nil]; decide) (by rfl) ?_ | refine s_try ?_ | refine e_xf (by with_unfolding_all rfl) (by decide +kernel) (by first | exact fld_1 | exact fld_2 (by decide +kernel) fld_1) ?_ | refine e_bm ?_ | refine isq_node ?_ | refine e_lcG ?_ | refine k_for ?_ | refine k_elt ?_ | refine i_en ?_ | refine en_N ?_ | refine e_tupOf ?_ | refine tp_L ?_ | refine tp_T ?_ | refine e_rev ?_ | refine rv_N ?_ | refine sl_N ?_ | refine s_aug (by with_unfolding_all rfl) ?_ | refine f_adII ?_ | refine f_ik3 ?_ | refine f_ic3 (by assumption) ?_ | refine f_se3 (by assumption) ?_ | refine r_1 ?_ | refine r_q (by omega) (by omega) ?_ | refine q_seq ?_ | refine q_S ?_ | refine q_L ?_ | refine q_K ?_ | refine q_T ?_ | refine p_nil ?_ | refine p_cons ?_
  | refine e_var (by with_unfolding_all rfl) ?_ | refine e_c ?_ | refine e_op ?_ | refine e_un ?_ | refine e_nil ?_ | refine e_cons ?_ | refine e_B ?_ | refine e_tup ?_ | refine e_lst ?_ | refine e_dct0 ?_ | refine e_sz (by simp only [List.length_cons, List.length_nil, sizeLine]; decide) ?_ | refine e_nwf ?_
  | refine e_and ?_ | refine e_or ?_ | refine e_not ?_ | refine e_if ?_ | refine e_chain ?_ | refine e_sl ?_ | refine e_no ?_ | refine e_part ?_ | refine e_call ?_ | refine e_callC ?_ | refine c_C rfl rfl (by with_unfolding_all simp only [pick, List.cons_append, List.nil_append, List.append_nil, List.getElem?_cons_zero, List.getElem?_cons_succ]; rfl) ?_ | refine e_m1 ?_ | refine e_m0 ?_ | refine e_lc ?_ | refine e_lcm ?_
  | refine t_yes ?_ | refine t_tru ?_ | refine t_bl ?_ | refine t_and ?_ | refine t_or ?_ | refine t_not ?_ | refine w_bl ?_ | refine w_non ?_ | refine w_int ?_ | refine x_bl ?_ | refine x_int ?_ | refine x_str ?_
  | refine i_T ?_ | refine i_F ?_ | refine i_not ?_ | refine i_dT (by first | assumption | omega | (simp only [List.length_cons, List.length_nil]; omega)) ?_ | refine i_dF (by first | assumption | omega | (simp only [List.length_cons, List.length_nil]; omega)) ?_
  | refine g_nil ?_ | refine g_cons ?_ | refine g_tup (by with_unfolding_all rfl) ?_ | refine g_sub ?_
  | refine f_adI ?_ | refine f_adT (by assumption) (by assumption) (by decide) fun _ => ?_ | refine f_slT (by assumption) (by decide) fun _ => ?_ | refine f_lnTx (by assumption) (by decide) fun _ => ?_ | refine f_adS (by unfold sizeLine; omega) ?_ | refine f_adL (by unfold sizeLine; simp only [List.length_append, List.length_cons, List.length_nil]; omega) ?_ | refine f_sub ?_ | refine f_mod (by first | decide | omega) ?_ | refine f_div (by first | exact cdiv64 (by first | decide | omega) (by first | decide | omega)) ?_ | refine f_mul (by first | exact cmul64 (by first | decide | omega) (by first | decide | omega)) ?_ | refine f_pow (cpow_of (by decide) (by decide) (by first | decide | omega)) ?_ | refine f_neg ?_
  | refine f_ltI ?_ | refine f_leI ?_ | refine f_gtI ?_ | refine f_geI ?_ | refine f_leS ?_ | refine f_ltS ?_ | refine f_eqI ?_ | refine f_neI ?_ | refine f_inS ?_ | refine f_intB ?_ | refine f_intI ?_ | refine f_abs ?_ | refine f_max ?_ | refine f_min ?_ | refine f_lnS (by first | assumption | (unfold sizeLine; omega)) ?_ | refine f_lnL ?_ | refine f_lnK ?_ | refine f_lnT ?_ | refine f_stI (by assumption) ?_ | refine f_slS (by first | assumption | (unfold sizeLine; omega)) ?_
  | refine f_ix0 ?_ | refine f_ix1 ?_ | refine f_ix2 ?_ | refine f_ik0 ?_ | refine f_ik1 ?_ | refine f_ik2 ?_ | refine f_ic0 (by assumption) ?_ | refine f_ic1 (by assumption) ?_ | refine f_ic2 (by assumption) ?_ | refine f_se0 (by assumption) ?_ | refine f_se2 (by assumption) ?_ | refine f_it0 ?_ | refine f_it1 ?_ | refine f_it2 ?_
  | refine g_n0 ?_ | refine g_n1 ?_ | refine g_n2 ?_ | refine g_n3 ?_ | refine g_n4 ?_ | refine g_n5 ?_ | refine g_n6 ?_ | refine g_n7 ?_ | refine g_n8 ?_ | refine g_n9 ?_ | refine g_n10 ?_ | refine g_n11 ?_ | refine g_set (by simp only [List.set_cons_zero, List.set_cons_succ]; rfl) ?_)

theorem take_spec {b m : Nat} {κ : Kap} {X : Str → List D → Kap → Prop} {Q : DQ} {w : Int} (hB : Bx b m κ) (hm : m ≤ 2 ^ 40) (w0 : 0 < w) (w1 : w < 2 ^ 64)
    (h : ∀ r κ', 0 ≤ r → r < w → Bx b (m + 1) κ' → Fr b κ κ' → Q (.int r) κ') : sp__law_take [.cell b, .int w] κ X Q := by
  obtain ⟨x, y, z, e, hy, hy2, hz, hzm⟩ := hB
  (unfold sp__law_take; refine s_sp rfl ?_; simp only [startD, List.map_cons, List.map_nil, List.length_cons, List.length_nil, Nat.zero_add, Nat.reduceAdd, Nat.reduceSub, List.replicate, List.cons_append, List.nil_append]; unfold b__law_take)
  (repeat walk_at "st")
  refine i_d (fun h0 => ?_) fun h0 => ?_
  · have hw := fm_bd x w w0
    (repeat walk_at "st")
    exact h _ _ hw.1 hw.2 ⟨_, y, z, kset_same, hy, hy2, hz, by omega⟩ Fr.box
  · (repeat walk_at "st")
    generalize hq : Int.fmod _ 2147483647 = q
    have h1 : 0 ≤ q ∧ q < 2147483647 := by rw [← hq]; exact fm_bd _ 2147483647 (by decide)
    (repeat walk_at "st")
    generalize Int.fdiv _ 16 = v
    have hw := fm_bd v w w0
    exact h _ _ hw.1 hw.2 ⟨_, y, z + 1, kset_same, hy, hy2, by omega, by omega⟩ Fr.box
theorem box_spec {κ : Kap} {X : Str → List D → Kap → Prop} {Q : DQ} {c : Int}
    (h : ∀ b κ', κ b = none → Bx b 0 κ' → (∀ n c, κ n = some c → κ' n = some c) → Q (.cell b) κ') : sp__law_box [.int c] κ X Q := by
  (unfold sp__law_box; refine s_sp rfl ?_; simp only [startD, List.map_cons, List.map_nil, List.length_cons, List.length_nil, Nat.zero_add, Nat.reduceAdd, Nat.reduceSub, List.replicate, List.cons_append, List.nil_append]; unfold b__law_box)
  (repeat walk_at "st")
  refine e_nwt fun n hn => ?_
  have hw := fm_bd c 2147483629 (by decide)
  refine h n _ hn ⟨_, _, 0, kset_same, hw.1, by omega, by decide, by decide⟩ fun m c e => ?_
  rw [kset_ne (kne e hn)]
  exact e
theorem cell_spec {κ : Kap} {X : Str → List D → Kap → Prop} {Q : DQ} {ns : List Int} {k : Nat} (hk : k < 100)
    (h : ∀ c : Int, Q (.int c) κ) : sp__law_cell [.node .klst (ns.map D.int), .int (k : Int)] κ X Q := by
  (unfold sp__law_cell; refine s_sp rfl ?_; simp only [startD, List.map_cons, List.map_nil, List.length_cons, List.length_nil, Nat.zero_add, Nat.reduceAdd, Nat.reduceSub, List.replicate, List.cons_append, List.nil_append]; unfold b__law_cell)
  (repeat walk_at "st")
  refine i_d (fun h0 => ?_) fun h0 => ?_
  · rw [List.length_map] at h0
    (repeat walk_at "st")
    have hk : k < ns.length := by omega
    exact ⟨_, at_nat (a := .int ns[k]) (by rw [List.getElem?_map, List.getElem?_eq_getElem hk]; rfl), h _⟩
  · (repeat walk_at "st")
    exact h _



theorem plain_int {κ : Kap} {X : Str → List D → Kap → Prop} {Q : DQ} {i : Int} (h : Q (.bl true) κ) : sp_is_plain [.int i] κ X Q := by
  (unfold sp_is_plain; refine s_sp rfl ?_; simp only [startD, List.map_cons, List.map_nil, List.length_cons, List.length_nil, Nat.zero_add, Nat.reduceAdd, Nat.reduceSub, List.replicate, List.cons_append, List.nil_append]; unfold b_is_plain)
  (repeat walk_at "st")
  refine isi_in _ true rfl (by decide +kernel) ?_
  (repeat walk_at "st")
  refine isi_in _ false rfl (by decide +kernel) ?_
  (repeat walk_at "st")
  exact h
theorem plain_tup {κ : Kap} {X : Str → List D → Kap → Prop} {Q : DQ} {xs : List D} (h : Q (.bl false) κ) : sp_is_plain [.node .tup xs] κ X Q := by
  (unfold sp_is_plain; refine s_sp rfl ?_; simp only [startD, List.map_cons, List.map_nil, List.length_cons, List.length_nil, Nat.zero_add, Nat.reduceAdd, Nat.reduceSub, List.replicate, List.cons_append, List.nil_append]; unfold b_is_plain)
  (repeat walk_at "st")
  refine isi_in _ false rfl (by decide +kernel) ?_
  (repeat walk_at "st")
  exact h
theorem common_part_spec {κ : Kap} {X : Str → List D → Kap → Prop} {Q : DQ} {u l : Int} (h : Q (.int (Int.gcd u l : Int)) κ) : sp_common_part [.int u, .int l] κ X Q := by
  (unfold sp_common_part; refine s_sp rfl ?_; simp only [startD, List.map_cons, List.map_nil, List.length_cons, List.length_nil, Nat.zero_add, Nat.reduceAdd, Nat.reduceSub, List.replicate, List.cons_append, List.nil_append]; unfold b_common_part)
  (repeat walk_at "st")
  refine s_while (fun m δ κ' => κ' = κ ∧ ∃ x y : Nat, δ = [some (.int x), some (.int y)] ∧ Nat.gcd x y = Int.gcd u l ∧ y = m) ⟨_, rfl, u.natAbs, l.natAbs, by rw [abs_nat, abs_nat]; rfl, rfl, rfl⟩ ?_
  rintro m δ κ' L hL ⟨rfl, x, y, rfl, hg, rfl⟩
  (repeat walk_at "st")
  refine i_d (fun h0 => ?_) fun h0 => ?_
  · (repeat walk_at "st")
    have hy : y = 0 := by omega
    subst hy
    rw [Nat.gcd_zero_right] at hg
    rw [hg]
    exact h
  · (repeat walk_at "st")
    have hy : y ≠ 0 := by omega
    refine hL (x % y) _ _ (Nat.mod_lt _ (by omega)) ⟨rfl, y, x % y, ?_, by rw [gcd_step hy]; exact hg, rfl⟩
    rw [← Int.ofNat_fmod]
    rfl
theorem is_part_pair {κ : Kap} {X : Str → List D → Kap → Prop} {Q : DQ} {a b : Int} (n : NOk a b) (hb : b ≠ 1) (h : Q (.bl true) κ) : sp_is_part [.node .tup [.int a, .int b]] κ X Q := by
  have n1 := n.1
  (unfold sp_is_part; refine s_sp rfl ?_; simp only [startD, List.map_cons, List.map_nil, List.length_cons, List.length_nil, Nat.zero_add, Nat.reduceAdd, Nat.reduceSub, List.replicate, List.cons_append, List.nil_append]; unfold b_is_part)
  (repeat walk_at "st")
  refine isi_in _ true rfl (by decide +kernel) ?_
  (repeat walk_at "st")
  refine plain_int ?_
  (repeat walk_at "st")
  refine plain_int ?_
  (repeat walk_at "st")
  refine common_part_spec ?_
  rw [n.2]
  (repeat walk_at "st")
  rw [decide_eq_true (by rfl)]
  exact h
theorem reckoned_spec {κ : Kap} {X : Str → List D → Kap → Prop} {Q : DQ} {u l : Int} (hl : l ≠ 0) (hb : l.natAbs < 2 ^ 8000) (h : Q (nb (rtn u l) (rtd u l)) κ) : sp_reckoned [.int u, .int l] κ X Q := by
  have hg := Int.gcd_pos_of_ne_zero_right u hl
  have hgl := Int.gcd_le_natAbs_right u hl
  have hc : ∀ c : Int, c = cpt u l → Q (if decide (l.fdiv c = 1) = true then .int (u.fdiv c) else .node .tup [.int (u.fdiv c), .int (l.fdiv c)]) κ := by
    rintro c rfl
    have : nb (rtn u l) (rtd u l) = if decide (l.fdiv (cpt u l) = 1) = true then .int (u.fdiv (cpt u l)) else .node .tup [.int (u.fdiv (cpt u l)), .int (l.fdiv (cpt u l))] := by
      unfold nb rtn rtd
      by_cases h : l.fdiv (cpt u l) = 1
      · rw [if_pos h, if_pos (decide_eq_true h)]
      · rw [if_neg h, if_neg (by rw [decide_eq_false h]; decide)]
    rw [← this]
    exact h
  (unfold sp_reckoned; refine s_sp rfl ?_; simp only [startD, List.map_cons, List.map_nil, List.length_cons, List.length_nil, Nat.zero_add, Nat.reduceAdd, Nat.reduceSub, List.replicate, List.cons_append, List.nil_append]; unfold b_reckoned)
  (repeat walk_at "st")
  refine common_part_spec ?_
  (repeat walk_at "st")
  refine i_d (fun h0 => ?_) fun h0 => ?_
  · have hc := hc (0 - (Int.gcd u l : Int)) (by unfold cpt; rw [if_pos h0])
    generalize hcc : 0 - (Int.gcd u l : Int) = c at hc
    have hc0 : c ≠ 0 := by omega
    have hd : ∀ i, CDivD i c := fun i => cdiv_of 8000 hc0 (by omega) (by decide)
    (repeat walk_at "st")
    rw [hcc]
    refine f_div (hd _) ?_
    (repeat walk_at "st")
    refine f_div (hd _) ?_
    (repeat walk_at "st")
    refine i_d (fun h1 => ?_) fun h1 => ?_
    · rw [if_pos (decide_eq_true h1)] at hc
      (repeat walk_at "st")
      exact hc
    · rw [if_neg (by rw [decide_eq_false h1]; decide)] at hc
      (repeat walk_at "st")
      exact hc
  · have hc := hc (Int.gcd u l : Int) (by unfold cpt; rw [if_neg h0])
    generalize (Int.gcd u l) = c at hc hg hgl
    have hc0 : (c : Int) ≠ 0 := by omega
    have hd : ∀ i, CDivD i (c : Int) := fun i => cdiv_of 8000 hc0 (by omega) (by decide)
    (repeat walk_at "st")
    refine f_div (hd _) ?_
    (repeat walk_at "st")
    refine f_div (hd _) ?_
    (repeat walk_at "st")
    refine i_d (fun h1 => ?_) fun h1 => ?_
    · rw [if_pos (decide_eq_true h1)] at hc
      (repeat walk_at "st")
      exact hc
    · rw [if_neg (by rw [decide_eq_false h1]; decide)] at hc
      (repeat walk_at "st")
      exact hc
theorem pair_of_spec {κ : Kap} {X : Str → List D → Kap → Prop} {Q : DQ} {a b : Int} (n : NOk a b) (h : Q (.node .tup [.int a, .int b]) κ) : sp_pair_of [nb a b] κ X Q := by
  by_cases hb : b = 1
  · subst hb
    rw [nb_1]
    (unfold sp_pair_of; refine s_sp rfl ?_; simp only [startD, List.map_cons, List.map_nil, List.length_cons, List.length_nil, Nat.zero_add, Nat.reduceAdd, Nat.reduceSub, List.replicate, List.cons_append, List.nil_append]; unfold b_pair_of)
    (repeat walk_at "st")
    refine plain_int ?_
    (repeat walk_at "st")
    exact h
  · rw [nb_p hb]
    (unfold sp_pair_of; refine s_sp rfl ?_; simp only [startD, List.map_cons, List.map_nil, List.length_cons, List.length_nil, Nat.zero_add, Nat.reduceAdd, Nat.reduceSub, List.replicate, List.cons_append, List.nil_append]; unfold b_pair_of)
    (repeat walk_at "st")
    refine plain_tup ?_
    (repeat walk_at "st")
    refine is_part_pair n hb ?_
    (repeat walk_at "st")
    exact h



section
variable {κ : Kap} {X : Str → List D → Kap → Prop} {Q : DQ} {k : Nat} {a b c d : Int}
theorem times_spec (n : Nd k a b) (n' : Nd k c d) (hk : k ≤ 3000) (h : Q (nb (tN a b c d) (tD a b c d)) κ) : sp_times [nb a b, nb c d] κ X Q := by
  have hm1 : L2.CMulW a c := cmul_of k k n.tb n'.tb (by omega)
  have hm3 : L2.CMulW b d := cmul_of k k n.bb n'.bb (by omega)
  (unfold sp_times; refine s_sp rfl ?_; simp only [startD, List.map_cons, List.map_nil, List.length_cons, List.length_nil, Nat.zero_add, Nat.reduceAdd, Nat.reduceSub, List.replicate, List.cons_append, List.nil_append]; unfold b_times)
  (repeat walk_at "st")
  refine pair_of_spec n.ok ?_
  (repeat walk_at "st")
  refine pair_of_spec n'.ok ?_
  (repeat walk_at "st")
  refine f_mul hm1 ?_
  (repeat walk_at "st")
  refine f_mul hm3 ?_
  (repeat walk_at "st")
  exact reckoned_spec (n.bd0 n') (bd_mono (mul_bd n.bb n'.bb) (by omega)) h
theorem over_spec (n : Nd k a b) (n' : Nd k c d) (h0 : c ≠ 0) (hk : k ≤ 3000) (h : Q (nb (oN a b c d) (oD a b c d)) κ) : sp_over [nb a b, nb c d] κ X Q := by
  have hm1 : L2.CMulW a d := cmul_of k k n.tb n'.bb (by omega)
  have hm3 : L2.CMulW b c := cmul_of k k n.bb n'.tb (by omega)
  (unfold sp_over; refine s_sp rfl ?_; simp only [startD, List.map_cons, List.map_nil, List.length_cons, List.length_nil, Nat.zero_add, Nat.reduceAdd, Nat.reduceSub, List.replicate, List.cons_append, List.nil_append]; unfold b_over)
  (repeat walk_at "st")
  refine pair_of_spec n.ok ?_
  (repeat walk_at "st")
  refine pair_of_spec n'.ok ?_
  (repeat walk_at "st")
  refine f_mul hm1 ?_
  (repeat walk_at "st")
  refine f_mul hm3 ?_
  (repeat walk_at "st")
  exact reckoned_spec (Int.mul_ne_zero n.b0 h0) (bd_mono (mul_bd n.bb n'.tb) (by omega)) h
end



section
variable {κ : Kap} {X : Str → List D → Kap → Prop} {Q : DQ} {k : Nat} {a b c d : Int}
end



/-- the types of things -/
def tOther (t : String) : Prop := t = "NoneType" ∨ t = "bool" ∨ t = "str" ∨ t = "list" ∨ t = "dict"
section
variable {κ : Kap} {X : Str → List D → Kap → Prop} {Q : DQ}
theorem plain_no {d : D} {t : String} (ht : tyK d κ = some (.b t)) (ho : tOther t ∨ t = "tuple") (h : Q (.bl false) κ) : sp_is_plain [d] κ X Q := by
  (unfold sp_is_plain; refine s_sp rfl ?_; simp only [startD, List.map_cons, List.map_nil, List.length_cons, List.length_nil, Nat.zero_add, Nat.reduceAdd, Nat.reduceSub, List.replicate, List.cons_append, List.nil_append]; unfold b_is_plain)
  (repeat walk_at "st")
  rcases ho with (rfl | rfl | rfl | rfl | rfl) | rfl
  · refine isi_in _ false ht (by decide +kernel) ?_
    (repeat walk_at "st")
    exact h
  · refine isi_in _ true ht (by decide +kernel) ?_
    (repeat walk_at "st")
    refine isi_in _ true ht (by decide +kernel) ?_
    (repeat walk_at "st")
    exact h
  · refine isi_in _ false ht (by decide +kernel) ?_
    (repeat walk_at "st")
    exact h
  · refine isi_in _ false ht (by decide +kernel) ?_
    (repeat walk_at "st")
    exact h
  · refine isi_in _ false ht (by decide +kernel) ?_
    (repeat walk_at "st")
    exact h
  · refine isi_in _ false ht (by decide +kernel) ?_
    (repeat walk_at "st")
    exact h
theorem part_no {d : D} {t : String} (ht : tyK d κ = some (.b t)) (ho : tOther t ∨ t = "int") (h : Q (.bl false) κ) : sp_is_part [d] κ X Q := by
  (unfold sp_is_part; refine s_sp rfl ?_; simp only [startD, List.map_cons, List.map_nil, List.length_cons, List.length_nil, Nat.zero_add, Nat.reduceAdd, Nat.reduceSub, List.replicate, List.cons_append, List.nil_append]; unfold b_is_part)
  (repeat walk_at "st")
  rcases ho with (rfl | rfl | rfl | rfl | rfl) | rfl
  all_goals
    refine isi_in _ false ht (by decide +kernel) ?_
    (repeat walk_at "st")
    exact h
theorem part_len {xs : List D} (hl : xs.length ≠ 2) (h : Q (.bl false) κ) : sp_is_part [.node .tup xs] κ X Q := by
  (unfold sp_is_part; refine s_sp rfl ?_; simp only [startD, List.map_cons, List.map_nil, List.length_cons, List.length_nil, Nat.zero_add, Nat.reduceAdd, Nat.reduceSub, List.replicate, List.cons_append, List.nil_append]; unfold b_is_part)
  (repeat walk_at "st")
  refine isi_in _ true rfl (by decide +kernel) ?_
  (repeat walk_at "st")
  exact h
theorem part_ints {a b : Int} (hb : b ≤ 1 ∨ Int.gcd a b ≠ 1) (h : Q (.bl false) κ) : sp_is_part [.node .tup [.int a, .int b]] κ X Q := by
  (unfold sp_is_part; refine s_sp rfl ?_; simp only [startD, List.map_cons, List.map_nil, List.length_cons, List.length_nil, Nat.zero_add, Nat.reduceAdd, Nat.reduceSub, List.replicate, List.cons_append, List.nil_append]; unfold b_is_part)
  (repeat walk_at "st")
  refine isi_in _ true rfl (by decide +kernel) ?_
  (repeat walk_at "st")
  refine plain_int ?_
  (repeat walk_at "st")
  refine plain_int ?_
  (repeat walk_at "st")
  refine i_d (fun h1 => ?_) fun h1 => ?_
  · (repeat walk_at "st")
    refine common_part_spec ?_
    (repeat walk_at "st")
    rw [decide_eq_false (by omega)]
    exact h
  · rw [decide_eq_false h1]
    exact h
/-- no number -/
inductive NoNum (κ : Kap) : D → Prop
  | ty {d : D} {t : String} (h : tyK d κ = some (.b t)) (o : tOther t) : NoNum κ d
  | len {xs : List D} (h : xs.length ≠ 2) : NoNum κ (.node .tup xs)
  | prs {a b : Int} (h : b ≤ 1 ∨ Int.gcd a b ≠ 1) : NoNum κ (.node .tup [.int a, .int b])
end



theorem law_number_spec {κ : Kap} {X : Str → List D → Kap → Prop} {Q : DQ} {u l : Int} (hl : l ≠ 0) (hb : l.natAbs < 2 ^ 8000) (h : Q (nb (rtn u l) (rtd u l)) κ) : sp__law_number [.int u, .int l] κ X Q := by
  have hg := Int.gcd_pos_of_ne_zero_right u hl
  have hgl := Int.gcd_le_natAbs_right u hl
  have hc : ∀ c : Int, c = cpt u l → Q (if decide (l.fdiv c = 1) = true then .int (u.fdiv c) else .node .tup [.int (u.fdiv c), .int (l.fdiv c)]) κ := by
    rintro c rfl
    have : nb (rtn u l) (rtd u l) = if decide (l.fdiv (cpt u l) = 1) = true then .int (u.fdiv (cpt u l)) else .node .tup [.int (u.fdiv (cpt u l)), .int (l.fdiv (cpt u l))] := by
      unfold nb rtn rtd
      by_cases h : l.fdiv (cpt u l) = 1
      · rw [if_pos h, if_pos (decide_eq_true h)]
      · rw [if_neg h, if_neg (by rw [decide_eq_false h]; decide)]
    rw [← this]
    exact h
  (unfold sp__law_number; refine s_sp rfl ?_; simp only [startD, List.map_cons, List.map_nil, List.length_cons, List.length_nil, Nat.zero_add, Nat.reduceAdd, Nat.reduceSub, List.replicate, List.cons_append, List.nil_append]; unfold b__law_number)
  (repeat walk_at "st")
  refine s_while (fun m δ κ' => κ' = κ ∧ ∃ x y : Nat, δ = [some (.int u), some (.int l), some (.int x), some (.int y)] ∧ Nat.gcd x y = Int.gcd u l ∧ y = m) ⟨_, rfl, u.natAbs, l.natAbs, by rw [abs_nat, abs_nat]; rfl, rfl, rfl⟩ ?_
  rintro m δ κ' L hL ⟨rfl, x, y, rfl, hgg, rfl⟩
  (repeat walk_at "st")
  refine i_d (fun h0 => ?_) fun h0 => ?_
  · have hy : y = 0 := by omega
    subst hy
    rw [Nat.gcd_zero_right] at hgg
    subst hgg
    (repeat walk_at "st")
    refine i_d (fun h0 => ?_) fun h0 => ?_
    · have hc := hc (0 - (Int.gcd u l : Int)) (by unfold cpt; rw [if_pos h0])
      generalize hcc : 0 - (Int.gcd u l : Int) = c at hc
      have hc0 : c ≠ 0 := by omega
      have hd : ∀ i, CDivD i c := fun i => cdiv_of 8000 hc0 (by omega) (by decide)
      (repeat walk_at "st")
      rw [hcc]
      refine f_div (hd _) ?_
      (repeat walk_at "st")
      refine i_d (fun h1 => ?_) fun h1 => ?_
      · rw [if_pos (decide_eq_true h1)] at hc
        (repeat walk_at "st")
        refine f_div (hd _) ?_
        exact hc
      · rw [if_neg (by rw [decide_eq_false h1]; decide)] at hc
        (repeat walk_at "st")
        refine f_div (hd _) ?_
        (repeat walk_at "st")
        refine f_div (hd _) ?_
        (repeat walk_at "st")
        exact hc
    · have hc := hc (Int.gcd u l : Int) (by unfold cpt; rw [if_neg h0])
      generalize (Int.gcd u l) = c at hc hg hgl
      have hc0 : (c : Int) ≠ 0 := by omega
      have hd : ∀ i, CDivD i (c : Int) := fun i => cdiv_of 8000 hc0 (by omega) (by decide)
      (repeat walk_at "st")
      refine f_div (hd _) ?_
      (repeat walk_at "st")
      refine i_d (fun h1 => ?_) fun h1 => ?_
      · rw [if_pos (decide_eq_true h1)] at hc
        (repeat walk_at "st")
        refine f_div (hd _) ?_
        exact hc
      · rw [if_neg (by rw [decide_eq_false h1]; decide)] at hc
        (repeat walk_at "st")
        refine f_div (hd _) ?_
        (repeat walk_at "st")
        refine f_div (hd _) ?_
        (repeat walk_at "st")
        exact hc
  · (repeat walk_at "st")
    have hy : y ≠ 0 := by omega
    refine hL (x % y) _ _ (Nat.mod_lt _ (by omega)) ⟨rfl, y, x % y, ?_, by rw [gcd_step hy]; exact hgg, rfl⟩
    rw [← Int.ofNat_fmod]
    rfl
theorem law_pair_spec {κ : Kap} {X : Str → List D → Kap → Prop} {Q : DQ} {a b : Int} (h : Q (.node .tup [.int a, .int b]) κ) : sp__law_pair [nb a b] κ X Q := by
  by_cases hb : b = 1
  · subst hb
    rw [nb_1]
    (unfold sp__law_pair; refine s_sp rfl ?_; simp only [startD, List.map_cons, List.map_nil, List.length_cons, List.length_nil, Nat.zero_add, Nat.reduceAdd, Nat.reduceSub, List.replicate, List.cons_append, List.nil_append]; unfold b__law_pair)
    (repeat walk_at "st")
    refine isi_in _ false rfl (by decide +kernel) ?_
    (repeat walk_at "st")
    exact h
  · rw [nb_p hb]
    (unfold sp__law_pair; refine s_sp rfl ?_; simp only [startD, List.map_cons, List.map_nil, List.length_cons, List.length_nil, Nat.zero_add, Nat.reduceAdd, Nat.reduceSub, List.replicate, List.cons_append, List.nil_append]; unfold b__law_pair)
    (repeat walk_at "st")
    refine isi_in _ true rfl (by decide +kernel) ?_
    (repeat walk_at "st")
    exact h
theorem is_int {κ : Kap} {X : Str → List D → Kap → Prop} {Q : DQ} {n : Nat} {i j : Int} (h : Q (.bl (decide (i = j))) κ) : sp__law_is (n + 1) [.int i, .int j] κ X Q := by
  (unfold sp__law_is; refine s_sp rfl ?_; simp only [startD, List.map_cons, List.map_nil, List.length_cons, List.length_nil, Nat.zero_add, Nat.reduceAdd, Nat.reduceSub, List.replicate, List.cons_append, List.nil_append]; unfold b__law_is)
  (repeat walk_at "st")
  refine isi_in _ false rfl (by decide +kernel) ?_
  (repeat walk_at "st")
  refine isi_in _ true rfl (by decide +kernel) ?_
  (repeat walk_at "st")
  refine isi_in _ false rfl (by decide +kernel) ?_
  (repeat walk_at "st")
  exact h
theorem is_spec {κ : Kap} {X : Str → List D → Kap → Prop} {Q : DQ} {a b : Int} (h : Q (.bl true) κ) : sp__law_is 2 [nb a b, nb a b] κ X Q := by
  have hh : ∀ p : Prop, [Decidable p] → p → Q (.bl (decide p)) κ := fun p _ hp => by rw [decide_eq_true hp]; exact h
  by_cases hb : b = 1
  · subst hb
    rw [nb_1]
    exact is_int (hh _ rfl)
  · rw [nb_p hb]
    show sp__law_is (1 + 1) _ κ X Q
    (unfold sp__law_is; refine s_sp rfl ?_; simp only [startD, List.map_cons, List.map_nil, List.length_cons, List.length_nil, Nat.zero_add, Nat.reduceAdd, Nat.reduceSub, List.replicate, List.cons_append, List.nil_append]; unfold b__law_is)
    (repeat walk_at "st")
    refine isi_in _ true rfl (by decide +kernel) ?_
    (repeat walk_at "st")
    refine isi_in _ true rfl (by decide +kernel) ?_
    (repeat walk_at "st")
    refine f_eqP ?_
    (repeat walk_at "st")
    refine is_int ?_
    (repeat walk_at "st")
    refine is_int ?_
    exact hh _ rfl



section
variable {κ : Kap} {X : Str → List D → Kap → Prop} {Q : DQ} {k j : Nat} {p q : Rat}
theorem pair_q (h : Q (.node .tup [.int q.num, .int q.den]) κ) : sp_pair_of [nq q] κ X Q := pair_of_spec (nq_ok q) h
theorem reckoned_q {u l : Int} (hl : l ≠ 0) (hb : l.natAbs < 2 ^ 8000) (h : Q (nq (Rat.divInt u l)) κ) : sp_reckoned [.int u, .int l] κ X Q := reckoned_spec hl hb (by rw [nb_rt hl]; exact h)
theorem times_q (n : Sz k p) (n' : Sz j q) (hk : k + j ≤ 8000) (h : Q (nq (p * q)) κ) : sp_times [nq p, nq q] κ X Q := by
  have hm1 : L2.CMulW p.num q.num := cmul_of k j n.1 n'.1 (by omega)
  have hm3 : L2.CMulW (p.den : Int) q.den := cmul_of k j n.db n'.db (by omega)
  (unfold sp_times; refine s_sp rfl ?_; simp only [startD, List.map_cons, List.map_nil, List.length_cons, List.length_nil, Nat.zero_add, Nat.reduceAdd, Nat.reduceSub, List.replicate, List.cons_append, List.nil_append]; unfold b_times)
  (repeat walk_at "st")
  refine pair_q ?_
  (repeat walk_at "st")
  refine pair_q ?_
  (repeat walk_at "st")
  refine f_mul hm1 ?_
  (repeat walk_at "st")
  refine f_mul hm3 ?_
  (repeat walk_at "st")
  refine reckoned_q (Sz.dd p q) (bd_mono (mul_bd n.db n'.db) (by omega)) ?_
  rw [← q_mul]
  exact h
theorem over_q (n : Sz k p) (n' : Sz j q) (h0 : q ≠ 0) (hk : k + j ≤ 8000) (h : Q (nq (p / q)) κ) : sp_over [nq p, nq q] κ X Q := by
  have hm1 : L2.CMulW p.num q.den := cmul_of k j n.1 n'.db (by omega)
  have hm3 : L2.CMulW (p.den : Int) q.num := cmul_of k j n.db n'.1 (by omega)
  have hq := q_num0 h0
  (unfold sp_over; refine s_sp rfl ?_; simp only [startD, List.map_cons, List.map_nil, List.length_cons, List.length_nil, Nat.zero_add, Nat.reduceAdd, Nat.reduceSub, List.replicate, List.cons_append, List.nil_append]; unfold b_over)
  (repeat walk_at "st")
  refine pair_q ?_
  (repeat walk_at "st")
  refine pair_q ?_
  (repeat walk_at "st")
  refine f_mul hm1 ?_
  (repeat walk_at "st")
  refine f_mul hm3 ?_
  (repeat walk_at "st")
  refine reckoned_q (Int.mul_ne_zero (Sz.d0 p) hq) (bd_mono (mul_bd n.db n'.1) (by omega)) ?_
  rw [← q_div]
  exact h
/-! the law's own -/
theorem lnum_q {u l : Int} (hl : l ≠ 0) (hb : l.natAbs < 2 ^ 8000) (h : Q (nq (Rat.divInt u l)) κ) : sp__law_number [.int u, .int l] κ X Q := law_number_spec hl hb (by rw [nb_rt hl]; exact h)
theorem lpair_q (h : Q (.node .tup [.int q.num, .int q.den]) κ) : sp__law_pair [nq q] κ X Q := law_pair_spec h
theorem is_q (e : p = q) (h : Q (.bl true) κ) : sp__law_is 2 [nq p, nq q] κ X Q := by
  rw [e]
  exact is_spec h
end



theorem chars_get {x : Str} {i : Nat} {d : D} (h : (charsD x)[i]? = some d) : ∃ c, x.cps.toList[i]? = some c ∧ d = .str ⟨#[c]⟩ := by
  unfold charsD at h
  rw [List.getElem?_map, Option.map_eq_some_iff] at h
  obtain ⟨c, h1, rfl⟩ := h
  exact ⟨c, h1, rfl⟩
theorem chars_len {x : Str} : (charsD x).length = x.cps.toList.length := by
  unfold charsD
  rw [List.length_map]
theorem take_next {α : Type} {l : List α} {i : Nat} {a : α} (h : l[i]? = some a) : l.take (i + 1) = l.take i ++ [a] := by
  rw [List.take_add_one, h]
  rfl
theorem in_figs (c : Nat) : strIn ⟨#[c]⟩ (Str.ofString "0123456789") = dg c := by
  have h1 : strIn ⟨#[c]⟩ (Str.ofString "0123456789") = decide (c ∈ (Str.ofString "0123456789").cps.toList) := StrLaws.found_one _ c
  have h2 : (Str.ofString "0123456789").cps.toList = List.range' 48 10 := by decide +kernel
  rw [h1, h2]
  unfold dg
  congr 1
  rw [List.mem_range'_1]
  apply propext
  omega
theorem one_cps {s : String} {c : Nat} (h : (Str.ofString s).cps.toList = [c]) : Str.ofString s = ⟨#[c]⟩ := by
  cases e : Str.ofString s with
  | mk a =>
    rw [e] at h
    have : a.toList = [c] := h
    congr 1
    exact Array.toList_inj.mp this
theorem s_0 : Str.ofString "0" = ⟨#[48]⟩ := one_cps (by decide +kernel)
theorem s_9 : Str.ofString "9" = ⟨#[57]⟩ := one_cps (by decide +kernel)
theorem s_bar : Str.ofString "/" = ⟨#[47]⟩ := one_cps (by decide +kernel)
theorem s_neg : Str.ofString "-" = ⟨#[45]⟩ := one_cps (by decide +kernel)
theorem one_beq {a b : Nat} : ((⟨#[a]⟩ : Str) == ⟨#[b]⟩) = decide (a = b) := by
  by_cases h : a = b
  · subst h
    rw [decide_eq_true rfl]
    exact beq_self_eq_true _
  · rw [decide_eq_false h]
    refine beq_eq_false_iff_ne.mpr fun z => h ?_
    injection z with z
    have := congrArg Array.toList z
    injection this
theorem str_beq {x : Str} {b : Nat} : (x == (⟨#[b]⟩ : Str)) = decide (x.cps.toList = [b]) := by
  by_cases h : x.cps.toList = [b]
  · rw [decide_eq_true h]
    have : x = ⟨#[b]⟩ := by
      cases x with
      | mk a =>
        have h : a.toList = [b] := h
        congr 1
        exact Array.toList_inj.mp h
    rw [this]
    exact beq_self_eq_true _
  · rw [decide_eq_false h]
    refine beq_eq_false_iff_ne.mpr fun z => h ?_
    rw [z]
def oD : Option Nat → D
  | none => .non
  | some n => .int n
theorem lt1 (a b : Nat) : decide (([a] : List Nat) < [b]) = decide (a < b) := by
  refine decide_eq_decide.mpr ⟨fun h => ?_, fun h => List.Lex.rel h⟩
  cases h with
  | rel h => exact h
  | cons h => cases h
theorem find_dg {c : Nat} (h : dg c = true) : Txt.find (Str.ofString "0123456789") ⟨#[c]⟩ = ((c - 48 : Nat) : Int) := by
  have h := of_decide_eq_true h
  have : c = 48 ∨ c = 49 ∨ c = 50 ∨ c = 51 ∨ c = 52 ∨ c = 53 ∨ c = 54 ∨ c = 55 ∨ c = 56 ∨ c = 57 := by omega
  rcases this with rfl | rfl | rfl | rfl | rfl | rfl | rfl | rfl | rfl | rfl <;> decide +kernel
section
variable {κ : Kap} {X : Str → List D → Kap → Prop} {Q : DQ} {x : Str} {n : Nat}
theorem len_cps : x.cps.toList.length = x.length := Array.length_toList
theorem ix_0 (tx : Tx n x) (hn : n ≤ 16777216) (h1 : 1 ≤ x.length) (h : ∀ c r, x.cps.toList = c :: r → Q (.str ⟨#[c]⟩) κ) : fIx (.str x) (.int 0) κ Q := by
  refine ⟨Nat.le_trans tx.1 hn, ?_⟩
  cases e : x.cps.toList with
  | nil =>
    have := len_cps (x := x)
    rw [e] at this
    have : 0 = x.length := this
    omega
  | cons c r => exact ⟨c, at_nat (n := 0) rfl, h c r e⟩
theorem c_shaped {c : Nat} {x : Str} {r : List Nat} (tx : Tx n x) (e : x.cps.toList = c :: r) : SeqAt.shaped (.str ⟨#[c]⟩) = true :=
  (Tx.one (tx.2 c (by rw [e]; exact List.mem_cons_self))).shaped
theorem figs_spec (tx : Tx n x) (hn : n ≤ 16777216) (h : ∀ κ', Fa κ κ' → Q (oD (pl x.cps.toList)) κ') : sp_figures_of [.str x] κ X Q := by
  have hl := len_cps (x := x)
  have no : ∀ κ', Fa κ κ' → ¬ (1 ≤ x.cps.toList.length ∧ x.cps.toList.length ≤ 60 ∧ x.cps.toList.all dg = true ∧ ¬ (1 < x.cps.toList.length ∧ x.cps.toList.head? = some 48)) → Q .non κ' := fun κ' f z => by
    have := h κ' f
    unfold pl at this
    rw [if_neg z] at this
    exact this
  (unfold sp_figures_of; refine s_sp rfl ?_; simp only [startD, List.map_cons, List.map_nil, List.length_cons, List.length_nil, Nat.zero_add, Nat.reduceAdd, Nat.reduceSub, List.replicate, List.cons_append, List.nil_append]; unfold b_figures_of)
  (repeat walk_at "st")
  refine f_lnTx tx hn fun _ => ?_
  (repeat walk_at "st")
  refine i_d (fun h1 => ?_) fun h1 => ?_
  · (repeat walk_at "st")
    refine i_d (fun h2 => ?_) fun h2 => ?_
    · (repeat walk_at "st")
      intro m hm
      refine lcLoop_ix (fun i acc κ' => acc = ((x.cps.toList.take i).map dg).map D.bl ∧ κ' m = some (.live .lst acc) ∧ Fa κ κ') ?_ ?_ ⟨rfl, kset_same, Fa.new hm⟩
      · rintro acc κ' ⟨rfl, e2, f2⟩
        refine ⟨trivial, e2, ?_⟩
        rw [chars_len, List.take_length]
        have f3 := f2.put (c := .dead) hm
        generalize kset κ' m .dead = κ3 at f3
        refine ⟨_, rfl, ?_⟩
        have eall : (x.cps.toList.map dg).all id = x.cps.toList.all dg := by
          rw [List.all_map]
          rfl
        rw [eall]
        show withTruth _ _ _
        by_cases ha : x.cps.toList.all dg = true
        · rw [ha]
          (repeat walk_at "st")
          refine ix_0 tx hn (by omega) fun c r e => ?_
          (repeat walk_at "st")
          rw [s_0]
          refine f_eqS (c_shaped tx e) (by decide +kernel) ?_
          rw [one_beq]
          (repeat walk_at "st")
          have num : ¬ (1 < x.cps.toList.length ∧ x.cps.toList.head? = some 48) → ∀ {Q' : DQ}, Q' (oD (pl x.cps.toList)) κ3 → fIntT [.str x] κ3 Q' := fun hh Q' q => by
            unfold pl at q
            rw [if_pos ⟨by omega, by omega, ha, hh⟩] at q
            refine ⟨((fv x.cps.toList : Nat) : Int), PySem.intText_digits (fun c hc => of_decide_eq_true (List.all_eq_true.mp ha c hc)) (fun z => ?_) (by omega), by omega, q⟩
            rw [z] at e
            cases e
          refine i_d (fun h3 => ?_) fun h3 => ?_
          · (repeat walk_at "st")
            refine f_neS tx.shaped (by decide +kernel) ?_
            rw [str_beq]
            by_cases h4 : x.cps.toList = [48]
            · rw [decide_eq_true h4]
              (repeat walk_at "st")
              refine num (fun z => ?_) (h _ f3)
              rw [h4] at z
              exact absurd z.1 (by decide)
            · rw [decide_eq_false h4]
              (repeat walk_at "st")
              refine no _ f3 fun z => z.2.2.2 ⟨?_, by rw [e, h3]; rfl⟩
              rw [e] at h4 ⊢
              subst h3
              cases r with
              | nil => exact absurd rfl h4
              | cons d r =>
                show 1 < r.length + 1 + 1
                omega
          · (repeat walk_at "st")
            refine num (fun z => ?_) (h _ f3)
            have z2 := z.2
            rw [e] at z2
            injection z2 with z2
            exact h3 z2
        · have ha' : x.cps.toList.all dg = false := by
            cases q : x.cps.toList.all dg with
            | true => exact absurd q ha
            | false => rfl
          rw [ha']
          (repeat walk_at "st")
          exact no _ f3 fun z => ha z.2.2.1
      · rintro i dd acc κ' L hd2 hL ⟨rfl, e2, f2⟩
        obtain ⟨c, hc, rfl⟩ := chars_get hd2
        have hi : i < x.length := by
          obtain ⟨q, _⟩ := List.getElem?_eq_some_iff.mp hc
          omega
        refine ⟨trivial, ?_⟩
        rw [bi_inl]
        simp only [dwipe, List.set_cons_zero, List.set_cons_succ]
        (repeat walk_at "st")
        rw [in_figs]
        refine ⟨e2, by rw [List.length_map, List.length_map, List.length_take]; unfold sizeLine; omega, hL _ _ ⟨?_, kset_same, f2.put hm⟩⟩
        rw [take_next hc, List.map_append, List.map_append]
        rfl
    · (repeat walk_at "st")
      exact no _ Fa.refl (by omega)
  · (repeat walk_at "st")
    exact no _ Fa.refl (by omega)
end



theorem cut_d (z : Str) (k : Nat) : (L2.cutS z (some (k : Int)) none).cps.toList = z.cps.toList.drop k := by
  show ((z.cps.toList.drop (HT.sIx z.length 0 (some (k : Int)))).take (z.length - HT.sIx z.length 0 (some (k : Int)))) = _
  rw [HT.sIx_nat]
  have hl : z.cps.toList.length = z.length := Array.length_toList
  rw [List.take_of_length_le (by rw [List.length_drop]; omega)]
  by_cases h : k ≤ z.length
  · rw [Nat.min_eq_left h]
  · rw [List.drop_eq_nil_of_le (by omega), List.drop_eq_nil_of_le (by omega)]
theorem cut_t (z : Str) : (L2.cutS z none (some 1)).cps.toList = z.cps.toList.take 1 := by
  have hl : z.cps.toList.length = z.length := Array.length_toList
  show ((z.cps.toList.drop 0).take (HT.sIx z.length z.length (some ((1 : Nat) : Int)) - 0)) = _
  rw [HT.sIx_nat, List.drop_zero, Nat.sub_zero]
  by_cases h : 1 ≤ z.length
  · rw [Nat.min_eq_left h]
  · have : z.cps.toList = [] := List.length_eq_zero_iff.mp (by omega)
    rw [this]
    simp
theorem take1 (cs : List Nat) : decide (cs.take 1 = [45]) = ngt cs := by
  unfold ngt
  cases cs with
  | nil => rfl
  | cons c r =>
    refine decide_eq_decide.mpr ⟨fun z => ?_, fun z => ?_⟩
    · have z : [c] = [45] := z
      injection z with z
      rw [z]
      rfl
    · injection z with z
      rw [z]
      rfl
theorem stw_is (x : Str) (c : Nat) : Txt.startswith x ⟨#[c]⟩ = decide (x.cps.toList.head? = some c) := by
  have h := StrLaws.subAt_one x c 0
  rw [Bool.eq_iff_iff, decide_eq_true_eq, List.head?_eq_getElem?, ← h]
  unfold Txt.startswith
  rw [Bool.and_eq_true, decide_eq_true_eq]
theorem first_is {cs p : List Nat} {ps : List (List Nat)} (h : spl cs = p :: ps) : ngt p = ngt cs ∧ spl (body cs) = body p :: ps := by
  cases cs with
  | nil =>
    cases h
    exact ⟨rfl, rfl⟩
  | cons c t =>
    by_cases hc : c = 47
    · subst hc
      rw [spl_bar] at h
      injection h with h1 h2
      subst h1 h2
      exact ⟨rfl, spl_bar t⟩
    · obtain ⟨q, qs, e1, e2⟩ := spl_cons (cs := t) hc
      rw [e2] at h
      injection h with h1 h2
      subst h1 h2
      refine ⟨rfl, ?_⟩
      have e3 : ngt (c :: t) = ngt (c :: q) := rfl
      unfold body
      rw [e3]
      by_cases hg : ngt (c :: q) = true
      · rw [if_pos hg, if_pos hg]
        exact e1
      · rw [if_neg hg, if_neg hg]
        exact e2
theorem mem_join : ∀ (ps : List Str) (p : Str) (sep : Str), p ∈ ps → p.length ≤ (Str.join sep ps).length ∧ ∀ c ∈ p.cps.toList, c ∈ (Str.join sep ps).cps.toList
  | [], p, _, h => absurd h List.not_mem_nil
  | [a], p, sep, h => by
    rw [List.mem_singleton.mp h]
    exact ⟨Nat.le_refl _, fun _ h => h⟩
  | a :: b :: r, p, sep, h => by
    have e : Str.join sep (a :: b :: r) = a ++ sep ++ Str.join sep (b :: r) := rfl
    rw [e]
    rw [Str.length_append, Str.length_append]
    have e2 : (a ++ sep ++ Str.join sep (b :: r)).cps.toList = (a.cps.toList ++ sep.cps.toList) ++ (Str.join sep (b :: r)).cps.toList := by
      show ((a.cps ++ sep.cps) ++ (Str.join sep (b :: r)).cps).toList = _
      rw [Array.toList_append, Array.toList_append]
    rw [e2]
    rcases List.mem_cons.mp h with rfl | h
    · exact ⟨by omega, fun c hc => List.mem_append_left _ (List.mem_append_left _ hc)⟩
    · obtain ⟨h1, h2⟩ := mem_join (b :: r) p sep h
      exact ⟨by omega, fun c hc => List.mem_append_right _ (h2 c hc)⟩
theorem tx_parts {x p : Str} {n : Nat} (tx : Tx n x) (h : p ∈ Txt.split x (⟨#[47]⟩ : Str)) : Tx n p := by
  have hj := StrLaws.join_split x (⟨#[47]⟩ : Str)
  obtain ⟨h1, h2⟩ := mem_join _ p (⟨#[47]⟩ : Str) h
  rw [hj] at h1 h2
  exact ⟨Nat.le_trans h1 tx.1, fun c hc => tx.2 c (h2 c hc)⟩
def rD : Option (Int × Nat) → D
  | none => .non
  | some (t, d) => nq (Rat.divInt t d)
theorem pdataL_strs : ∀ zs : List Str, pdataL (zs.map D.str) = some (zs.map PyData.str)
  | [] => rfl
  | z :: zs => by
    show (match pdata (.str z), pdataL (zs.map D.str) with | some p, some ps => some (p :: ps) | _, _ => none) = _
    rw [pdataL_strs zs]
    rfl
theorem eq_strs {z : Str} {zs : List Str} {n : Nat} {κ : Kap} {Q : DQ} (h : ∀ y ∈ z :: zs, Tx n y) (q : Q (.bl false) κ) : fEq (.node .lst ((z :: zs).map D.str)) (.node .lst []) κ Q :=
  eq_dat (p := .list ((z :: zs).map PyData.str)) (q := .list []) (by show (match pdataL ((z :: zs).map D.str) with | some ps => some (PyData.list ps) | none => none) = _; rw [pdataL_strs]) rfl
    ((Sp.list (k := 0) fun p hp => by
      obtain ⟨y, hy, rfl⟩ := List.mem_map.mp hp
      exact Sp.str (h y hy)).shaped (by decide)) ((Sp.list (k := 0) (ps := []) fun p hp => absurd hp List.not_mem_nil).shaped (by decide)) q
theorem is_non {x : D} {κ : Kap} {Q : DQ} {b : Bool} (e : isNon x = b) (h : Q (.bl b) κ) : fIs x .non κ Q := ⟨rfl, by rw [e]; exact h⟩
theorem isnt_non {x : D} {κ : Kap} {Q : DQ} {b : Bool} (e : isNon x = b) (h : Q (.bl (!b)) κ) : fIsNot x .non κ Q := ⟨rfl, by rw [e]; exact h⟩
theorem f_stw {a b : Str} {κ : Kap} {Q : DQ} (h : Q (.bl (Txt.startswith a b)) κ) : fStw (.str a) (.str b) κ Q := h
theorem eq_nn {κ : Kap} {Q : DQ} (q : Q (.bl true) κ) : fEq (.node .lst []) (.node .lst []) κ Q :=
  eq_dat (p := .list []) (q := .list []) rfl rfl ((Sp.list (k := 0) (ps := []) fun p hp => absurd hp List.not_mem_nil).shaped (by decide)) ((Sp.list (k := 0) (ps := []) fun p hp => absurd hp List.not_mem_nil).shaped (by decide)) q
set_option hygiene false in
local macro_rules | `(tactic| walk_at "nf_rest") => `(tactic| (
  cases ys with
  | nil =>
    refine eq_nn ?_
    rw [List.map_nil]
    (repeat walk_at "st")
    replace h : ∀ κ', Fa κ κ' → Q (rD ((pl (body y0.cps.toList)).map fun t => (sgn true t, 1))) κ' := h
    cases et : pl (body y0.cps.toList) with
    | none =>
      rw [et] at h
      simp only [oD]
      (repeat walk_at "st")
      refine is_non (b := true) rfl ?_
      (repeat walk_at "st")
      exact h _ f1
    | some t =>
      rw [et] at h
      simp only [oD]
      (repeat walk_at "st")
      refine is_non (b := false) rfl ?_
      (repeat walk_at "st")
      refine is_non (b := false) rfl ?_
      (repeat walk_at "st")
      exact reckoned_q (by decide) (by decide) (h _ f1)
  | cons q r =>
    refine eq_strs ts ?_
    rw [List.map_cons]
    (repeat walk_at "st")
    refine figs_spec (ts q List.mem_cons_self) (by omega) fun κ2 f2 => ?_
    (repeat walk_at "st")
    cases r with
    | nil =>
      rw [List.map_nil]
      replace h : ∀ κ', Fa κ κ' → Q (rD (match pl (body y0.cps.toList), pl q.cps.toList with
        | some t, some d => if d = 0 then none else some (sgn true t, d)
        | _, _ => none)) κ' := h
      cases et : pl (body y0.cps.toList) with
      | none =>
        rw [et] at h
        simp only [oD]
        (repeat walk_at "st")
        refine is_non (b := true) rfl ?_
        (repeat walk_at "st")
        exact h _ (f1.trans f2)
      | some t =>
        rw [et] at h
        simp only [oD]
        (repeat walk_at "st")
        refine is_non (b := false) rfl ?_
        (repeat walk_at "st")
        cases eq : pl q.cps.toList with
        | none =>
          rw [eq] at h
          simp only [oD]
          refine is_non (b := true) rfl ?_
          (repeat walk_at "st")
          exact h _ (f1.trans f2)
        | some d =>
          rw [eq] at h
          simp only [oD]
          refine is_non (b := false) rfl ?_
          have dl := pl_lt eq
          replace h : ∀ κ', Fa κ κ' → Q (rD (if d = 0 then none else some (sgn true t, d))) κ' := h
          by_cases d0 : d = 0
          · rw [if_pos d0] at h
            subst d0
            (repeat walk_at "st")
            exact h _ (f1.trans f2)
          · rw [if_neg d0] at h
            (repeat walk_at "st")
            exact reckoned_q (by omega) (by rw [Int.natAbs_natCast]; exact Nat.lt_trans dl (by decide)) (h _ (f1.trans f2))
    | cons r0 rs =>
      rw [List.map_cons]
      (repeat walk_at "st")
      exact h _ (f1.trans f2)))
set_option hygiene false in
local macro_rules | `(tactic| walk_at "nf_restF") => `(tactic| (
  cases ys with
  | nil =>
    refine eq_nn ?_
    rw [List.map_nil]
    (repeat walk_at "st")
    replace h : ∀ κ', Fa κ κ' → Q (rD ((pl (body y0.cps.toList)).map fun t => (sgn false t, 1))) κ' := h
    cases et : pl (body y0.cps.toList) with
    | none =>
      rw [et] at h
      simp only [oD]
      (repeat walk_at "st")
      refine is_non (b := true) rfl ?_
      (repeat walk_at "st")
      exact h _ f1
    | some t =>
      rw [et] at h
      simp only [oD]
      (repeat walk_at "st")
      refine is_non (b := false) rfl ?_
      (repeat walk_at "st")
      refine is_non (b := false) rfl ?_
      (repeat walk_at "st")
      exact reckoned_q (by decide) (by decide) (h _ f1)
  | cons q r =>
    refine eq_strs ts ?_
    rw [List.map_cons]
    (repeat walk_at "st")
    refine figs_spec (ts q List.mem_cons_self) (by omega) fun κ2 f2 => ?_
    (repeat walk_at "st")
    cases r with
    | nil =>
      rw [List.map_nil]
      replace h : ∀ κ', Fa κ κ' → Q (rD (match pl (body y0.cps.toList), pl q.cps.toList with
        | some t, some d => if d = 0 then none else some (sgn false t, d)
        | _, _ => none)) κ' := h
      cases et : pl (body y0.cps.toList) with
      | none =>
        rw [et] at h
        simp only [oD]
        (repeat walk_at "st")
        refine is_non (b := true) rfl ?_
        (repeat walk_at "st")
        exact h _ (f1.trans f2)
      | some t =>
        rw [et] at h
        simp only [oD]
        (repeat walk_at "st")
        refine is_non (b := false) rfl ?_
        (repeat walk_at "st")
        cases eq : pl q.cps.toList with
        | none =>
          rw [eq] at h
          simp only [oD]
          refine is_non (b := true) rfl ?_
          (repeat walk_at "st")
          exact h _ (f1.trans f2)
        | some d =>
          rw [eq] at h
          simp only [oD]
          refine is_non (b := false) rfl ?_
          have dl := pl_lt eq
          replace h : ∀ κ', Fa κ κ' → Q (rD (if d = 0 then none else some (sgn false t, d))) κ' := h
          by_cases d0 : d = 0
          · rw [if_pos d0] at h
            subst d0
            (repeat walk_at "st")
            exact h _ (f1.trans f2)
          · rw [if_neg d0] at h
            (repeat walk_at "st")
            exact reckoned_q (by omega) (by rw [Int.natAbs_natCast]; exact Nat.lt_trans dl (by decide)) (h _ (f1.trans f2))
    | cons r0 rs =>
      rw [List.map_cons]
      (repeat walk_at "st")
      exact h _ (f1.trans f2)))
section
variable {κ : Kap} {X : Str → List D → Kap → Prop} {Q : DQ} {x : Str} {n : Nat}
theorem number_of_spec (tx : Tx n x) (hn : n ≤ 16777000) (h : ∀ κ', Fa κ κ' → Q (rD (res x.cps.toList)) κ') : sp_number_of [.str x] κ X Q := by
  obtain ⟨y0, ys, hs⟩ : ∃ y0 ys, Txt.split x (⟨#[47]⟩ : Str) = y0 :: ys := by
    cases e : Txt.split x (⟨#[47]⟩ : Str) with
    | nil =>
      have := PyProof.Rows.split_pos x (⟨#[47]⟩ : Str)
      rw [e] at this
      exact absurd this (by decide)
    | cons y0 ys => exact ⟨y0, ys, rfl⟩
  have sp := split_is x
  rw [hs, List.map_cons] at sp
  obtain ⟨g1, g2⟩ := first_is sp.symm
  have t0 : Tx n y0 := tx_parts tx (by rw [hs]; exact List.mem_cons_self)
  have ts : ∀ y ∈ ys, Tx n y := fun y hy => tx_parts tx (by rw [hs]; exact List.mem_cons_of_mem _ hy)
  have hres : res x.cps.toList = rd (ngt y0.cps.toList) (body y0.cps.toList :: ys.map (·.cps.toList)) := by
    unfold res
    rw [← g1, g2]
  rw [hres] at h
  (unfold sp_number_of; refine s_sp rfl ?_; simp only [startD, List.map_cons, List.map_nil, List.length_cons, List.length_nil, Nat.zero_add, Nat.reduceAdd, Nat.reduceSub, List.replicate, List.cons_append, List.nil_append]; unfold b_number_of)
  (repeat walk_at "st")
  refine isi_in _ true rfl (by decide +kernel) ?_
  (repeat walk_at "st")
  refine ⟨⟨by decide +kernel, by have := tx.1; unfold sizeLine; omega⟩, ?_⟩
  rw [s_bar, hs]
  refine ⟨.str y0, ys.map D.str, rfl, ?_⟩
  simp only [List.set_cons_zero, List.set_cons_succ]
  (repeat walk_at "st")
  refine f_stw ?_
  have e45 : Txt.startswith y0 (Str.ofString "-") = ngt y0.cps.toList := by
    rw [s_neg, stw_is]
    rfl
  rw [e45]
  (repeat walk_at "st")
  have hs0 : y0.length ≤ sizeLine := by
    have := t0.1
    unfold sizeLine
    omega
  have lens : ∀ l : List Str, ((l.map D.str).length : Int) = (l.length : Int) := fun l => by rw [List.length_map]
  by_cases hg : ngt y0.cps.toList = true
  · rw [hg] at h ⊢
    (repeat walk_at "st")
    have tc := t0.cut (some 1) none
    have eb : (L2.cutS y0 (some 1) none).cps.toList = body y0.cps.toList := by
      refine (cut_d y0 1).trans ?_
      unfold body
      rw [if_pos hg]
      exact List.drop_one
    generalize L2.cutS y0 (some 1) none = z at tc eb ⊢
    refine figs_spec tc (by omega) fun κ1 f1 => ?_
    rw [eb]
    (repeat walk_at "st")
    walk_at "nf_rest"
  · have hg' : ngt y0.cps.toList = false := by
      cases q : ngt y0.cps.toList with
      | true => exact absurd q hg
      | false => rfl
    have eb : y0.cps.toList = body y0.cps.toList := by
      unfold body
      rw [if_neg hg]
    rw [hg'] at h ⊢
    (repeat walk_at "st")
    refine figs_spec t0 (by omega) fun κ1 f1 => ?_
    rw [show pl y0.cps.toList = pl (body y0.cps.toList) from congrArg pl eb]
    (repeat walk_at "st")
    walk_at "nf_restF"
end



theorem f_fnd {a b : Str} {κ : Kap} {Q : DQ} (h : Q (.int (Txt.find a b)) κ) : fFnd (.str a) (.str b) κ Q := h
set_option hygiene false in
local macro_rules | `(tactic| walk_at "pl_loop") => `(tactic| (
  refine dl_ix (fun i δ κ' => κ' = κ ∧ (∃ t, δ = [some (.str x), some (.int ((fv (x.cps.toList.take i) : Nat) : Int)), t]) ∧ (x.cps.toList.take i).all dg = true) ?_ ?_ ⟨rfl, ⟨_, rfl⟩, rfl⟩
  · rintro δ κ' ⟨rfl, ⟨t, rfl⟩, ha⟩
    rw [chars_len, List.take_length] at ha ⊢
    refine ⟨trivial, ?_⟩
    (repeat walk_at "st")
    unfold pl at h
    rw [if_pos ⟨by omega, by omega, ha, hh⟩] at h
    exact h
  · rintro i d δ κ' L hd hL ⟨rfl, ⟨t, rfl⟩, ha⟩
    obtain ⟨c, hc, rfl⟩ := chars_get hd
    have hi : i < x.cps.toList.length := (List.getElem?_eq_some_iff.mp hc).1
    have tk := take_next hc
    have fl : fv (x.cps.toList.take i) < 10 ^ 60 := Nat.lt_of_lt_of_le (fv_lt _ ha) (Nat.pow_le_pow_right (by decide) (by rw [List.length_take]; omega))
    have e1 : decide ((⟨#[c]⟩ : Str).cps.toList < (Str.ofString "0").cps.toList) = decide (c < 48) := by
      rw [s_0]
      exact lt1 c 48
    have e3 : decide ((⟨#[c]⟩ : Str).cps.toList < (⟨#[48]⟩ : Str).cps.toList) = decide (c < 48) := lt1 c 48
    have e2 : decide ((Str.ofString "9").cps.toList < (⟨#[c]⟩ : Str).cps.toList) = decide (57 < c) := by
      rw [s_9]
      exact lt1 57 c
    have bad : dg c = false → Q .non κ' := fun z => by
      unfold pl at h
      rw [if_neg fun y => by
        have := List.all_eq_true.mp y.2.2.1 c (List.mem_of_getElem? hc)
        rw [z] at this
        cases this] at h
      exact h
    refine ⟨trivial, ?_⟩
    (repeat walk_at "st")
    first
      | rw [e1]
      | rw [e3]
    refine i_d (fun k1 => ?_) fun k1 => ?_
    · (repeat walk_at "st")
      exact bad (decide_eq_false (by omega))
    · (repeat walk_at "st")
      rw [e2]
      refine i_d (fun k2 => ?_) fun k2 => ?_
      · (repeat walk_at "st")
        exact bad (decide_eq_false (by omega))
      · have hdg : dg c = true := decide_eq_true (by omega)
        (repeat walk_at "st")
        refine f_mul (cmul_of 64 200 (by decide) (by rw [Int.natAbs_natCast]; exact Nat.lt_trans fl (by decide)) (by decide)) ?_
        (repeat walk_at "st")
        refine f_fnd ?_
        rw [find_dg hdg]
        (repeat walk_at "st")
        refine hL _ _ ⟨rfl, ⟨some (.str ⟨#[c]⟩), ?_⟩, ?_⟩
        · rw [tk, fv_snoc]
          push_cast
          rw [Int.mul_comm]
        · rw [tk, List.all_append, ha]
          show (dg c && true) = true
          rw [hdg]
          rfl))
section
variable {κ : Kap} {X : Str → List D → Kap → Prop} {Q : DQ} {x : Str} {n : Nat}
theorem plainly_spec (tx : Tx n x) (hn : n ≤ 16777000) (h : Q (oD (pl x.cps.toList)) κ) : sp__law_plainly [.str x] κ X Q := by
  have hl := len_cps (x := x)
  have no : ¬ (1 ≤ x.cps.toList.length ∧ x.cps.toList.length ≤ 60 ∧ x.cps.toList.all dg = true ∧ ¬ (1 < x.cps.toList.length ∧ x.cps.toList.head? = some 48)) → Q .non κ := fun z => by
    unfold pl at h
    rw [if_neg z] at h
    exact h
  (unfold sp__law_plainly; refine s_sp rfl ?_; simp only [startD, List.map_cons, List.map_nil, List.length_cons, List.length_nil, Nat.zero_add, Nat.reduceAdd, Nat.reduceSub, List.replicate, List.cons_append, List.nil_append]; unfold b__law_plainly)
  (repeat walk_at "st")
  refine f_lnTx tx (by omega) fun _ => ?_
  (repeat walk_at "st")
  refine i_d (fun h1 => ?_) fun h1 => ?_
  · (repeat walk_at "st")
    refine i_d (fun h2 => ?_) fun h2 => ?_
    · (repeat walk_at "st")
      refine i_d (fun h3 => ?_) fun h3 => ?_
      · (repeat walk_at "st")
        refine ix_0 tx (by omega) (by omega) fun c r e => ?_
        (repeat walk_at "st")
        rw [s_0]
        refine f_eqS (c_shaped tx e) (by decide +kernel) ?_
        rw [one_beq]
        (repeat walk_at "st")
        refine i_d (fun h4 => ?_) fun h4 => ?_
        · (repeat walk_at "st")
          exact no fun z => z.2.2.2 ⟨by omega, by rw [e, h4]; rfl⟩
        · have hh : ¬ (1 < x.cps.toList.length ∧ x.cps.toList.head? = some 48) := fun z => by
            have z2 := z.2
            rw [e] at z2
            injection z2 with z2
            exact h4 z2
          (repeat walk_at "st")
          walk_at "pl_loop"
      · have hh : ¬ (1 < x.cps.toList.length ∧ x.cps.toList.head? = some 48) := fun z => by omega
        (repeat walk_at "st")
        walk_at "pl_loop"
    · (repeat walk_at "st")
      exact no (by omega)
  · (repeat walk_at "st")
    exact no (by omega)
end



def oP : Option Nat → PyData
  | none => .none
  | some n => .int n
theorem oP_sp (o : Option Nat) : Sp 0 (oP o) := by cases o <;> exact ⟨rfl, Nat.le_refl _⟩
theorem in_1 {a : Option Nat} {κ : Kap} {Q : DQ} (h : Q (.bl (decide (a = none))) κ) : fIn false .non (.node .lst [oD a]) κ Q := by
  refine ⟨.none, .list [oP a], pd_of rfl, pd_of (by cases a <;> rfl), by decide +kernel, (Sp.list (k := 0) (ps := [oP a]) fun p hp => by rw [List.mem_singleton.mp hp]; exact oP_sp a).shaped (by decide), ⟨_, .inl rfl⟩, ?_⟩
  have : inP .none (.list [oP a]) = decide (a = none) := by cases a <;> rfl
  rw [if_neg (by decide), this]
  exact h
theorem in_2 {a b : Option Nat} {κ : Kap} {Q : DQ} (h : Q (.bl (decide (a = none ∨ b = none))) κ) : fIn false .non (.node .lst [oD a, oD b]) κ Q := by
  refine ⟨.none, .list [oP a, oP b], pd_of rfl, pd_of (by cases a <;> cases b <;> rfl), by decide +kernel, (Sp.list (k := 0) (ps := [oP a, oP b]) fun p hp => by
    simp only [List.mem_cons, List.not_mem_nil, or_false] at hp
    rcases hp with rfl | rfl
    · exact oP_sp a
    · exact oP_sp b).shaped (by decide), ⟨_, .inl rfl⟩, ?_⟩
  have : inP .none (.list [oP a, oP b]) = decide (a = none ∨ b = none) := by cases a <;> cases b <;> rfl
  rw [if_neg (by decide), this]
  exact h
theorem last_ixN {α : Type} {xs : List α} {a : α} : L2.ixN (xs ++ [a]).length (-1) = some xs.length := by
  unfold L2.ixN
  rw [if_neg (by decide), List.length_append, List.length_singleton, if_pos (by omega)]
  congr 1
  omega
theorem last_at {α : Type} {xs : List α} {a : α} : L2.atI (xs ++ [a]) (-1) = some a := by
  unfold L2.atI
  rw [last_ixN]
  show (xs ++ [a])[xs.length]? = some a
  rw [List.getElem?_append_right (Nat.le_refl _), Nat.sub_self]
  rfl
theorem last_set {α : Type} {xs : List α} {a b : α} : (xs ++ [a]).set xs.length b = xs ++ [b] := by
  rw [List.set_append_right _ _ (Nat.le_refl _), Nat.sub_self]
  rfl
section
variable {κ : Kap} {X : Str → List D → Kap → Prop} {Q : DQ} {x : Str} {n : Nat}
theorem due_spec (tx : Tx n x) (hn : n ≤ 1000000) (h : ∀ κ', Fa κ κ' → Q (rD (res x.cps.toList)) κ') : sp__law_due [.str x] κ X Q := by
  have hx := tx.1
  (unfold sp__law_due; refine s_sp rfl ?_; simp only [startD, List.map_cons, List.map_nil, List.length_cons, List.length_nil, Nat.zero_add, Nat.reduceAdd, Nat.reduceSub, List.replicate, List.cons_append, List.nil_append]; unfold b__law_due)
  (repeat walk_at "st")
  refine isi_in _ true rfl (by decide +kernel) ?_
  (repeat walk_at "st")
  have t1 := tx.cut none (some 1)
  refine f_eqS t1.shaped (by decide +kernel) ?_
  rw [s_neg, str_beq, cut_t, take1]
  (repeat walk_at "st")
  refine e_nwt fun m hm => ?_
  (repeat walk_at "st")
  have eb : (L2.cutS x (some (if ngt x.cps.toList = true then 1 else 0)) none).cps.toList = body x.cps.toList := by
    unfold body
    by_cases hg : ngt x.cps.toList = true
    · rw [if_pos hg, if_pos hg]
      exact (cut_d x 1).trans List.drop_one
    · rw [if_neg hg, if_neg hg]
      exact (cut_d x 0).trans rfl
  have tb := tx.cut (some (if ngt x.cps.toList = true then 1 else 0)) none
  generalize L2.cutS x (some (if ngt x.cps.toList = true then 1 else 0)) none = z at eb tb ⊢
  have hz := tb.1
  have hzl : z.cps.toList.length = z.length := Array.length_toList
  refine dl_ix (fun i δ κ' => (∃ t, δ = [some (.str x), some (.bl (ngt x.cps.toList)), some (.cell m), t, none, none]) ∧ Fa κ κ' ∧
    ∃ zs : List Str, κ' m = some (.live .lst (zs.map D.str)) ∧ zs.map (·.cps.toList) = spl (z.cps.toList.take i) ∧ (∀ y ∈ zs, Tx i y) ∧ zs.length ≤ i + 1) ?_ ?_ ⟨⟨_, rfl⟩, Fa.new hm, [Str.ofString ""], kset_same, (show [(Str.ofString "").cps.toList] = [[]] by decide +kernel), fun y hy => by rw [List.mem_singleton.mp hy]; exact Tx.emp, Nat.le_refl _⟩
  · rintro δ κ' ⟨⟨t, rfl⟩, fa, zs, em, es, tz, lz⟩
    rw [chars_len] at tz lz
    rw [chars_len, List.take_length, eb] at es
    refine ⟨trivial, ?_⟩
    (repeat walk_at "st")
    refine q_cell em ?_
    intro m2 hm2
    refine lcLoop_ix (fun j acc κ2 => acc = (zs.take j).map (fun y => oD (pl y.cps.toList)) ∧ κ2 m2 = some (.live .lst acc) ∧ Fa κ' κ2) ?_ ?_ ⟨rfl, kset_same, Fa.new hm2⟩
    rotate_left
    · rintro j d acc κ2 L hd hL ⟨rfl, e2, f2⟩
      rw [List.getElem?_map, Option.map_eq_some_iff] at hd
      obtain ⟨y, hy, rfl⟩ := hd
      have hj := (List.getElem?_eq_some_iff.mp hy).1
      refine ⟨f2 _ _ em, ?_⟩
      rw [bi_inl]
      simp only [dwipe, List.set_cons_zero, List.set_cons_succ]
      (repeat walk_at "st")
      refine plainly_spec (tz y (List.mem_of_getElem? hy)) (by omega) ?_
      refine ⟨e2, by rw [List.length_map, List.length_take]; unfold sizeLine; omega, hL _ _ ⟨?_, kset_same, f2.put hm2⟩⟩
      rw [take_next hy, List.map_append]
      rfl
    · rintro acc κ2 ⟨rfl, e2, f2⟩
      refine ⟨f2 _ _ em, e2, ?_⟩
      rw [List.length_map, List.take_length]
      have em3 := (f2.put (c := .dead) hm2) _ _ em
      have f3 := fa.trans (f2.put (c := .dead) hm2)
      generalize kset κ2 m2 .dead = κ3 at em3 f3
      have hres : res x.cps.toList = rd (ngt x.cps.toList) (zs.map (·.cps.toList)) := by
        unfold res
        rw [es]
      rw [hres] at h
      clear e2 f2 hm2 em tz lz
      (repeat walk_at "st")
      refine f_lnC em3 ?_
      match zs, es, em3, h with
      | [], es, _, _ => exact absurd es.symm (spl_ne _)
      | [p], _, em3, h =>
        replace h : ∀ κ', Fa κ κ' → Q (rD ((pl p.cps.toList).map fun t => (sgn (ngt x.cps.toList) t, 1))) κ' := h
        simp only [List.map_cons, List.map_nil] at em3 ⊢
        (repeat walk_at "st")
        refine in_1 ?_
        cases et : pl p.cps.toList with
        | none =>
          rw [et] at h
          rw [decide_eq_true rfl]
          (repeat walk_at "st")
          exact h _ f3
        | some t =>
          rw [et] at h
          simp only [oD]
          rw [decide_eq_false (by intro z; cases z)]
          (repeat walk_at "st")
          refine f_lnC em3 ?_
          (repeat walk_at "st")
          cases hg : ngt x.cps.toList
          · rw [hg] at h
            (repeat walk_at "st")
            simp only [List.cons_append, List.nil_append]
            (repeat walk_at "st")
            exact lnum_q (by decide) (by decide) (h _ f3)
          · rw [hg] at h
            (repeat walk_at "st")
            simp only [List.cons_append, List.nil_append]
            (repeat walk_at "st")
            exact lnum_q (by decide) (by decide) (h _ f3)
      | [p, q], _, em3, h =>
        replace h : ∀ κ', Fa κ κ' → Q (rD (match pl p.cps.toList, pl q.cps.toList with
          | some t, some d => if d = 0 then none else some (sgn (ngt x.cps.toList) t, d)
          | _, _ => none)) κ' := h
        simp only [List.map_cons, List.map_nil] at em3 ⊢
        (repeat walk_at "st")
        refine in_2 ?_
        cases et : pl p.cps.toList with
        | none =>
          rw [et] at h
          rw [decide_eq_true (.inl rfl)]
          (repeat walk_at "st")
          exact h _ f3
        | some t =>
          cases eq : pl q.cps.toList with
          | none =>
            rw [et, eq] at h
            rw [decide_eq_true (.inr rfl)]
            (repeat walk_at "st")
            exact h _ f3
          | some d =>
            rw [et, eq] at h
            have dl := pl_lt eq
            simp only [oD]
            rw [decide_eq_false (by rintro (z | z) <;> cases z)]
            (repeat walk_at "st")
            refine f_lnC em3 ?_
            (repeat walk_at "st")
            replace h : ∀ κ', Fa κ κ' → Q (rD (if d = 0 then none else some (sgn (ngt x.cps.toList) t, d))) κ' := h
            by_cases d0 : d = 0
            · rw [if_pos d0] at h
              subst d0
              (repeat walk_at "st")
              exact h _ f3
            · rw [if_neg d0] at h
              (repeat walk_at "st")
              cases hg : ngt x.cps.toList
              · rw [hg] at h
                (repeat walk_at "st")
                simp only [List.cons_append, List.nil_append]
                (repeat walk_at "st")
                exact lnum_q (by omega) (by rw [Int.natAbs_natCast]; exact Nat.lt_trans dl (by decide)) (h _ f3)
              · rw [hg] at h
                (repeat walk_at "st")
                simp only [List.cons_append, List.nil_append]
                (repeat walk_at "st")
                exact lnum_q (by omega) (by rw [Int.natAbs_natCast]; exact Nat.lt_trans dl (by decide)) (h _ f3)
      | p :: q :: r :: rs, _, em3, h =>
        rw [show (((p :: q :: r :: rs).map D.str).length : Int) = (rs.length : Int) + 3 by rw [List.length_map]; simp; omega]
        (repeat walk_at "st")
        exact h _ f3
  · rintro i d δ κ' L hd hL ⟨⟨t, rfl⟩, fa, zs, em, es, tz, lz⟩
    obtain ⟨c, hc, rfl⟩ := chars_get hd
    have hi : i < z.cps.toList.length := (List.getElem?_eq_some_iff.mp hc).1
    have tk := take_next hc
    have tc : Tx 1 (⟨#[c]⟩ : Str) := Tx.one (tb.2 c (List.mem_of_getElem? hc))
    obtain ⟨ws, w, rfl⟩ : ∃ ws w, zs = ws ++ [w] := by
      have ne : zs ≠ [] := fun z => by
        rw [z] at es
        exact spl_ne _ es.symm
      exact ⟨zs.dropLast, zs.getLast ne, (List.dropLast_concat_getLast ne).symm⟩
    rw [List.map_append] at es
    have sn := spl_snoc (z.cps.toList.take i) _ _ c es.symm
    rw [← tk] at sn
    refine ⟨trivial, ?_⟩
    (repeat walk_at "st")
    refine f_eqS tc.shaped (by decide +kernel) ?_
    rw [s_bar, one_beq]
    (repeat walk_at "st")
    refine i_d (fun k => ?_) fun k => ?_
    · rw [if_pos k] at sn
      (repeat walk_at "st")
      refine ⟨⟨_, vw_cell em⟩, ?_⟩
      (repeat walk_at "st")
      refine f_app em (by rw [List.length_map]; omega) ?_
      refine hL _ _ ⟨⟨_, rfl⟩, fa.put hm, (ws ++ [w]) ++ [Str.ofString ""], ?_, ?_, ?_, ?_⟩
      · rw [kset_same, List.map_append (l₁ := ws ++ [w])]
        rfl
      · rw [sn, List.map_append, List.map_append, List.append_assoc]
        have : (Str.ofString "").cps.toList = [] := by decide +kernel
        simp [this]
      · intro y hy
        rcases List.mem_append.mp hy with hy | hy
        · exact (tz y hy).mono (by omega)
        · rw [List.mem_singleton.mp hy]
          exact Tx.emp.mono (by omega)
      · rw [List.length_append, List.length_singleton]
        omega
    · rw [if_neg k] at sn
      (repeat walk_at "st")
      have em2 : κ' m = some (.live .lst (ws.map D.str ++ [D.str w])) := by
        rw [em, List.map_append]
        rfl
      rw [ix_cell em2]
      refine ⟨.str w, last_at, ?_⟩
      (repeat walk_at "st")
      have tw := tz w (List.mem_append_right _ (List.mem_singleton.mpr rfl))
      refine f_adT tw tc (by omega) fun ta => ?_
      (repeat walk_at "st")
      rw [se_cell em2]
      refine ⟨_, last_ixN, ?_⟩
      rw [last_set]
      refine hL _ _ ⟨⟨_, rfl⟩, fa.put hm, ws ++ [w ++ ⟨#[c]⟩], ?_, ?_, ?_, ?_⟩
      · rw [kset_same, List.map_append]
        rfl
      · rw [sn, List.map_append]
        have : (w ++ (⟨#[c]⟩ : Str)).cps.toList = w.cps.toList ++ [c] := by
          show (w.cps ++ #[c]).toList = _
          rw [Array.toList_append]
        simp [this]
      · intro y hy
        rcases List.mem_append.mp hy with hy | hy
        · exact (tz y (List.mem_append_left _ hy)).mono (by omega)
        · rw [List.mem_singleton.mp hy]
          exact ta
      · rw [List.length_append, List.length_singleton] at lz ⊢
        omega
end



theorem isNon_nq (q : Rat) : isNon (nq q) = false := by
  unfold nq nb
  split <;> rfl
theorem isNon_rD (r : Option (Int × Nat)) : isNon (rD r) = decide (r = none) := by
  cases r with
  | none => rfl
  | some p =>
    obtain ⟨t, d⟩ := p
    show isNon (nq _) = _
    rw [isNon_nq]
    rfl
section
variable {κ : Kap} {X : Str → List D → Kap → Prop} {Q : DQ} {x : Str} {n : Nat}
theorem is_rD {t : Int} {d : Nat} (h : Q (.bl true) κ) : sp__law_is 2 [rD (some (t, d)), rD (some (t, d))] κ X Q := is_q rfl h
theorem right_str (tx : Tx n x) (hn : n ≤ 1000000) (h : ∀ κ', Fa κ κ' → Q (.bl true) κ') : sp__law_right [.str x] κ X Q := by
  (unfold sp__law_right; refine s_sp rfl ?_; simp only [startD, List.map_cons, List.map_nil, List.length_cons, List.length_nil, Nat.zero_add, Nat.reduceAdd, Nat.reduceSub, List.replicate, List.cons_append, List.nil_append]; unfold b__law_right)
  (repeat walk_at "st")
  refine due_spec tx hn fun κ1 f1 => ?_
  (repeat walk_at "st")
  refine dl_ix (fun i δ κ' => Fa κ κ' ∧ ∃ a b, δ = [some (.str x), some (rD (res x.cps.toList)), a, b]) ?_ ?_ ⟨f1, _, _, rfl⟩
  · rintro δ κ' ⟨f, a, b, rfl⟩
    refine ⟨trivial, ?_⟩
    (repeat walk_at "st")
    exact h _ f
  · rintro i d δ κ' L hd hL ⟨f, a, b, rfl⟩
    refine ⟨trivial, ?_⟩
    (repeat walk_at "st")
    refine number_of_spec tx (by omega) fun κ2 f2 => ?_
    (repeat walk_at "st")
    cases hr : res x.cps.toList with
    | none =>
      refine is_non (b := true) rfl ?_
      (repeat walk_at "st")
      refine isnt_non (b := true) rfl ?_
      (repeat walk_at "st")
      refine isnt_non (b := true) rfl ?_
      (repeat walk_at "st")
      exact hL _ _ ⟨f.trans f2, _, _, by rw [hr]⟩
    | some p =>
      obtain ⟨t, d⟩ := p
      refine is_non (b := false) (isNon_nq _) ?_
      (repeat walk_at "st")
      refine isnt_non (b := false) (isNon_nq _) ?_
      (repeat walk_at "st")
      refine is_rD ?_
      (repeat walk_at "st")
      exact hL _ _ ⟨f.trans f2, _, _, by rw [hr]⟩
theorem right_no {d : D} (hd : ∀ κ, ∃ t, tyK d κ = some t ∧ kt t (.b "str") = some false) (h : Q (.bl true) κ) : sp__law_right [d] κ X Q := by
  have due : ∀ {Q' : DQ}, Q' .non κ → sp__law_due [d] κ X Q' := fun {Q'} q => by
    obtain ⟨t, e1, e2⟩ := hd κ
    (unfold sp__law_due; refine s_sp rfl ?_; simp only [startD, List.map_cons, List.map_nil, List.length_cons, List.length_nil, Nat.zero_add, Nat.reduceAdd, Nat.reduceSub, List.replicate, List.cons_append, List.nil_append]; unfold b__law_due)
    (repeat walk_at "st")
    refine isi_in _ false e1 e2 ?_
    (repeat walk_at "st")
    exact q
  have num : ∀ {Q' : DQ}, Q' .non κ → sp_number_of [d] κ X Q' := fun {Q'} q => by
    obtain ⟨t, e1, e2⟩ := hd κ
    (unfold sp_number_of; refine s_sp rfl ?_; simp only [startD, List.map_cons, List.map_nil, List.length_cons, List.length_nil, Nat.zero_add, Nat.reduceAdd, Nat.reduceSub, List.replicate, List.cons_append, List.nil_append]; unfold b_number_of)
    (repeat walk_at "st")
    refine isi_in _ false e1 e2 ?_
    (repeat walk_at "st")
    exact q
  (unfold sp__law_right; refine s_sp rfl ?_; simp only [startD, List.map_cons, List.map_nil, List.length_cons, List.length_nil, Nat.zero_add, Nat.reduceAdd, Nat.reduceSub, List.replicate, List.cons_append, List.nil_append]; unfold b__law_right)
  (repeat walk_at "st")
  refine due ?_
  (repeat walk_at "st")
  refine dl_ix (fun i δ κ' => κ' = κ ∧ ∃ a b, δ = [some d, some .non, a, b]) ?_ ?_ ⟨rfl, _, _, rfl⟩
  · rintro δ κ' ⟨rfl, a, b, rfl⟩
    refine ⟨trivial, ?_⟩
    (repeat walk_at "st")
    exact h
  · rintro i e δ κ' L hd hL ⟨rfl, a, b, rfl⟩
    refine ⟨trivial, ?_⟩
    (repeat walk_at "st")
    refine num ?_
    (repeat walk_at "st")
    refine is_non (b := true) rfl ?_
    (repeat walk_at "st")
    refine isnt_non (b := true) rfl ?_
    (repeat walk_at "st")
    refine isnt_non (b := true) rfl ?_
    (repeat walk_at "st")
    exact hL _ _ ⟨rfl, _, _, rfl⟩
end
/-! a number's text -/
theorem str_ext {x y : Str} (h : x.cps.toList = y.cps.toList) : x = y := by
  cases x
  cases y
  congr 1
  exact Array.toList_inj.mp h
theorem app_cps (x y : Str) : (x ++ y).cps.toList = x.cps.toList ++ y.cps.toList := by
  show (x.cps ++ y.cps).toList = _
  exact Array.toList_append
theorem str_int (i : Int) : (Str.ofString (toString i)).cps.toList = (if i < 0 then [45] else []) ++ dgs i.natAbs := by
  cases i with
  | ofNat n =>
    rw [if_neg (by show ¬ ((n : Int) < 0); omega)]
    exact str_nat n
  | negSucc n =>
    rw [if_pos (Int.negSucc_lt_zero n), Str.ofString_eq_toList]
    show (("-" ++ (n + 1).repr).toList.map Char.toNat) = [45] ++ dgs (n + 1)
    rw [String.toList_append, List.map_append, Nat.toList_repr]
    rfl
theorem emp_app (x : Str) : Str.empty ++ x = x := str_ext (by rw [app_cps]; rfl)
section
variable {κ : Kap} {X : Str → List D → Kap → Prop} {Q : DQ} {q : Rat}
theorem joined3 {X : DX} {δ : DEnv} {i j : Nat} {u v : Int} {z : Str} (e1 : δ[i]? = some (some (.int u))) (e2 : δ[j]? = some (some (.int v))) (hu : u.natAbs.log2 < 1920) (hv : v.natAbs.log2 < 1920) (tz : Tx 1 z)
    (h : Q (.str (Str.ofString (toString u) ++ z ++ Str.ofString (toString v))) κ) : dJoined [dFmt (dVar i), dC (.str z), dFmt (dVar j)] δ κ X Q := by
  have t1 := (Tx.num hu).1
  have t2 := (Tx.num hv).1
  have t3 := tz.1
  have l : ∀ a b : Str, (a ++ b).length = a.length + b.length := Str.length_append
  have e3 : Str.empty ++ Str.ofString (toString u) = Str.ofString (toString u) := emp_app _
  have p3 : dVar j δ κ X (fun x κ1 => fFmt x κ1 fun x κ1 => ∃ y : Str, x = .str y ∧ (Str.empty ++ Str.ofString (toString u) ++ z ++ y).length ≤ sizeLine ∧ Q (.str (Str.empty ++ Str.ofString (toString u) ++ z ++ y)) κ1) := by
    refine e_var e2 ⟨hv, _, rfl, ?_, ?_⟩
    · rw [e3, l, l]
      unfold sizeLine
      omega
    · rw [e3]
      exact h
  have p1 : dVar i δ κ X (fun x κ1 => fFmt x κ1 fun x κ1 => ∃ y : Str, x = .str y ∧ (Str.empty ++ y).length ≤ sizeLine ∧ dJs [dC (.str z), dFmt (dVar j)] (Str.empty ++ y) δ κ1 X fun out κ1 => Q (.str out) κ1) := by
    refine e_var e1 ⟨hu, _, rfl, ?_, ⟨z, rfl, ?_, p3⟩⟩
    · rw [e3]
      unfold sizeLine
      omega
    · rw [e3, l]
      unfold sizeLine
      omega
  exact p1
theorem number_text_spec {k : Nat} (n : Sz k q) (hk : k ≤ 1900) (h : ∀ z : Str, z.cps.toList = ntx q.num q.den → Tx 3843 z → Q (.str z) κ) : sp_number_text [nq q] κ X Q := by
  have h1 : q.num.natAbs.log2 < 1920 := Nat.lt_of_le_of_lt (log_lt n.1) (by omega)
  have h2 : ((q.den : Int)).natAbs.log2 < 1920 := Nat.lt_of_le_of_lt (log_lt n.db) (by omega)
  (unfold sp_number_text; refine s_sp rfl ?_; simp only [startD, List.map_cons, List.map_nil, List.length_cons, List.length_nil, Nat.zero_add, Nat.reduceAdd, Nat.reduceSub, List.replicate, List.cons_append, List.nil_append]; unfold b_number_text)
  (repeat walk_at "st")
  refine pair_q ?_
  (repeat walk_at "st")
  refine i_d (fun e => ?_) fun e => ?_
  · have e : q.den = 1 := by omega
    (repeat walk_at "st")
    refine h _ ?_ ((Tx.num h1).mono (by decide))
    rw [str_int]
    unfold ntx
    rw [if_pos e, List.append_nil]
  · have e : ¬ q.den = 1 := by omega
    (repeat walk_at "st")
    refine joined3 (by with_unfolding_all rfl) (by with_unfolding_all rfl) h1 h2 (Tx.of _ (by decide +kernel)) ?_
    refine h _ ?_ ((((Tx.num h1).app (Tx.of (n := 1) _ (by decide +kernel))).app (Tx.num h2)).mono (by decide))
    rw [app_cps, app_cps, str_int, str_int, if_neg (show ¬ ((q.den : Int) < 0) by omega)]
    unfold ntx
    rw [if_neg e, s_bar]
    show ((_ ++ dgs _) ++ [47]) ++ ([] ++ dgs q.den) = _
    simp
end



def Dz (q : Rat) : Prop := q.num.natAbs < 10 ^ 60 ∧ q.den < 10 ^ 60
theorem Dz.sz {q : Rat} (h : Dz q) : Sz 200 q := ⟨Nat.lt_trans h.1 (by decide), Nat.lt_trans h.2 (by decide)⟩
theorem div_dz {u l : Int} (h0 : 0 < l) (hu : u.natAbs < 10 ^ 60) (hl : l.natAbs < 10 ^ 60) : Dz (Rat.divInt u l) := by
  constructor
  · rw [Rat.num_divInt, Int.sign_eq_one_of_pos h0, Int.one_mul]
    exact Nat.lt_of_le_of_lt (Int.natAbs_ediv_le_natAbs _ _) hu
  · rw [Rat.den_divInt, if_neg (by omega)]
    exact Nat.lt_of_le_of_lt (Nat.div_le_self _ _) hl
theorem far_spec {b m : Nat} {κ : Kap} {X : Str → List D → Kap → Prop} {Q : DQ} (hB : Bx b m κ) (hm : m ≤ 2 ^ 39)
    (h : ∀ r κ', -(10 ^ 60) < r → r < 10 ^ 60 → Bx b (m + 22) κ' → Fr b κ κ' → Q (.int r) κ') : sp__law_far [.cell b] κ X Q := by
  (unfold sp__law_far; refine s_sp rfl ?_; simp only [startD, List.map_cons, List.map_nil, List.length_cons, List.length_nil, Nat.zero_add, Nat.reduceAdd, Nat.reduceSub, List.replicate, List.cons_append, List.nil_append]; unfold b__law_far)
  (repeat walk_at "st")
  refine take_spec hB (by omega) (by decide) (by decide) fun r κ1 r0 r1 B1 f1 => ?_
  (repeat walk_at "st")
  refine dl_ix (fun i δ κ' => ∃ v k, δ = [some (.cell b), some (.int v), k] ∧ 0 ≤ v ∧ v < 1000 ^ i ∧ Bx b (m + 1 + i) κ' ∧ Fr b κ κ') ?_ ?_ ⟨0, none, rfl, by decide, by decide, B1, f1⟩
  · rintro δ κ' ⟨v, k, rfl, v0, v1, B2, f2⟩
    rw [rangeD_len] at v1 B2
    have hv : v < 1000 ^ 20 := Int.lt_of_lt_of_le v1 (ipow_le (by decide) (by omega))
    refine ⟨trivial, ?_⟩
    (repeat walk_at "st")
    refine take_spec B2 (by omega) (by decide) (by decide) fun q κ3 q0 q1 B3 f3 => ?_
    have hw := fm_bd v 1000 (by decide)
    refine ix_mem q0 q1 fun d hd => ?_
    have B4 := B3.mono (m' := m + 22) (by omega)
    simp only [List.mem_cons, List.not_mem_nil, or_false] at hd
    rcases hd with rfl | rfl | rfl
    · exact h _ _ (by omega) (by omega) B4 (f2.trans f3)
    · exact h _ _ (by omega) (by omega) B4 (f2.trans f3)
    · exact h _ _ (by omega) (by omega) B4 (f2.trans f3)
  · rintro i d δ κ' L hd hL ⟨v, k, rfl, v0, v1, B2, f2⟩
    obtain ⟨hi, rfl⟩ := rangeD_get hd
    have hv : v < 1000 ^ 20 := Int.lt_of_lt_of_le v1 (ipow_le (by decide) (by omega))
    refine ⟨trivial, ?_⟩
    (repeat walk_at "st")
    refine f_mul (cmul_of 64 210 (by decide) (by omega) (by decide)) ?_
    (repeat walk_at "st")
    refine take_spec B2 (by omega) (by decide) (by decide) fun q κ3 q0 q1 B3 f3 => ?_
    (repeat walk_at "st")
    refine hL _ _ ⟨_, _, rfl, by omega, ?_, B3, f2.trans f3⟩
    rw [Int.pow_succ]
    omega
theorem drawn_q {b m : Nat} {κ : Kap} {X : Str → List D → Kap → Prop} {Q : DQ} (hB : Bx b m κ) (hm : m ≤ 2 ^ 37)
    (h : ∀ q κ', Dz q → Bx b (m + 60) κ' → Fr b κ κ' → Q (nq q) κ') : sp__law_drawn [.cell b] κ X Q := by
  (unfold sp__law_drawn; refine s_sp rfl ?_; simp only [startD, List.map_cons, List.map_nil, List.length_cons, List.length_nil, Nat.zero_add, Nat.reduceAdd, Nat.reduceSub, List.replicate, List.cons_append, List.nil_append]; unfold b__law_drawn)
  (repeat walk_at "st")
  refine take_spec hB (by omega) (by decide) (by decide) fun t1 κ1 _ _ B1 f1 => ?_
  (repeat walk_at "st")
  refine far_spec B1 (by omega) fun t2 κ2 _ _ B2 f2 => ?_
  (repeat walk_at "st")
  refine take_spec B2 (by omega) (by decide) (by decide) fun t3 κ3 c0 c1 B3 f3 => ?_
  refine ix_mem c0 c1 fun d1 hd1 => ?_
  have e1 : ∃ u : Int, d1 = .int u ∧ u.natAbs < 10 ^ 60 := by
    simp only [List.mem_cons, List.not_mem_nil, or_false] at hd1
    rcases hd1 with rfl | rfl
    · exact ⟨_, rfl, by omega⟩
    · exact ⟨_, rfl, by omega⟩
  obtain ⟨u, rfl, hu⟩ := e1
  (repeat walk_at "st")
  refine take_spec B3 (by omega) (by decide) (by decide) fun t4 κ4 _ _ B4 f4 => ?_
  (repeat walk_at "st")
  refine far_spec B4 (by omega) fun t5 κ5 _ _ B5 f5 => ?_
  (repeat walk_at "st")
  rw [show (10 : Int) ^ Int.toNat 60 = 10 ^ 60 from rfl]
  have fb := fm_bd (if t5 < 0 then -t5 else t5) (10 ^ 60 - 1) (by decide)
  generalize Int.fmod (if t5 < 0 then -t5 else t5) (10 ^ 60 - 1) = w at fb
  (repeat walk_at "st")
  refine take_spec B5 (by omega) (by decide) (by decide) fun t6 κ6 c2 c3 B6 f6 => ?_
  refine ix_mem c2 c3 fun d2 hd2 => ?_
  have e2 : ∃ l : Int, d2 = .int l ∧ 0 < l ∧ l.natAbs < 10 ^ 60 := by
    simp only [List.mem_cons, List.not_mem_nil, or_false] at hd2
    rcases hd2 with rfl | rfl | rfl | rfl
    · exact ⟨_, rfl, by omega, by omega⟩
    · exact ⟨_, rfl, by omega, by omega⟩
    · exact ⟨_, rfl, by omega, by omega⟩
    · exact ⟨_, rfl, by omega, by omega⟩
  obtain ⟨l, rfl, hl, hl2⟩ := e2
  (repeat walk_at "st")
  exact lnum_q (by omega) (Nat.lt_trans hl2 (by decide)) (h _ _ (div_dz hl hu hl2) (B6.mono (by omega)) (f1.trans (f2.trans (f3.trans (f4.trans (f5.trans f6))))))
theorem signs_spec {κ : Kap} {X : Str → List D → Kap → Prop} {Q : DQ} (h : ∀ x : Str, x.length = 95 → Tx 95 x → Q (.str x) κ) : sp__law_signs [] κ X Q := by
  have l1 : (Str.ofString " !\"#$&'()*+,-./0123456789:;<=>?@ABCDEFGHIJKLMNOPQRSTUVWXYZ[\\]^_`").length = 64 := by decide +kernel
  have l2 : (Str.ofString "abcdefghijklmnopqrstuvwxyz{|}~\n").length = 31 := by decide +kernel
  have t1 := Tx.of _ (Nat.le_of_eq l1)
  have t2 := Tx.of _ (Nat.le_of_eq l2)
  (unfold sp__law_signs; refine s_sp rfl ?_; simp only [startD, List.map_cons, List.map_nil, List.length_cons, List.length_nil, Nat.zero_add, Nat.reduceAdd, Nat.reduceSub, List.replicate, List.cons_append, List.nil_append]; unfold b__law_signs)
  (repeat walk_at "st")
  exact h _ (by rw [len_app, l1, l2]) (t1.app t2)
theorem tx_strip {x y : Str} {n : Nat} (tx : Tx n x) : Tx n (Txt.lstripChars x y) := by
  have h : Txt.lstripChars x y = x ∨ ∃ i j, Txt.lstripChars x y = ⟨x.cps.extract i j⟩ := by
    unfold Txt.lstripChars Txt.stripBy
    split
    · exact .inl rfl
    · exact .inr ⟨_, _, rfl⟩
  refine ⟨Nat.le_trans (PyProof.Rows.len_lstripChars x y) tx.1, fun c hc => ?_⟩
  rcases h with e | ⟨i, j, e⟩
  · rw [e] at hc
    exact tx.2 c hc
  · rw [e] at hc
    refine tx.2 c ?_
    have hc : c ∈ (x.cps.extract i j).toList := hc
    rw [Array.toList_extract] at hc
    exact List.mem_of_mem_drop (List.mem_of_mem_take hc)
theorem f_lst {a b : Str} {κ : Kap} {Q : DQ} (hl : a.length ≤ sizeLine) (h : Q (.str (Txt.lstripChars a b)) κ) : fLst (.str a) (.str b) κ Q := ⟨hl, h⟩
theorem figures_spec {b m : Nat} {κ : Kap} {X : Str → List D → Kap → Prop} {Q : DQ} (hB : Bx b m κ) (hm : m ≤ 2 ^ 39)
    (h : ∀ x κ', Tx 62 x → Bx b (m + 70) κ' → Fr b κ κ' → Q (.str x) κ') : sp__law_figures [.cell b] κ X Q := by
  have ls : (Str.ofString "0123456789").length = 10 := by decide +kernel
  have tsm := Tx.of _ (Nat.le_of_eq ls)
  (unfold sp__law_figures; refine s_sp rfl ?_; simp only [startD, List.map_cons, List.map_nil, List.length_cons, List.length_nil, Nat.zero_add, Nat.reduceAdd, Nat.reduceSub, List.replicate, List.cons_append, List.nil_append]; unfold b__law_figures)
  generalize Str.ofString "0123456789" = small at ls tsm
  (repeat walk_at "st")
  refine take_spec hB (by omega) (by decide) (by decide) fun a1 κ1 _ _ B1 f1 => ?_
  (repeat walk_at "st")
  refine take_spec B1 (by omega) (by decide) (by decide) fun a2 κ2 _ _ B2 f2 => ?_
  (repeat walk_at "st")
  refine take_spec B2 (by omega) (by decide) (by decide) fun a3 κ3 _ _ B3 f3 => ?_
  (repeat walk_at "st")
  refine take_spec B3 (by omega) (by decide) (by decide) fun a4 κ4 c0 c1 B4 f4 => ?_
  refine ix_mem c0 c1 fun d1 hd1 => ?_
  have e1 : ∃ u : Int, d1 = .int u ∧ 0 ≤ u ∧ u ≤ 61 := by
    simp only [List.mem_cons, List.not_mem_nil, or_false] at hd1
    rcases hd1 with rfl | rfl | rfl
    · exact ⟨_, rfl, by omega, by omega⟩
    · exact ⟨_, rfl, by omega, by omega⟩
    · exact ⟨_, rfl, by omega, by omega⟩
  obtain ⟨u, rfl, u0, u1⟩ := e1
  have f14 := f1.trans (f2.trans (f3.trans f4))
  have B0 := B4.mono (m' := m + 4) (by omega)
  clear B1 B2 B3 B4 f1 f2 f3 f4 hd1 c0 c1
  (repeat walk_at "st")
  intro n hn
  have hne := B0.ne hn
  refine lcLoop_ix (fun i acc κ' => ∃ cs : List Str, acc = cs.map D.str ∧ cs.length = i ∧ (∀ y ∈ cs, Tx 1 y) ∧ κ' n = some (.live .lst acc) ∧ Bx b (m + 4 + i) κ' ∧ Fr b κ4 κ') ?_ ?_ ⟨[], rfl, rfl, by simp, kset_same, B0.set hne, Fr.set hn⟩
  · rintro acc κ' ⟨cs, rfl, hl, h1, e3, B3, f3⟩
    rw [rangeD_len] at hl B3
    refine ⟨trivial, e3, ?_⟩
    refine f_join h1 (by omega) fun w tw => ?_
    have tw : Tx 62 w := tw.mono (by omega)
    have hj := tw.1
    have B4 : Bx b (m + 68) (kset κ' n .dead) := (B3.set hne).mono (by omega)
    have f4 : Fr b κ (kset κ' n .dead) := f14.trans (f3.put hn)
    generalize kset κ' n .dead = κ5 at B4 f4
    (repeat walk_at "st")
    refine f_lst (by unfold sizeLine; omega) ?_
    have ts := tx_strip (y := Str.ofString "0") tw
    generalize Txt.lstripChars w (Str.ofString "0") = s at ts
    (repeat walk_at "st")
    refine f_neS ts.shaped (by decide +kernel) ?_
    (repeat walk_at "st")
    have fin : ∀ s2 : Str, Tx 62 s2 → ∀ i : Int, 0 ≤ i → i < 2 → ∀ κ6, Bx b (m + 70) κ6 → Fr b κ κ6 → fIx (.node .lst [.str s2, .str w]) (.int i) κ6 Q := fun s2 t2 i i0 i1 κ6 B f => ix_mem i0 i1 fun d hd => by
      simp only [List.mem_cons, List.not_mem_nil, or_false] at hd
      rcases hd with rfl | rfl
      · exact h _ _ t2 B f
      · exact h _ _ tw B f
    cases hb : (s == Str.ofString "")
    · (repeat walk_at "st")
      refine take_spec B4 (by omega) (by decide) (by decide) fun a5 κ6 _ _ B5 f5 => ?_
      (repeat walk_at "st")
      exact fin _ ts _ (by split <;> decide) (by split <;> decide) _ (B5.mono (by omega)) (f4.trans f5)
    · (repeat walk_at "st")
      refine take_spec B4 (by omega) (by decide) (by decide) fun a5 κ6 _ _ B5 f5 => ?_
      (repeat walk_at "st")
      exact fin _ ((Tx.of (n := 1) _ (by decide +kernel)).mono (by decide)) _ (by split <;> decide) (by split <;> decide) _ (B5.mono (by omega)) (f4.trans f5)
  · rintro i d acc κ' L hd hL ⟨cs, rfl, hl, h1, e3, B3, f3⟩
    obtain ⟨hi, rfl⟩ := rangeD_get hd
    refine ⟨trivial, ?_⟩
    rw [bi_inl]
    simp only [dwipe, List.set_cons_zero, List.set_cons_succ]
    (repeat walk_at "st")
    refine take_spec B3 (by omega) (by decide) (by decide) fun q κ5 q0 q1 B6 f6 => ?_
    refine f_ixS tsm (by decide) q0 (by omega) fun c tc => ?_
    refine ⟨f6 _ _ hne e3, by rw [List.length_map]; unfold sizeLine; omega, hL _ _ ⟨cs ++ [⟨#[c]⟩], by rw [List.map_append]; rfl, by rw [List.length_append, hl]; rfl, ?_, kset_same, (B6.mono (by omega)).set hne, (f3.trans f6).put hn⟩⟩
    intro y hy
    rcases List.mem_append.mp hy with hy | hy
    · exact h1 y hy
    · rw [List.mem_singleton.mp hy]
      exact tc



theorem mul_cps (c : Nat) : ∀ (k : Nat) (a : Array Nat), ((List.replicate k (#[c] : Array Nat)).foldl (· ++ ·) a).toList = a.toList ++ List.replicate k c
  | 0, a => by simp
  | k + 1, a => by
    rw [List.replicate_succ, List.foldl_cons, mul_cps c k, Array.toList_append, List.replicate_succ]
    simp
theorem s_7 : Str.ofString "7" = ⟨#[55]⟩ := one_cps (by decide +kernel)
theorem sev : (Txt.mul (Str.ofString "7") 5000).cps.toList = List.replicate 5000 55 := by
  rw [s_7]
  unfold Txt.mul
  rw [if_neg (by decide), if_neg (by decide)]
  show ((List.replicate 5000 (#[55] : Array Nat)).foldl (· ++ ·) #[]).toList = _
  rw [mul_cps]
  rfl
theorem sev_ok : MulOk (Str.ofString "7") 5000 := by
  rw [s_7]
  refine ⟨by decide, fun _ _ => by decide, fun _ _ => by decide⟩
theorem sev_tx : Tx 5000 (Txt.mul (Str.ofString "7") 5000) := by
  have hl : (Txt.mul (Str.ofString "7") 5000).cps.toList.length = (Txt.mul (Str.ofString "7") 5000).length := Array.length_toList
  refine ⟨?_, fun c hc => ?_⟩
  · rw [← hl, sev, List.length_replicate]
    exact Nat.le_refl _
  · rw [sev] at hc
    rw [List.eq_of_mem_replicate hc]
    decide
theorem f_muls {a : Str} {n : Int} {κ : Kap} {Q : DQ} (ok : MulOk a n) (h : Q (.str (Txt.mul a n)) κ) : fMulS (.str a) (.int n) κ Q := ⟨ok, h⟩
theorem sev_free : 47 ∉ List.replicate 5000 55 := fun z => by
  have := List.eq_of_mem_replicate z
  omega
theorem sev_pl : pl (List.replicate 5000 55) = none := by
  unfold pl
  rw [if_neg fun z => by
    have := z.2.1
    rw [List.length_replicate] at this
    omega]
theorem sev_res0 : res (List.replicate 5000 55) = none := by
  have e : ngt (List.replicate 5000 55) = false := rfl
  unfold res body
  rw [e, if_neg (by decide), spl_free sev_free]
  show (pl (List.replicate 5000 55)).map (fun t => (sgn false t, 1)) = none
  rw [sev_pl]
  rfl
theorem sev_res1 : res (45 :: List.replicate 5000 55) = none := by
  have e : ngt (45 :: List.replicate 5000 55) = true := rfl
  unfold res body
  rw [e, if_pos rfl]
  show rd true (spl (List.replicate 5000 55)) = none
  rw [spl_free sev_free]
  show (pl (List.replicate 5000 55)).map (fun t => (sgn true t, 1)) = none
  rw [sev_pl]
  rfl
theorem sev_res2 : res ([49] ++ 47 :: List.replicate 5000 55) = none := by
  have e : ngt ([49] ++ 47 :: List.replicate 5000 55) = false := rfl
  unfold res body
  rw [e, if_neg (by decide), spl_app _ (by decide), spl_free sev_free]
  show (match pl [49], pl (List.replicate 5000 55) with | some t, some d => if d = 0 then none else some (sgn false t, d) | _, _ => none) = none
  rw [sev_pl]
  rfl
theorem ix_s2 {s1 s2 : Str} {c : Prop} [Decidable c] {κ : Kap} {Q : DQ} (h : Q (.str (if c then s2 else s1)) κ) : fIx (.node .lst [.str s1, .str s2]) (.int (if decide c = true then 1 else 0)) κ Q := by
  by_cases hc : c
  · rw [if_pos hc] at h
    rw [if_pos (decide_eq_true hc)]
    (repeat walk_at "st")
    exact h
  · rw [if_neg hc] at h
    rw [if_neg (by rw [decide_eq_false hc]; decide)]
    (repeat walk_at "st")
    exact h
/-! texts as they are drawn -/
set_option hygiene false in
local macro_rules | `(tactic| walk_at "wr_rest") => `(tactic| (
  refine take_spec B6 (by omega) (by omega) (by omega) fun a4 κ7 p0 p1 B7 f7 => ?_
  (repeat walk_at "st")
  refine take_spec B7 (by omega) (by decide) (by decide) fun a5 κ8 c2 c3 B8 f8 => ?_
  refine ix_mem c2 c3 fun d3 hd3 => ?_
  have e3 : ∃ u : Int, d3 = .int u := by
    simp only [List.mem_cons, List.not_mem_nil, or_false] at hd3
    rcases hd3 with rfl | rfl | rfl <;> exact ⟨_, rfl⟩
  obtain ⟨u, rfl⟩ := e3
  clear hd3 c2 c3
  (repeat walk_at "st")
  refine signs_spec fun sg hsg tsg => ?_
  (repeat walk_at "st")
  refine take_spec B8 (by omega) (by decide) (by decide) fun a6 κ9 q0 q1 B9 f9 => ?_
  refine f_ixS tsg (by decide) q0 (by omega) fun c tc => ?_
  (repeat walk_at "st")
  refine take_spec B9 (by omega) (by decide) (by decide) fun a7 κ10 c4 c5 B10 f10 => ?_
  refine ix_mem c4 c5 fun d4 hd4 => ?_
  have e4 : ∃ y : Str, d4 = .str y ∧ Tx 1 y := by
    simp only [List.mem_cons, List.not_mem_nil, or_false] at hd4
    rcases hd4 with rfl | rfl | rfl | rfl
    · exact ⟨_, rfl, tc⟩
    · exact ⟨_, rfl, Tx.of _ (by decide +kernel)⟩
    · exact ⟨_, rfl, Tx.of _ (by decide +kernel)⟩
    · exact ⟨_, rfl, Tx.of _ (by decide +kernel)⟩
  obtain ⟨y, rfl, ty⟩ := e4
  clear hd4 c4 c5 tsg hsg
  have z : ∀ x : Str, Tx 300 x → Q (.str x) κ10 := fun x hx => h x κ10 hx (B10.mono (by omega)) (f6.trans (f7.trans (f8.trans (f9.trans f10))))
  (repeat walk_at "st")
  refine i_d (fun e1 => ?_) fun e1 => ?_
  · (repeat walk_at "st")
    exact z _ (by apply Tx.mono; assumption; decide)
  (repeat walk_at "st")
  refine i_d (fun e1 => ?_) fun e1 => ?_
  · (repeat walk_at "st")
    exact z _ (by apply Tx.mono; assumption; decide)
  (repeat walk_at "st")
  refine i_d (fun e1 => ?_) fun e1 => ?_
  · (repeat walk_at "st")
    exact z _ (by apply Tx.mono; assumption; decide)
  (repeat walk_at "st")
  exact z _ (by apply Tx.mono; assumption; decide)))
theorem written_spec {b m : Nat} {κ : Kap} {X : Str → List D → Kap → Prop} {Q : DQ} (hB : Bx b m κ) (hm : m ≤ 2 ^ 38)
    (h : ∀ x κ', Tx 300 x → Bx b (m + 200) κ' → Fr b κ κ' → Q (.str x) κ') : sp__law_written [.cell b] κ X Q := by
  (unfold sp__law_written; refine s_sp rfl ?_; simp only [startD, List.map_cons, List.map_nil, List.length_cons, List.length_nil, Nat.zero_add, Nat.reduceAdd, Nat.reduceSub, List.replicate, List.cons_append, List.nil_append]; unfold b__law_written)
  (repeat walk_at "st")
  refine take_spec hB (by omega) (by decide) (by decide) fun a1 κ1 _ _ B1 f1 => ?_
  (repeat walk_at "st")
  refine take_spec B1 (by omega) (by decide) (by decide) fun a2 κ2 c0 c1 B2 f2 => ?_
  refine ix_mem c0 c1 fun d1 hd1 => ?_
  have e1 : ∃ y : Str, d1 = .str y ∧ Tx 1 y := by
    simp only [List.mem_cons, List.not_mem_nil, or_false] at hd1
    rcases hd1 with rfl | rfl | rfl
    · exact ⟨_, rfl, Tx.of _ (by decide +kernel)⟩
    · exact ⟨_, rfl, Tx.of _ (by decide +kernel)⟩
    · exact ⟨_, rfl, Tx.of _ (by decide +kernel)⟩
  obtain ⟨y1, rfl, ty1⟩ := e1
  clear hd1 c0 c1
  (repeat walk_at "st")
  refine figures_spec B2 (by omega) fun y2 κ3 ty2 B3 f3 => ?_
  (repeat walk_at "st")
  have ty3 := ty1.app ty2
  generalize y1 ++ y2 = y3 at ty3
  (repeat walk_at "st")
  refine take_spec B3 (by omega) (by decide) (by decide) fun a3 κ4 _ _ B4 f4 => ?_
  (repeat walk_at "st")
  have fa := f1.trans (f2.trans (f3.trans f4))
  refine i_d (fun e2 => ?_) fun e2 => ?_
  · have tb : Tx 1 (Str.ofString "/") := Tx.of _ (by decide +kernel)
    (repeat walk_at "st")
    refine figures_spec B4 (by omega) fun y4 κ6 ty4 B6 f5 => ?_
    (repeat walk_at "st")
    have tt := (ty3.app tb).app ty4
    generalize y3 ++ Str.ofString "/" ++ y4 = T at tt
    have tt : Tx 128 T := tt.mono (by decide)
    have hT := tt.1
    have f6 := fa.trans f5
    clear ty3 ty4 tb
    (repeat walk_at "st")
    walk_at "wr_rest"
  · have tt : Tx 128 y3 := ty3.mono (by decide)
    have hT := tt.1
    have f6 := fa
    have B6 := B4.mono (m' := m + 150) (by omega)
    clear ty3
    (repeat walk_at "st")
    walk_at "wr_rest"



theorem text_is (q : Rat) : (((if q.num < 0 then Str.ofString "-" else Str.ofString "") ++ Str.ofString (toString (if q.num < 0 then -q.num else q.num))) ++ (if (q.den : Int) > 1 then Str.ofString "/" ++ Str.ofString (toString (q.den : Int)) else Str.ofString "")).cps.toList = ntx q.num q.den := by
  have e0 : (Str.ofString "").cps.toList = [] := by decide +kernel
  have e1 : (Str.ofString "-").cps.toList = [45] := by decide +kernel
  have e2 : (Str.ofString "/").cps.toList = [47] := by decide +kernel
  have d1 := q.den_pos
  have ea : (Str.ofString (toString (if q.num < 0 then -q.num else q.num))).cps.toList = dgs q.num.natAbs := by
    rw [str_int, if_neg (by split <;> omega)]
    show dgs _ = dgs _
    congr 1
    split <;> omega
  have eb : (Str.ofString (toString (q.den : Int))).cps.toList = dgs q.den := by
    rw [str_int, if_neg (by omega)]
    rfl
  rw [app_cps, app_cps, ea]
  unfold ntx
  congr 1
  · congr 1
    split
    · exact e1
    · exact e0
  · by_cases h : q.den = 1
    · rw [if_neg (by omega), if_pos h]
      exact e0
    · rw [if_pos (by omega), if_neg h, app_cps, e2, eb]
      rfl
section
variable {κ : Kap} {X : Str → List D → Kap → Prop} {Q : DQ}
theorem number_back {q : Rat} {x : Str} {n : Nat} (hq : Dz q) (e : x.cps.toList = ntx q.num q.den) (tx : Tx n x) (hn : n ≤ 16777000) (h : ∀ κ', Fa κ κ' → Q (nq q) κ') : sp_number_of [.str x] κ X Q :=
  number_of_spec tx hn fun κ' f => by
    rw [e, res_ntx hq.1 hq.2 (by have := q.den_pos; omega)]
    show Q (nq (Rat.divInt q.num q.den)) κ'
    rw [Rat.num_divInt_den]
    exact h κ' f
theorem bx_fa {b m : Nat} {κ κ' : Kap} (h : Bx b m κ) (f : Fa κ κ') : Bx b m κ' := let ⟨x, y, z, h1, h2⟩ := h; ⟨x, y, z, f _ _ h1, h2⟩
theorem inv_num {s : Int} (h : 0 < s) : (1 / (s : Rat)).num = 1 ∧ ((1 / (s : Rat)).den : Int) = s := by
  have e : (1 : Rat) / (s : Rat) = Rat.divInt 1 s := (divInt_q 1 s).symm
  rw [e]
  constructor
  · rw [Rat.num_divInt, Int.sign_eq_one_of_pos h, Int.gcd_one]
    rfl
  · rw [Rat.den_divInt, if_neg (by omega), Int.gcd_one]
    omega
/-- what may be asked -/
def As (d : D) : Prop := (∃ x, d = .str x ∧ Tx 100000 x) ∨ ∀ κ, ∃ t, tyK d κ = some t ∧ kt t (.b "str") = some false
theorem right_as {d : D} (hd : As d) (h : ∀ κ', Fa κ κ' → Q (.bl true) κ') : sp__law_right [d] κ X Q := by
  rcases hd with ⟨x, rfl, tx⟩ | hd
  · exact right_str tx (by decide) h
  · exact right_no hd (h _ Fa.refl)
end
theorem ne_nn {κ : Kap} {Q : DQ} (q : Q (.bl false) κ) : fNe (.node .lst []) (.node .lst []) κ Q :=
  ne_dat (p := .list []) (q := .list []) rfl rfl ((Sp.list (k := 0) (ps := []) fun p hp => absurd hp List.not_mem_nil).shaped (by decide)) ((Sp.list (k := 0) (ps := []) fun p hp => absurd hp List.not_mem_nil).shaped (by decide)) q
theorem as_str {s : String} (h : (Str.ofString s).length ≤ 100000) : As (.str (Str.ofString s)) := .inl ⟨_, rfl, Tx.of _ h⟩
/-- the odd ones -/
def odds : List D := [.non, .int 3, .bl true, .node .tup [.int 1, .int 2], .node .lst [.str "1"], .node .tup [.str "1"], .node (.dct []) [], .str "", .str "/", .str "-", .str "1/", .str "/2", .str "--1", .str "1/-2", .str "+1", .str "1_0", .node (.exc "NoText" ["found"]) [.str "1"]]
theorem odds_as : ∀ d ∈ odds, As d := by
  intro d hd
  simp only [odds, List.mem_cons, List.not_mem_nil, or_false] at hd
  rcases hd with rfl | rfl | rfl | rfl | rfl | rfl | rfl | rfl | rfl | rfl | rfl | rfl | rfl | rfl | rfl | rfl | rfl
  · exact .inr fun _ => ⟨_, rfl, by decide +kernel⟩
  · exact .inr fun _ => ⟨_, rfl, by decide +kernel⟩
  · exact .inr fun _ => ⟨_, rfl, by decide +kernel⟩
  · exact .inr fun _ => ⟨_, rfl, by decide +kernel⟩
  · exact .inr fun _ => ⟨_, rfl, by decide +kernel⟩
  · exact .inr fun _ => ⟨_, rfl, by decide +kernel⟩
  · exact .inr fun _ => ⟨_, rfl, by decide +kernel⟩
  · exact as_str (by decide +kernel)
  · exact as_str (by decide +kernel)
  · exact as_str (by decide +kernel)
  · exact as_str (by decide +kernel)
  · exact as_str (by decide +kernel)
  · exact as_str (by decide +kernel)
  · exact as_str (by decide +kernel)
  · exact as_str (by decide +kernel)
  · exact as_str (by decide +kernel)
  · exact .inr fun _ => ⟨_, rfl, by decide +kernel⟩
set_option hygiene false in
local macro_rules | `(tactic| walk_at "law_end") => `(tactic| (
  refine take_spec Bz (by omega) (by decide) (by decide) fun t9 κ9 z0 z1 Bq fq => ?_
  refine ix_memC (fq _ _ hob eo) z0 z1 fun d hd => ?_
  refine right_as (odds_as d hd) fun κ10 f10 => ?_
  (repeat walk_at "st")
  exact hL _ _ ⟨_, _, _, _, _, _, _, _, _, _, rfl⟩))
theorem law_true : ∀ ns : List Int, ns.length ≤ 63 → sp_law [.node .klst (ns.map D.int)] (fun _ => none) (fun _ _ _ => False) (fun d _ => d = .bl true) := by
  intro ns hns
  generalize (fun _ => none : Kap) = κ0
  (unfold sp_law; refine s_sp rfl ?_; simp only [startD, List.map_cons, List.map_nil, List.length_cons, List.length_nil, Nat.zero_add, Nat.reduceAdd, Nat.reduceSub, List.replicate, List.cons_append, List.nil_append]; unfold b_law)
  (repeat walk_at "st")
  rw [List.length_map]
  have hr : ∃ r : Nat, (if (if (ns.length : Int) < 10 then (ns.length : Int) else 10) > 2 then (if (ns.length : Int) < 10 then (ns.length : Int) else 10) else 2) = (r : Int) ∧ r ≤ 10 := by
    refine ⟨(if (if (ns.length : Int) < 10 then (ns.length : Int) else 10) > 2 then (if (ns.length : Int) < 10 then (ns.length : Int) else 10) else 2).toNat, ?_, ?_⟩
    · split <;> split <;> omega
    · split <;> split <;> omega
  obtain ⟨r, er, hr⟩ := hr
  rw [er]
  (repeat walk_at "st")
  refine dl_ix (fun i δ κ' => ∃ a1 a2 a3 a4 a5 a6 a7 a8 a9 a10, δ = [some (.node .klst (ns.map D.int)), a1, a2, a3, a4, a5, a6, a7, a8, a9, a10]) ?_ ?_ ⟨_, _, _, _, _, _, _, _, _, _, rfl⟩
  · rintro δ κ ⟨a1, a2, a3, a4, a5, a6, a7, a8, a9, a10, rfl⟩
    refine ⟨trivial, ?_⟩
    (repeat walk_at "st")
    rfl
  · rintro i d δ κ L hd hL ⟨a1, a2, a3, a4, a5, a6, a7, a8, a9, a10, rfl⟩
    obtain ⟨hi, rfl⟩ := rangeD_get hd
    refine ⟨trivial, ?_⟩
    (repeat walk_at "st")
    rw [Int.zero_add]
    refine cell_spec (by omega) fun c => ?_
    (repeat walk_at "st")
    refine box_spec fun b κ1 hb B0 f0 => ?_
    (repeat walk_at "st")
    refine drawn_q B0 (by omega) fun q κ2 nq2 B1 f1 => ?_
    have nsz := nq2.sz
    have hl1 : (if q.num < 0 then -q.num else q.num).natAbs.log2 < 1920 := Nat.lt_of_le_of_lt (log_lt (k := 200) (by have := nsz.1; split <;> omega)) (by decide)
    have hl2 : ((q.den : Int)).natAbs.log2 < 1920 := Nat.lt_of_le_of_lt (log_lt (k := 200) nsz.db) (by decide)
    have tl1 := Tx.num hl1
    have tl2 := Tx.num hl2
    (repeat walk_at "st")
    refine lpair_q ?_
    (repeat walk_at "st")
    refine ix_s2 ?_
    have tS1 : Tx 1 (if q.num < 0 then Str.ofString "-" else Str.ofString "") := by split <;> exact Tx.of _ (by decide +kernel)
    have tsl : Tx 1 (Str.ofString "/") := Tx.of _ (by decide +kernel)
    have tS2 : Tx 1922 (if (q.den : Int) > 1 then Str.ofString "/" ++ Str.ofString (toString (q.den : Int)) else Str.ofString "") := by
      split
      · exact (tsl.app tl2).mono (by decide)
      · exact (Tx.of (n := 1) _ (by decide +kernel)).mono (by decide)
    have eS := text_is q
    have tS := ((tS1.app tl1).app tS2)
    (repeat walk_at "st")
    refine ix_s2 ?_
    (repeat walk_at "st")
    generalize (if q.num < 0 then Str.ofString "-" else Str.ofString "") ++ Str.ofString (toString (if q.num < 0 then -q.num else q.num)) ++ (if (q.den : Int) > 1 then Str.ofString "/" ++ Str.ofString (toString (q.den : Int)) else Str.ofString "") = S at eS tS
    have tS : Tx 4000 S := tS.mono (by decide)
    clear tS1 tS2 tl1 tl2 hl1 hl2
    (repeat walk_at "st")
    refine number_text_spec nsz (by decide) fun z ez tz => ?_
    obtain rfl : z = S := str_ext (ez.trans eS.symm)
    (repeat walk_at "st")
    refine f_neS tS.shaped tS.shaped ?_
    rw [beq_self_eq_true]
    (repeat walk_at "st")
    refine number_back nq2 eS tS (by decide) fun κ3 g3 => ?_
    have B2 := bx_fa B1 g3
    (repeat walk_at "st")
    refine is_q rfl ?_
    (repeat walk_at "st")
    refine written_spec B2 (by omega) fun w1 κ4 tw1 B3 f3 => ?_
    (repeat walk_at "st")
    refine written_spec B3 (by omega) fun w2 κ5 tw2 B4 f4 => ?_
    have tnl : Tx 1 (Str.ofString "\n") := Tx.of _ (by decide +kernel)
    have t1 : Tx 2 (Str.ofString "/1") := Tx.of _ (by decide +kernel)
    (repeat walk_at "st")
    have hall : ∀ d ∈ [D.str w1, .str w2, .str (Str.ofString "-0"), .str (z ++ Str.ofString "\n"), .str (z ++ Str.ofString "/1")], As d := by
      intro d hd
      simp only [List.mem_cons, List.not_mem_nil, or_false] at hd
      rcases hd with rfl | rfl | rfl | rfl | rfl
      · exact .inl ⟨_, rfl, tw1.mono (by decide)⟩
      · exact .inl ⟨_, rfl, tw2.mono (by decide)⟩
      · exact as_str (by decide +kernel)
      · exact .inl ⟨_, rfl, (tS.app tnl).mono (by decide)⟩
      · exact .inl ⟨_, rfl, (tS.app t1).mono (by decide)⟩
    refine dl_ix (fun j δ κ' => (∃ a7 a8 a9 a10, δ = [some (.node .klst (ns.map D.int)), some (.int i), some (.cell b), some (nq q), some (.int q.num), some (.int q.den), some (.str z), a7, a8, a9, a10]) ∧ Bx b (0 + 60 + 200 + 200) κ') ?_ ?_ ⟨⟨_, _, _, _, rfl⟩, B4⟩
    rotate_left
    · rintro j d δ κ6 Lb hd2 hL2 ⟨⟨a7, a8, a9, a10, rfl⟩, B5⟩
      refine ⟨trivial, ?_⟩
      (repeat walk_at "st")
      refine right_as (hall d (List.mem_of_getElem? hd2)) fun κ7 f7 => ?_
      (repeat walk_at "st")
      exact hL2 _ _ ⟨⟨_, _, _, _, rfl⟩, bx_fa B5 f7⟩
    · rintro δ κ6 ⟨⟨a7, a8, a9, a10, rfl⟩, B5⟩
      refine ⟨trivial, ?_⟩
      clear hall tw1 tw2 B0 B1 B2 B3 B4 f0 f1 f3 f4 g3
      (repeat walk_at "st")
      refine e_nwt fun o ho => ?_
      have hob : o ≠ b := B5.ne ho
      have B6 := (B5.set (c := .live .lst (odds.take 16)) hob).set (n := o) (c := .live .lst odds) hob
      have eo : kset (kset κ6 o (.live .lst (odds.take 16))) o (.live .lst odds) o = some (.live .lst odds) := kset_same
      (repeat walk_at "st")
      refine ⟨⟨_, vw_cell kset_same⟩, ?_⟩
      (repeat walk_at "st")
      refine e_mk ?_
      (repeat walk_at "st")
      refine ⟨rfl, by decide, ?_⟩
      (repeat walk_at "st")
      refine f_app kset_same (by decide) ?_
      obtain ⟨K, eK⟩ : ∃ K, K = kset (kset κ6 o (.live .lst (odds.take 16))) o (.live .lst odds) := ⟨_, rfl⟩
      rw [← eK] at B6 eo
      show sSeq _ _ _ (kset (kset κ6 o (.live .lst (odds.take 16))) o (.live .lst odds)) _ _
      rw [← eK]
      clear eK B5 ho
      (repeat walk_at "st")
      refine i_d (fun e0 => ?_) fun e0 => ?_
      · (repeat walk_at "st")
        refine take_spec B6 (by omega) (by decide) (by decide) fun t κ7 t0 t1 B7 f7 => ?_
        have eo7 := f7 _ _ hob eo
        (repeat walk_at "st")
        rw [show (10 : Int) ^ Int.toNat 59 = 10 ^ 59 from rfl]
        have t1 : t < 10 ^ 9 := t1
        have F0 : 1 < (10 : Int) ^ 59 + t := by omega
        have F1 : ((10 : Int) ^ 59 + t).natAbs < 2 ^ 200 := by omega
        generalize (10 : Int) ^ 59 + t = F at F0 F1
        have sF : Sz 200 (F : Rat) := .int F1 (by decide)
        have hFF := mul_bd F1 F1
        have sFF : Sz 400 ((F * F : Int) : Rat) := .int hFF (by decide)
        have P2 : 2 * 2 ≤ F * F := Int.mul_le_mul (by omega) (by omega) (by decide) (by omega)
        have P0 : 0 < F * F := by omega
        have P1 : F * F ≠ 1 := by omega
        have lF : (F * F).natAbs.log2 < 1920 := Nat.lt_of_le_of_lt (log_lt hFF) (by decide)
        have eFF : (F : Rat) * (F : Rat) = ((F * F : Int) : Rat) := (Rat.intCast_mul F F).symm
        refine times_q (p := (F : Rat)) (q := (F : Rat)) sF sF (by decide) ?_
        rw [eFF, nq_int]
        (repeat walk_at "st")
        refine f_mul (cmul_of 200 200 F1 F1 (by decide)) ?_
        clear P2
        generalize F * F = P at hFF sFF P0 lF P1
        have tP := Tx.num lF
        (repeat walk_at "st")
        refine number_text_spec (q := (P : Rat)) sFF (by decide) fun y ey ty => ?_
        have ey2 : y.cps.toList = dgs P.natAbs := by
          rw [ey]
          show ntx P 1 = _
          unfold ntx
          rw [if_neg (by omega), if_pos rfl]
          simp
        have eT : (Str.ofString (toString P)).cps.toList = dgs P.natAbs := by
          rw [str_int, if_neg (by omega)]
          rfl
        obtain rfl : y = Str.ofString (toString P) := str_ext (ey2.trans eT.symm)
        (repeat walk_at "st")
        refine f_neS tP.shaped tP.shaped ?_
        rw [beq_self_eq_true]
        (repeat walk_at "st")
        refine over_q (p := ((1 : Int) : Rat)) (q := (P : Rat)) (k := 1) (.int (by decide) (by decide)) sFF (fun z => by
          have : P = 0 := by exact_mod_cast z
          omega) (by decide) ?_
        rw [show ((1 : Int) : Rat) = 1 from rfl]
        have sI : Sz 401 (1 / (P : Rat)) := Sz.div (p := ((1 : Int) : Rat)) (k := 1) (.int (by decide) (by decide)) sFF (fun z => by
          have : P = 0 := by exact_mod_cast z
          omega)
        obtain ⟨i1, i2⟩ := inv_num P0
        refine number_text_spec sI (by decide) fun y ey ty => ?_
        rw [i1] at ey
        (repeat walk_at "st")
        have tb1 : Tx 2 (Str.ofString "1/") := Tx.of _ (by decide +kernel)
        have e1b : (Str.ofString "1/").cps.toList = [49, 47] := by decide +kernel
        obtain rfl : y = Str.ofString "1/" ++ Str.ofString (toString P) := str_ext (by
          rw [ey, app_cps, eT, e1b]
          have : (1 / (P : Rat)).den = P.natAbs := by omega
          rw [this]
          unfold ntx
          rw [if_neg (by decide), if_neg (by omega)]
          rfl)
        have tc := tb1.app tP
        (repeat walk_at "st")
        refine f_neS tc.shaped tc.shaped ?_
        rw [beq_self_eq_true]
        (repeat walk_at "st")
        intro n hn
        refine lcLoop_ix (fun j acc κ' => acc = [] ∧ κ' n = some (.live .lst acc) ∧ Fa κ7 κ') ?_ ?_ ⟨rfl, kset_same, Fa.new hn⟩
        · rintro acc κ8 ⟨rfl, e8, f8⟩
          refine ⟨trivial, e8, ?_⟩
          have f9 := f8.put (c := .dead) hn
          have eo := f9 _ _ eo7
          have Bz := bx_fa B7 f9
          generalize kset κ8 n .dead = κ8 at f9 eo Bz
          (repeat walk_at "st")
          refine ne_nn ?_
          (repeat walk_at "st")
          walk_at "law_end"
        · rintro j d acc κ8 Lb hd2 hL2 ⟨rfl, e8, f8⟩
          have hth : ∃ w : Str, d = .str w ∧ Tx 2 w ∧ res ((w ++ Txt.mul (Str.ofString "7") 5000).cps.toList) = none := by
            have := List.mem_of_getElem? hd2
            simp only [List.mem_cons, List.not_mem_nil, or_false] at this
            rcases this with rfl | rfl | rfl
            · refine ⟨_, rfl, Tx.of _ (by decide +kernel), ?_⟩
              rw [app_cps, sev, show (Str.ofString "").cps.toList = [] by decide +kernel]
              exact sev_res0
            · refine ⟨_, rfl, Tx.of _ (by decide +kernel), ?_⟩
              rw [app_cps, sev, show (Str.ofString "-").cps.toList = [45] by decide +kernel]
              exact sev_res1
            · refine ⟨_, rfl, Tx.of _ (by decide +kernel), ?_⟩
              rw [app_cps, sev, e1b]
              exact sev_res2
          obtain ⟨w, rfl, tw, hres⟩ := hth
          refine ⟨trivial, ?_⟩
          rw [bi_inl]
          simp only [dwipe, List.set_cons_zero, List.set_cons_succ]
          (repeat walk_at "st")
          refine f_muls sev_ok ?_
          refine f_adT tw sev_tx (by decide) fun tx => ?_
          (repeat walk_at "st")
          refine number_of_spec tx (by decide) fun κ9 f9 => ?_
          rw [hres]
          (repeat walk_at "st")
          refine isnt_non (b := true) rfl ?_
          (repeat walk_at "st")
          exact hL2 _ _ ⟨rfl, f9 _ _ e8, f8.trans f9⟩
      · have Bz := B6
        (repeat walk_at "st")
        walk_at "law_end"

end L_k04
namespace L_k04
open PySem PySem.Spec PyProof.Rows L2 DL
/-! what the top has left -/
theorem all_mk {l : PySem.W.OpenLaw} {w : World} {K : PySem.W.Frag} {h : Heap} {mg : Str → Option Value} {fa : Addr} {f_is_plain : Addr} {od_is_plain an_is_plain : Option Addr} {sl_is_plain : Array (Option Value)} {oc_is_plain kV_is_plain dc_is_plain pm_is_plain cd_is_plain ct_is_plain : Value} {f_common_part : Addr} {od_common_part an_common_part : Option Addr} {sl_common_part : Array (Option Value)} {oc_common_part kV_common_part dc_common_part pm_common_part cd_common_part ct_common_part : Value} {f_is_part : Addr} {od_is_part an_is_part : Option Addr} {sl_is_part : Array (Option Value)} {oc_is_part kV_is_part dc_is_part pm_is_part cd_is_part ct_is_part : Value} {f_reckoned : Addr} {od_reckoned an_reckoned : Option Addr} {sl_reckoned : Array (Option Value)} {oc_reckoned kV_reckoned dc_reckoned pm_reckoned cd_reckoned ct_reckoned : Value} {f_pair_of : Addr} {od_pair_of an_pair_of : Option Addr} {sl_pair_of : Array (Option Value)} {oc_pair_of kV_pair_of dc_pair_of pm_pair_of cd_pair_of ct_pair_of : Value} {f_times : Addr} {od_times an_times : Option Addr} {sl_times : Array (Option Value)} {oc_times kV_times dc_times pm_times cd_times ct_times : Value} {f_over : Addr} {od_over an_over : Option Addr} {sl_over : Array (Option Value)} {oc_over kV_over dc_over pm_over cd_over ct_over : Value} {f_number_text : Addr} {od_number_text an_number_text : Option Addr} {sl_number_text : Array (Option Value)} {oc_number_text kV_number_text dc_number_text pm_number_text cd_number_text ct_number_text : Value} {f_figures_of : Addr} {od_figures_of an_figures_of : Option Addr} {sl_figures_of : Array (Option Value)} {oc_figures_of kV_figures_of dc_figures_of pm_figures_of cd_figures_of ct_figures_of : Value} {f_number_of : Addr} {od_number_of an_number_of : Option Addr} {sl_number_of : Array (Option Value)} {oc_number_of kV_number_of dc_number_of pm_number_of cd_number_of ct_number_of : Value} {f__law_cell : Addr} {od__law_cell an__law_cell : Option Addr} {sl__law_cell : Array (Option Value)} {oc__law_cell kV__law_cell dc__law_cell pm__law_cell cd__law_cell ct__law_cell : Value} {f__law_box : Addr} {od__law_box an__law_box : Option Addr} {sl__law_box : Array (Option Value)} {oc__law_box kV__law_box dc__law_box pm__law_box cd__law_box ct__law_box : Value} {f__law_take : Addr} {od__law_take an__law_take : Option Addr} {sl__law_take : Array (Option Value)} {oc__law_take kV__law_take dc__law_take pm__law_take cd__law_take ct__law_take : Value} {f__law_far : Addr} {od__law_far an__law_far : Option Addr} {sl__law_far : Array (Option Value)} {oc__law_far kV__law_far dc__law_far pm__law_far cd__law_far ct__law_far : Value} {f__law_number : Addr} {od__law_number an__law_number : Option Addr} {sl__law_number : Array (Option Value)} {oc__law_number kV__law_number dc__law_number pm__law_number cd__law_number ct__law_number : Value} {f__law_pair : Addr} {od__law_pair an__law_pair : Option Addr} {sl__law_pair : Array (Option Value)} {oc__law_pair kV__law_pair dc__law_pair pm__law_pair cd__law_pair ct__law_pair : Value} {f__law_is : Addr} {od__law_is an__law_is : Option Addr} {sl__law_is : Array (Option Value)} {oc__law_is kV__law_is dc__law_is pm__law_is cd__law_is ct__law_is : Value} {f__law_drawn : Addr} {od__law_drawn an__law_drawn : Option Addr} {sl__law_drawn : Array (Option Value)} {oc__law_drawn kV__law_drawn dc__law_drawn pm__law_drawn cd__law_drawn ct__law_drawn : Value} {f__law_signs : Addr} {od__law_signs an__law_signs : Option Addr} {sl__law_signs : Array (Option Value)} {oc__law_signs kV__law_signs dc__law_signs pm__law_signs cd__law_signs ct__law_signs : Value} {f__law_figures : Addr} {od__law_figures an__law_figures : Option Addr} {sl__law_figures : Array (Option Value)} {oc__law_figures kV__law_figures dc__law_figures pm__law_figures cd__law_figures ct__law_figures : Value} {f__law_written : Addr} {od__law_written an__law_written : Option Addr} {sl__law_written : Array (Option Value)} {oc__law_written kV__law_written dc__law_written pm__law_written cd__law_written ct__law_written : Value} {f__law_plainly : Addr} {od__law_plainly an__law_plainly : Option Addr} {sl__law_plainly : Array (Option Value)} {oc__law_plainly kV__law_plainly dc__law_plainly pm__law_plainly cd__law_plainly ct__law_plainly : Value} {f__law_due : Addr} {od__law_due an__law_due : Option Addr} {sl__law_due : Array (Option Value)} {oc__law_due kV__law_due dc__law_due pm__law_due cd__law_due ct__law_due : Value} {f__law_right : Addr} {od__law_right an__law_right : Option Addr} {sl__law_right : Array (Option Value)} {oc__law_right kV__law_right dc__law_right pm__law_right cd__law_right ct__law_right : Value} {f_law : Addr} {od_law an_law : Option Addr} {sl_law : Array (Option Value)} {oc_law kV_law dc_law pm_law cd_law ct_law : Value} {t_FIGURES : Tok} {t_MOST_FIGURES : Tok} {C_FontError : Addr} {C_NoNumber : Addr} {C_NoText : Addr} {nm_NoNumber q_NoNumber : Str} {N_NoNumber : Addr} {bs_NoNumber : List Value} {sn_NoNumber : List Str} {sub_NoNumber : List Value} {ab_NoNumber : Bool} {col_NoNumber : Option Bool} {dd_NoNumber : Option Addr} {x0_NoNumber x1_NoNumber x2_NoNumber x3_NoNumber x5_NoNumber : Option Value} {nm_NoText q_NoText : Str} {N_NoText : Addr} {bs_NoText : List Value} {sn_NoText : List Str} {sub_NoText : List Value} {ab_NoText : Bool} {col_NoText : Option Bool} {dd_NoText : Option Addr} {x0_NoText x1_NoText x2_NoText x3_NoText x5_NoText : Option Value} {I_NoNumber : Addr} {iod_NoNumber ian_NoNumber : Option Addr} {isl_NoNumber : Array (Option Value)} {ioc_NoNumber ikV_NoNumber idc_NoNumber ipm_NoNumber icd_NoNumber ict_NoNumber : Value} {I_NoText : Addr} {iod_NoText ian_NoText : Option Addr} {isl_NoText : Array (Option Value)} {ioc_NoText ikV_NoText idc_NoText ipm_NoText icd_NoText ict_NoText : Value} (X : K.In h) (G : h.Ns mainGlobals mg) (hfa : mg "law" = some (.ref fa))
    (a_is_plain : PySem.W.nsIn K mainGlobals "is_plain" = some (some (.ref f_is_plain)))
    (l_is_plain : K.lookup f_is_plain = some ⟨oc_is_plain, od_is_plain, .func (PySem.W.fnOf "is_plain" "is_plain" (defArgs s_is_plain) (defBody s_is_plain) (defScope s_is_plain) .none kV_is_plain dc_is_plain pm_is_plain an_is_plain cd_is_plain ct_is_plain), sl_is_plain⟩)
    (c_is_plain : PySem.W.codeIn K cd_is_plain "is_plain" = true)
    (k_is_plain : PySem.W.keepIn K (.ref f_is_plain) = true)
    (a_common_part : PySem.W.nsIn K mainGlobals "common_part" = some (some (.ref f_common_part)))
    (l_common_part : K.lookup f_common_part = some ⟨oc_common_part, od_common_part, .func (PySem.W.fnOf "common_part" "common_part" (defArgs s_common_part) (defBody s_common_part) (defScope s_common_part) .none kV_common_part dc_common_part pm_common_part an_common_part cd_common_part ct_common_part), sl_common_part⟩)
    (c_common_part : PySem.W.codeIn K cd_common_part "common_part" = true)
    (k_common_part : PySem.W.keepIn K (.ref f_common_part) = true)
    (a_is_part : PySem.W.nsIn K mainGlobals "is_part" = some (some (.ref f_is_part)))
    (l_is_part : K.lookup f_is_part = some ⟨oc_is_part, od_is_part, .func (PySem.W.fnOf "is_part" "is_part" (defArgs s_is_part) (defBody s_is_part) (defScope s_is_part) .none kV_is_part dc_is_part pm_is_part an_is_part cd_is_part ct_is_part), sl_is_part⟩)
    (c_is_part : PySem.W.codeIn K cd_is_part "is_part" = true)
    (k_is_part : PySem.W.keepIn K (.ref f_is_part) = true)
    (a_reckoned : PySem.W.nsIn K mainGlobals "reckoned" = some (some (.ref f_reckoned)))
    (l_reckoned : K.lookup f_reckoned = some ⟨oc_reckoned, od_reckoned, .func (PySem.W.fnOf "reckoned" "reckoned" (defArgs s_reckoned) (defBody s_reckoned) (defScope s_reckoned) .none kV_reckoned dc_reckoned pm_reckoned an_reckoned cd_reckoned ct_reckoned), sl_reckoned⟩)
    (c_reckoned : PySem.W.codeIn K cd_reckoned "reckoned" = true)
    (k_reckoned : PySem.W.keepIn K (.ref f_reckoned) = true)
    (a_pair_of : PySem.W.nsIn K mainGlobals "pair_of" = some (some (.ref f_pair_of)))
    (l_pair_of : K.lookup f_pair_of = some ⟨oc_pair_of, od_pair_of, .func (PySem.W.fnOf "pair_of" "pair_of" (defArgs s_pair_of) (defBody s_pair_of) (defScope s_pair_of) .none kV_pair_of dc_pair_of pm_pair_of an_pair_of cd_pair_of ct_pair_of), sl_pair_of⟩)
    (c_pair_of : PySem.W.codeIn K cd_pair_of "pair_of" = true)
    (k_pair_of : PySem.W.keepIn K (.ref f_pair_of) = true)
    (a_times : PySem.W.nsIn K mainGlobals "times" = some (some (.ref f_times)))
    (l_times : K.lookup f_times = some ⟨oc_times, od_times, .func (PySem.W.fnOf "times" "times" (defArgs s_times) (defBody s_times) (defScope s_times) .none kV_times dc_times pm_times an_times cd_times ct_times), sl_times⟩)
    (c_times : PySem.W.codeIn K cd_times "times" = true)
    (k_times : PySem.W.keepIn K (.ref f_times) = true)
    (a_over : PySem.W.nsIn K mainGlobals "over" = some (some (.ref f_over)))
    (l_over : K.lookup f_over = some ⟨oc_over, od_over, .func (PySem.W.fnOf "over" "over" (defArgs s_over) (defBody s_over) (defScope s_over) .none kV_over dc_over pm_over an_over cd_over ct_over), sl_over⟩)
    (c_over : PySem.W.codeIn K cd_over "over" = true)
    (k_over : PySem.W.keepIn K (.ref f_over) = true)
    (a_number_text : PySem.W.nsIn K mainGlobals "number_text" = some (some (.ref f_number_text)))
    (l_number_text : K.lookup f_number_text = some ⟨oc_number_text, od_number_text, .func (PySem.W.fnOf "number_text" "number_text" (defArgs s_number_text) (defBody s_number_text) (defScope s_number_text) .none kV_number_text dc_number_text pm_number_text an_number_text cd_number_text ct_number_text), sl_number_text⟩)
    (c_number_text : PySem.W.codeIn K cd_number_text "number_text" = true)
    (k_number_text : PySem.W.keepIn K (.ref f_number_text) = true)
    (a_figures_of : PySem.W.nsIn K mainGlobals "figures_of" = some (some (.ref f_figures_of)))
    (l_figures_of : K.lookup f_figures_of = some ⟨oc_figures_of, od_figures_of, .func (PySem.W.fnOf "figures_of" "figures_of" (defArgs s_figures_of) (defBody s_figures_of) (defScope s_figures_of) .none kV_figures_of dc_figures_of pm_figures_of an_figures_of cd_figures_of ct_figures_of), sl_figures_of⟩)
    (c_figures_of : PySem.W.codeIn K cd_figures_of "figures_of" = true)
    (k_figures_of : PySem.W.keepIn K (.ref f_figures_of) = true)
    (a_number_of : PySem.W.nsIn K mainGlobals "number_of" = some (some (.ref f_number_of)))
    (l_number_of : K.lookup f_number_of = some ⟨oc_number_of, od_number_of, .func (PySem.W.fnOf "number_of" "number_of" (defArgs s_number_of) (defBody s_number_of) (defScope s_number_of) .none kV_number_of dc_number_of pm_number_of an_number_of cd_number_of ct_number_of), sl_number_of⟩)
    (c_number_of : PySem.W.codeIn K cd_number_of "number_of" = true)
    (k_number_of : PySem.W.keepIn K (.ref f_number_of) = true)
    (a__law_cell : PySem.W.nsIn K mainGlobals "_law_cell" = some (some (.ref f__law_cell)))
    (l__law_cell : K.lookup f__law_cell = some ⟨oc__law_cell, od__law_cell, .func (PySem.W.fnOf "_law_cell" "_law_cell" (defArgs s__law_cell) (defBody s__law_cell) (defScope s__law_cell) .none kV__law_cell dc__law_cell pm__law_cell an__law_cell cd__law_cell ct__law_cell), sl__law_cell⟩)
    (c__law_cell : PySem.W.codeIn K cd__law_cell "_law_cell" = true)
    (k__law_cell : PySem.W.keepIn K (.ref f__law_cell) = true)
    (a__law_box : PySem.W.nsIn K mainGlobals "_law_box" = some (some (.ref f__law_box)))
    (l__law_box : K.lookup f__law_box = some ⟨oc__law_box, od__law_box, .func (PySem.W.fnOf "_law_box" "_law_box" (defArgs s__law_box) (defBody s__law_box) (defScope s__law_box) .none kV__law_box dc__law_box pm__law_box an__law_box cd__law_box ct__law_box), sl__law_box⟩)
    (c__law_box : PySem.W.codeIn K cd__law_box "_law_box" = true)
    (k__law_box : PySem.W.keepIn K (.ref f__law_box) = true)
    (a__law_take : PySem.W.nsIn K mainGlobals "_law_take" = some (some (.ref f__law_take)))
    (l__law_take : K.lookup f__law_take = some ⟨oc__law_take, od__law_take, .func (PySem.W.fnOf "_law_take" "_law_take" (defArgs s__law_take) (defBody s__law_take) (defScope s__law_take) .none kV__law_take dc__law_take pm__law_take an__law_take cd__law_take ct__law_take), sl__law_take⟩)
    (c__law_take : PySem.W.codeIn K cd__law_take "_law_take" = true)
    (k__law_take : PySem.W.keepIn K (.ref f__law_take) = true)
    (a__law_far : PySem.W.nsIn K mainGlobals "_law_far" = some (some (.ref f__law_far)))
    (l__law_far : K.lookup f__law_far = some ⟨oc__law_far, od__law_far, .func (PySem.W.fnOf "_law_far" "_law_far" (defArgs s__law_far) (defBody s__law_far) (defScope s__law_far) .none kV__law_far dc__law_far pm__law_far an__law_far cd__law_far ct__law_far), sl__law_far⟩)
    (c__law_far : PySem.W.codeIn K cd__law_far "_law_far" = true)
    (k__law_far : PySem.W.keepIn K (.ref f__law_far) = true)
    (a__law_number : PySem.W.nsIn K mainGlobals "_law_number" = some (some (.ref f__law_number)))
    (l__law_number : K.lookup f__law_number = some ⟨oc__law_number, od__law_number, .func (PySem.W.fnOf "_law_number" "_law_number" (defArgs s__law_number) (defBody s__law_number) (defScope s__law_number) .none kV__law_number dc__law_number pm__law_number an__law_number cd__law_number ct__law_number), sl__law_number⟩)
    (c__law_number : PySem.W.codeIn K cd__law_number "_law_number" = true)
    (k__law_number : PySem.W.keepIn K (.ref f__law_number) = true)
    (a__law_pair : PySem.W.nsIn K mainGlobals "_law_pair" = some (some (.ref f__law_pair)))
    (l__law_pair : K.lookup f__law_pair = some ⟨oc__law_pair, od__law_pair, .func (PySem.W.fnOf "_law_pair" "_law_pair" (defArgs s__law_pair) (defBody s__law_pair) (defScope s__law_pair) .none kV__law_pair dc__law_pair pm__law_pair an__law_pair cd__law_pair ct__law_pair), sl__law_pair⟩)
    (c__law_pair : PySem.W.codeIn K cd__law_pair "_law_pair" = true)
    (k__law_pair : PySem.W.keepIn K (.ref f__law_pair) = true)
    (a__law_is : PySem.W.nsIn K mainGlobals "_law_is" = some (some (.ref f__law_is)))
    (l__law_is : K.lookup f__law_is = some ⟨oc__law_is, od__law_is, .func (PySem.W.fnOf "_law_is" "_law_is" (defArgs s__law_is) (defBody s__law_is) (defScope s__law_is) .none kV__law_is dc__law_is pm__law_is an__law_is cd__law_is ct__law_is), sl__law_is⟩)
    (c__law_is : PySem.W.codeIn K cd__law_is "_law_is" = true)
    (k__law_is : PySem.W.keepIn K (.ref f__law_is) = true)
    (a__law_drawn : PySem.W.nsIn K mainGlobals "_law_drawn" = some (some (.ref f__law_drawn)))
    (l__law_drawn : K.lookup f__law_drawn = some ⟨oc__law_drawn, od__law_drawn, .func (PySem.W.fnOf "_law_drawn" "_law_drawn" (defArgs s__law_drawn) (defBody s__law_drawn) (defScope s__law_drawn) .none kV__law_drawn dc__law_drawn pm__law_drawn an__law_drawn cd__law_drawn ct__law_drawn), sl__law_drawn⟩)
    (c__law_drawn : PySem.W.codeIn K cd__law_drawn "_law_drawn" = true)
    (k__law_drawn : PySem.W.keepIn K (.ref f__law_drawn) = true)
    (a__law_signs : PySem.W.nsIn K mainGlobals "_law_signs" = some (some (.ref f__law_signs)))
    (l__law_signs : K.lookup f__law_signs = some ⟨oc__law_signs, od__law_signs, .func (PySem.W.fnOf "_law_signs" "_law_signs" (defArgs s__law_signs) (defBody s__law_signs) (defScope s__law_signs) .none kV__law_signs dc__law_signs pm__law_signs an__law_signs cd__law_signs ct__law_signs), sl__law_signs⟩)
    (c__law_signs : PySem.W.codeIn K cd__law_signs "_law_signs" = true)
    (k__law_signs : PySem.W.keepIn K (.ref f__law_signs) = true)
    (a__law_figures : PySem.W.nsIn K mainGlobals "_law_figures" = some (some (.ref f__law_figures)))
    (l__law_figures : K.lookup f__law_figures = some ⟨oc__law_figures, od__law_figures, .func (PySem.W.fnOf "_law_figures" "_law_figures" (defArgs s__law_figures) (defBody s__law_figures) (defScope s__law_figures) .none kV__law_figures dc__law_figures pm__law_figures an__law_figures cd__law_figures ct__law_figures), sl__law_figures⟩)
    (c__law_figures : PySem.W.codeIn K cd__law_figures "_law_figures" = true)
    (k__law_figures : PySem.W.keepIn K (.ref f__law_figures) = true)
    (a__law_written : PySem.W.nsIn K mainGlobals "_law_written" = some (some (.ref f__law_written)))
    (l__law_written : K.lookup f__law_written = some ⟨oc__law_written, od__law_written, .func (PySem.W.fnOf "_law_written" "_law_written" (defArgs s__law_written) (defBody s__law_written) (defScope s__law_written) .none kV__law_written dc__law_written pm__law_written an__law_written cd__law_written ct__law_written), sl__law_written⟩)
    (c__law_written : PySem.W.codeIn K cd__law_written "_law_written" = true)
    (k__law_written : PySem.W.keepIn K (.ref f__law_written) = true)
    (a__law_plainly : PySem.W.nsIn K mainGlobals "_law_plainly" = some (some (.ref f__law_plainly)))
    (l__law_plainly : K.lookup f__law_plainly = some ⟨oc__law_plainly, od__law_plainly, .func (PySem.W.fnOf "_law_plainly" "_law_plainly" (defArgs s__law_plainly) (defBody s__law_plainly) (defScope s__law_plainly) .none kV__law_plainly dc__law_plainly pm__law_plainly an__law_plainly cd__law_plainly ct__law_plainly), sl__law_plainly⟩)
    (c__law_plainly : PySem.W.codeIn K cd__law_plainly "_law_plainly" = true)
    (k__law_plainly : PySem.W.keepIn K (.ref f__law_plainly) = true)
    (a__law_due : PySem.W.nsIn K mainGlobals "_law_due" = some (some (.ref f__law_due)))
    (l__law_due : K.lookup f__law_due = some ⟨oc__law_due, od__law_due, .func (PySem.W.fnOf "_law_due" "_law_due" (defArgs s__law_due) (defBody s__law_due) (defScope s__law_due) .none kV__law_due dc__law_due pm__law_due an__law_due cd__law_due ct__law_due), sl__law_due⟩)
    (c__law_due : PySem.W.codeIn K cd__law_due "_law_due" = true)
    (k__law_due : PySem.W.keepIn K (.ref f__law_due) = true)
    (a__law_right : PySem.W.nsIn K mainGlobals "_law_right" = some (some (.ref f__law_right)))
    (l__law_right : K.lookup f__law_right = some ⟨oc__law_right, od__law_right, .func (PySem.W.fnOf "_law_right" "_law_right" (defArgs s__law_right) (defBody s__law_right) (defScope s__law_right) .none kV__law_right dc__law_right pm__law_right an__law_right cd__law_right ct__law_right), sl__law_right⟩)
    (c__law_right : PySem.W.codeIn K cd__law_right "_law_right" = true)
    (k__law_right : PySem.W.keepIn K (.ref f__law_right) = true)
    (a_law : PySem.W.nsIn K mainGlobals "law" = some (some (.ref f_law)))
    (l_law : K.lookup f_law = some ⟨oc_law, od_law, .func (PySem.W.fnOf "law" "law" (defArgs s_law) (defBody s_law) (defScope s_law) .none kV_law dc_law pm_law an_law cd_law ct_law), sl_law⟩)
    (c_law : PySem.W.codeIn K cd_law "law" = true)
    (k_law : PySem.W.keepIn K (.ref f_law) = true)
    (z_abs : PySem.W.nsIn K mainGlobals "abs" = some none)
    (z_all : PySem.W.nsIn K mainGlobals "all" = some none)
    (z_bool : PySem.W.nsIn K mainGlobals "bool" = some none)
    (z_int : PySem.W.nsIn K mainGlobals "int" = some none)
    (z_isinstance : PySem.W.nsIn K mainGlobals "isinstance" = some none)
    (z_len : PySem.W.nsIn K mainGlobals "len" = some none)
    (z_max : PySem.W.nsIn K mainGlobals "max" = some none)
    (z_min : PySem.W.nsIn K mainGlobals "min" = some none)
    (z_range : PySem.W.nsIn K mainGlobals "range" = some none)
    (z_str : PySem.W.nsIn K mainGlobals "str" = some none)
    (z_tuple : PySem.W.nsIn K mainGlobals "tuple" = some none)
    (g_FIGURES : PySem.W.nsIn K mainGlobals "FIGURES" = some (some (.str "0123456789" t_FIGURES)))
    (g_MOST_FIGURES : PySem.W.nsIn K mainGlobals "MOST_FIGURES" = some (some (.int 60 t_MOST_FIGURES)))
    (m_FontError : PySem.W.nsIn K mainGlobals "FontError" = some (some (.ref C_FontError)))
    (m_NoNumber : PySem.W.nsIn K mainGlobals "NoNumber" = some (some (.ref C_NoNumber)))
    (m_NoText : PySem.W.nsIn K mainGlobals "NoText" = some (some (.ref C_NoText)))
    (bg_FontError : PySem.W.specialIn K (.ref C_FontError) "__getattribute__" = some (some (.builtin "type.__getattribute__")))
    (br_FontError : PySem.W.readsIn K C_FontError (.type "type") = true)
    (bi_FontError : PySem.W.findCls K (.ref C_FontError) (.type "type") "__init__" = some (.val (.builtin "ValueError.__init__")))
    (xl_NoNumber : K.lookup C_NoNumber = some (excClassObj nm_NoNumber q_NoNumber C_NoNumber N_NoNumber bs_NoNumber [.ref C_FontError, .type "ValueError", .type "Exception", .type "BaseException", .type "object"] true sn_NoNumber sub_NoNumber ab_NoNumber col_NoNumber dd_NoNumber x0_NoNumber x1_NoNumber x2_NoNumber x3_NoNumber x5_NoNumber "ValueError.__new__"))
    (xs_NoNumber : PySem.W.findIn K (.ref C_NoNumber) "__setattr__" = some (some (.builtin "object.__setattr__")))
    (xe_NoNumber : PySem.W.subIn K (.ref C_NoNumber) (.type "BaseException") = some true)
    (xt_NoNumber : PySem.W.typeIn K (.ref C_NoNumber) = some (.type "type"))
    (xk_NoNumber : PySem.W.keepIn K (.ref C_NoNumber) = true)
    (xl_NoText : K.lookup C_NoText = some (excClassObj nm_NoText q_NoText C_NoText N_NoText bs_NoText [.ref C_FontError, .type "ValueError", .type "Exception", .type "BaseException", .type "object"] true sn_NoText sub_NoText ab_NoText col_NoText dd_NoText x0_NoText x1_NoText x2_NoText x3_NoText x5_NoText "ValueError.__new__"))
    (xs_NoText : PySem.W.findIn K (.ref C_NoText) "__setattr__" = some (some (.builtin "object.__setattr__")))
    (xe_NoText : PySem.W.subIn K (.ref C_NoText) (.type "BaseException") = some true)
    (xt_NoText : PySem.W.typeIn K (.ref C_NoText) = some (.type "type"))
    (xk_NoText : PySem.W.keepIn K (.ref C_NoText) = true)
    (yn : PySem.W.specialIn K (.builtin "object.__class__") "__get__" = some (some (.builtin "getset_descriptor.__get__")))
    (yt : PySem.W.takesIn K (.builtin "object.__class__") = some true)
    (yg_NoText : PySem.W.findIn K (.ref C_NoText) "__getattribute__" = some (some (.builtin "BaseException.__getattribute__")))
    (yk_NoText : PySem.W.findIn K (.ref C_NoText) "__getattr__" = some none)
    (yd_NoText : PySem.W.hasDictIn K C_NoText = true)
    (ya_NoText : PySem.W.findIn K (.ref C_NoText) "__class__" = some (some (.builtin "object.__class__")))
    (ym_NoText : PySem.W.mroIn K C_NoText (.type "object") = some true)
    (q0 : PySem.W.kitOne K (.ref C_NoText) (.type "str") = some false)
    (ii_NoNumber : PySem.W.findIn K (.ref C_NoNumber) "__init__" = some (some (.ref I_NoNumber)))
    (it_NoNumber : PySem.W.typeIn K (.ref I_NoNumber) = some (.type "function"))
    (il_NoNumber : K.lookup I_NoNumber = some ⟨ioc_NoNumber, iod_NoNumber, .func (PySem.W.fnOf "__init__" "NoNumber.__init__" (defArgs (inClass (topS 2) 0)) (defBody (inClass (topS 2) 0)) (defScope (inClass (topS 2) 0)) .none ikV_NoNumber idc_NoNumber ipm_NoNumber ian_NoNumber icd_NoNumber ict_NoNumber), isl_NoNumber⟩)
    (ic_NoNumber : PySem.W.codeIn K icd_NoNumber "NoNumber.__init__" = true)
    (ik_NoNumber : PySem.W.keepIn K (.ref I_NoNumber) = true)
    (if_NoNumber_found : PySem.W.findIn K (.ref C_NoNumber) "found" = some none)
    (ii_NoText : PySem.W.findIn K (.ref C_NoText) "__init__" = some (some (.ref I_NoText)))
    (it_NoText : PySem.W.typeIn K (.ref I_NoText) = some (.type "function"))
    (il_NoText : K.lookup I_NoText = some ⟨ioc_NoText, iod_NoText, .func (PySem.W.fnOf "__init__" "NoText.__init__" (defArgs (inClass (topS 3) 0)) (defBody (inClass (topS 3) 0)) (defScope (inClass (topS 3) 0)) .none ikV_NoText idc_NoText ipm_NoText ian_NoText icd_NoText ict_NoText), isl_NoText⟩)
    (ic_NoText : PySem.W.codeIn K icd_NoText "NoText.__init__" = true)
    (ik_NoText : PySem.W.keepIn K (.ref I_NoText) = true)
    (if_NoText_found : PySem.W.findIn K (.ref C_NoText) "found" = some none) :
    ∃ fd : FuncData, (∀ (s : Shared) (u : Value), BindsTo s fd ⟨[u], []⟩ [("_law_script", u)]) ∧ ∀ base : Heap, K.In base → base.Ns mainGlobals mg → (∃ o, base.get? sysModules = some o) → FnG l.prog w K mg base 5 fa fd ["_law_script"] sp_law := by
  have e := hfa.symm.trans (glb_of X G a_law)
  cases e
  have D_is_plain := defAt_of X G a_is_plain l_is_plain c_is_plain k_is_plain
  have D_common_part := defAt_of X G a_common_part l_common_part c_common_part k_common_part
  have D_is_part := defAt_of X G a_is_part l_is_part c_is_part k_is_part
  have D_reckoned := defAt_of X G a_reckoned l_reckoned c_reckoned k_reckoned
  have D_pair_of := defAt_of X G a_pair_of l_pair_of c_pair_of k_pair_of
  have D_times := defAt_of X G a_times l_times c_times k_times
  have D_over := defAt_of X G a_over l_over c_over k_over
  have D_number_text := defAt_of X G a_number_text l_number_text c_number_text k_number_text
  have D_figures_of := defAt_of X G a_figures_of l_figures_of c_figures_of k_figures_of
  have D_number_of := defAt_of X G a_number_of l_number_of c_number_of k_number_of
  have D__law_cell := defAt_of X G a__law_cell l__law_cell c__law_cell k__law_cell
  have D__law_box := defAt_of X G a__law_box l__law_box c__law_box k__law_box
  have D__law_take := defAt_of X G a__law_take l__law_take c__law_take k__law_take
  have D__law_far := defAt_of X G a__law_far l__law_far c__law_far k__law_far
  have D__law_number := defAt_of X G a__law_number l__law_number c__law_number k__law_number
  have D__law_pair := defAt_of X G a__law_pair l__law_pair c__law_pair k__law_pair
  have D__law_is := defAt_of X G a__law_is l__law_is c__law_is k__law_is
  have D__law_drawn := defAt_of X G a__law_drawn l__law_drawn c__law_drawn k__law_drawn
  have D__law_signs := defAt_of X G a__law_signs l__law_signs c__law_signs k__law_signs
  have D__law_figures := defAt_of X G a__law_figures l__law_figures c__law_figures k__law_figures
  have D__law_written := defAt_of X G a__law_written l__law_written c__law_written k__law_written
  have D__law_plainly := defAt_of X G a__law_plainly l__law_plainly c__law_plainly k__law_plainly
  have D__law_due := defAt_of X G a__law_due l__law_due c__law_due k__law_due
  have D__law_right := defAt_of X G a__law_right l__law_right c__law_right k__law_right
  have D_law := defAt_of X G a_law l_law c_law k_law
  have M_FontError := glb_of X G m_FontError
  have M_NoNumber := glb_of X G m_NoNumber
  have M_NoText := glb_of X G m_NoText
  have B_FontError := baseC_of X G m_FontError bg_FontError br_FontError bi_FontError
  have X_NoNumber := oexC_of xl_NoNumber rfl xs_NoNumber xe_NoNumber xt_NoNumber xk_NoNumber
  have X_NoText := oexC_of xl_NoText rfl xs_NoText xe_NoText xt_NoText xk_NoText
  have Y_NoText : L2.ExcC K C_NoText := ⟨yg_NoText, yk_NoText, xe_NoText, yd_NoText, ya_NoText, yn, yt, ym_NoText⟩
  have T : Tz K mg := { kit := kitT_of (List.forall_mem_cons.mpr ⟨kfact_e M_NoText Y_NoText q0, fun p hp => (nomatch hp)⟩), z_abs := bltn_of X G z_abs, z_all := bltn_of X G z_all, z_bool := bltn_of X G z_bool, z_int := bltn_of X G z_int, z_isinstance := bltn_of X G z_isinstance, z_len := bltn_of X G z_len, z_max := bltn_of X G z_max, z_min := bltn_of X G z_min, z_range := bltn_of X G z_range, z_str := bltn_of X G z_str, z_tuple := bltn_of X G z_tuple, g_FIGURES := ⟨_, glb_of X G g_FIGURES⟩, g_MOST_FIGURES := ⟨_, glb_of X G g_MOST_FIGURES⟩ }
  refine ⟨PySem.W.fnOf "law" "law" (defArgs s_law) (defBody s_law) (defScope s_law) .none kV_law dc_law pm_law an_law cd_law ct_law, fun s u => .of_eq rfl, fun base Kb Gb sm => ?_⟩
  have F_NoNumber := fun_mk (st := inClass (topS 2) 0) il_NoNumber ic_NoNumber ik_NoNumber
  have E_NoNumber : ExOk l.prog w K mg base "NoNumber" ["found"] := ⟨_, _, _, _, _, ⟨M_NoNumber, X_NoNumber, ii_NoNumber, it_NoNumber, (ex1_ok F_NoNumber (fun _ _ _ _ _ _ => ⟨_, ps_expr (pe_finit B_FontError (pa_cons (pv 0) (pa_cons pe_str pa_nil)))⟩) rfl ⟨rfl, rfl, rfl, by decide +kernel, rfl, by decide +kernel, by decide +kernel⟩ rfl rfl (by decide) (by decide)), F_NoNumber.binds (fun _ _ _ _ _ _ us hl => match us, hl with | [_, _], _ => rfl)⟩, exGives1, List.forall_mem_cons.mpr ⟨if_NoNumber_found, fun f hf => (nomatch hf)⟩⟩
  have F_NoText := fun_mk (st := inClass (topS 3) 0) il_NoText ic_NoText ik_NoText
  have E_NoText : ExOk l.prog w K mg base "NoText" ["found"] := ⟨_, _, _, _, _, ⟨M_NoText, X_NoText, ii_NoText, it_NoText, (ex1_ok F_NoText (fun _ _ _ _ _ _ => ⟨_, ps_expr (pe_finit B_FontError (pa_cons (pv 0) (pa_cons pe_str pa_nil)))⟩) rfl ⟨rfl, rfl, rfl, by decide +kernel, rfl, by decide +kernel, by decide +kernel⟩ rfl rfl (by decide) (by decide)), F_NoText.binds (fun _ _ _ _ _ _ us hl => match us, hl with | [_, _], _ => rfl)⟩, exGives1, List.forall_mem_cons.mpr ⟨if_NoText_found, fun f hf => (nomatch hf)⟩⟩
  have O_is_plain := ok_is_plain (P := l.prog) (w := w) (base := base) T D_is_plain sm 
  have O_common_part := ok_common_part (P := l.prog) (w := w) (base := base) T D_common_part sm 
  have O_is_part := ok_is_part (P := l.prog) (w := w) (base := base) T D_is_part sm O_common_part O_is_plain
  have O_reckoned := ok_reckoned (P := l.prog) (w := w) (base := base) T D_reckoned sm O_common_part
  have O_pair_of := ok_pair_of (P := l.prog) (w := w) (base := base) T D_pair_of sm E_NoNumber O_is_part O_is_plain
  have O_times := ok_times (P := l.prog) (w := w) (base := base) T D_times sm O_pair_of O_reckoned
  have O_over := ok_over (P := l.prog) (w := w) (base := base) T D_over sm O_pair_of O_reckoned
  have O_number_text := ok_number_text (P := l.prog) (w := w) (base := base) T D_number_text sm O_pair_of
  have O_figures_of := ok_figures_of (P := l.prog) (w := w) (base := base) T D_figures_of sm 
  have O_number_of := ok_number_of (P := l.prog) (w := w) (base := base) T D_number_of sm O_figures_of O_reckoned
  have O__law_cell := ok__law_cell (P := l.prog) (w := w) (base := base) T D__law_cell sm 
  have O__law_box := ok__law_box (P := l.prog) (w := w) (base := base) T D__law_box sm 
  have O__law_take := ok__law_take (P := l.prog) (w := w) (base := base) T D__law_take sm 
  have O__law_far := ok__law_far (P := l.prog) (w := w) (base := base) T D__law_far sm O__law_take
  have O__law_number := ok__law_number (P := l.prog) (w := w) (base := base) T D__law_number sm 
  have O__law_pair := ok__law_pair (P := l.prog) (w := w) (base := base) T D__law_pair sm 
  have O__law_is := ok__law_is (P := l.prog) (w := w) (base := base) T D__law_is sm 
  have O__law_drawn := ok__law_drawn (P := l.prog) (w := w) (base := base) T D__law_drawn sm O__law_far O__law_number O__law_take
  have O__law_signs := ok__law_signs (P := l.prog) (w := w) (base := base) T D__law_signs sm 
  have O__law_figures := ok__law_figures (P := l.prog) (w := w) (base := base) T D__law_figures sm O__law_take
  have O__law_written := ok__law_written (P := l.prog) (w := w) (base := base) T D__law_written sm O__law_figures O__law_signs O__law_take
  have O__law_plainly := ok__law_plainly (P := l.prog) (w := w) (base := base) T D__law_plainly sm 
  have O__law_due := ok__law_due (P := l.prog) (w := w) (base := base) T D__law_due sm O__law_number O__law_plainly
  have O__law_right := ok__law_right (P := l.prog) (w := w) (base := base) T D__law_right sm O__law_due O__law_is O_number_of
  exact fn_law T D_law sm E_NoText O__law_box O__law_cell O__law_drawn O__law_is O__law_pair O__law_right O__law_take O__law_written O_number_of O_number_text O_over O_times
end L_k04
open PySem PySem.W PyProof.Rows
set_option maxHeartbeats 0 in
theorem PySem.Challenge.cw_hintedpoints_k04_numbers_as_texts_holds : PySem.Challenge.rw_hintedpoints_k04_numbers_as_texts.Holds := by
  w_on; o_law; k_head; (case hw => w_witness2)
  k_fill
  refine DL.walkD (l := PySem.Challenge.rw_hintedpoints_k04_numbers_as_texts) (n := 63) (k := 5) (x := "_law_script") (sp := L_k04.sp_law) rfl (by decide) rfl ⟨rfl, by decide, by decide⟩ (by decide +kernel) (fun w h Y => PySem.W.kIn_of Y) ?F L_k04.law_true
  case F =>
    intro w mg fa h KX G hmg
    refine' L_k04.all_mk KX G hmg ?a_is_plain ?l_is_plain ?c_is_plain ?k_is_plain ?a_common_part ?l_common_part ?c_common_part ?k_common_part ?a_is_part ?l_is_part ?c_is_part ?k_is_part ?a_reckoned ?l_reckoned ?c_reckoned ?k_reckoned ?a_pair_of ?l_pair_of ?c_pair_of ?k_pair_of ?a_times ?l_times ?c_times ?k_times ?a_over ?l_over ?c_over ?k_over ?a_number_text ?l_number_text ?c_number_text ?k_number_text ?a_figures_of ?l_figures_of ?c_figures_of ?k_figures_of ?a_number_of ?l_number_of ?c_number_of ?k_number_of ?a__law_cell ?l__law_cell ?c__law_cell ?k__law_cell ?a__law_box ?l__law_box ?c__law_box ?k__law_box ?a__law_take ?l__law_take ?c__law_take ?k__law_take ?a__law_far ?l__law_far ?c__law_far ?k__law_far ?a__law_number ?l__law_number ?c__law_number ?k__law_number ?a__law_pair ?l__law_pair ?c__law_pair ?k__law_pair ?a__law_is ?l__law_is ?c__law_is ?k__law_is ?a__law_drawn ?l__law_drawn ?c__law_drawn ?k__law_drawn ?a__law_signs ?l__law_signs ?c__law_signs ?k__law_signs ?a__law_figures ?l__law_figures ?c__law_figures ?k__law_figures ?a__law_written ?l__law_written ?c__law_written ?k__law_written ?a__law_plainly ?l__law_plainly ?c__law_plainly ?k__law_plainly ?a__law_due ?l__law_due ?c__law_due ?k__law_due ?a__law_right ?l__law_right ?c__law_right ?k__law_right ?a_law ?l_law ?c_law ?k_law ?z_abs ?z_all ?z_bool ?z_int ?z_isinstance ?z_len ?z_max ?z_min ?z_range ?z_str ?z_tuple ?g_FIGURES ?g_MOST_FIGURES ?m_FontError ?m_NoNumber ?m_NoText ?bg_FontError ?br_FontError ?bi_FontError ?xl_NoNumber ?xs_NoNumber ?xe_NoNumber ?xt_NoNumber ?xk_NoNumber ?xl_NoText ?xs_NoText ?xe_NoText ?xt_NoText ?xk_NoText ?yn ?yt ?yg_NoText ?yk_NoText ?yd_NoText ?ya_NoText ?ym_NoText ?q0 ?ii_NoNumber ?it_NoNumber ?il_NoNumber ?ic_NoNumber ?ik_NoNumber ?if_NoNumber_found ?ii_NoText ?it_NoText ?il_NoText ?ic_NoText ?ik_NoText ?if_NoText_found
    (case a_is_plain => k_is)
    (case l_is_plain => k_is)
    (case c_is_plain => k_is)
    (case k_is_plain => k_is)
    (case a_common_part => k_is)
    (case l_common_part => k_is)
    (case c_common_part => k_is)
    (case k_common_part => k_is)
    (case a_is_part => k_is)
    (case l_is_part => k_is)
    (case c_is_part => k_is)
    (case k_is_part => k_is)
    (case a_reckoned => k_is)
    (case l_reckoned => k_is)
    (case c_reckoned => k_is)
    (case k_reckoned => k_is)
    (case a_pair_of => k_is)
    (case l_pair_of => k_is)
    (case c_pair_of => k_is)
    (case k_pair_of => k_is)
    (case a_times => k_is)
    (case l_times => k_is)
    (case c_times => k_is)
    (case k_times => k_is)
    (case a_over => k_is)
    (case l_over => k_is)
    (case c_over => k_is)
    (case k_over => k_is)
    (case a_number_text => k_is)
    (case l_number_text => k_is)
    (case c_number_text => k_is)
    (case k_number_text => k_is)
    (case a_figures_of => k_is)
    (case l_figures_of => k_is)
    (case c_figures_of => k_is)
    (case k_figures_of => k_is)
    (case a_number_of => k_is)
    (case l_number_of => k_is)
    (case c_number_of => k_is)
    (case k_number_of => k_is)
    (case a__law_cell => k_is)
    (case l__law_cell => k_is)
    (case c__law_cell => k_is)
    (case k__law_cell => k_is)
    (case a__law_box => k_is)
    (case l__law_box => k_is)
    (case c__law_box => k_is)
    (case k__law_box => k_is)
    (case a__law_take => k_is)
    (case l__law_take => k_is)
    (case c__law_take => k_is)
    (case k__law_take => k_is)
    (case a__law_far => k_is)
    (case l__law_far => k_is)
    (case c__law_far => k_is)
    (case k__law_far => k_is)
    (case a__law_number => k_is)
    (case l__law_number => k_is)
    (case c__law_number => k_is)
    (case k__law_number => k_is)
    (case a__law_pair => k_is)
    (case l__law_pair => k_is)
    (case c__law_pair => k_is)
    (case k__law_pair => k_is)
    (case a__law_is => k_is)
    (case l__law_is => k_is)
    (case c__law_is => k_is)
    (case k__law_is => k_is)
    (case a__law_drawn => k_is)
    (case l__law_drawn => k_is)
    (case c__law_drawn => k_is)
    (case k__law_drawn => k_is)
    (case a__law_signs => k_is)
    (case l__law_signs => k_is)
    (case c__law_signs => k_is)
    (case k__law_signs => k_is)
    (case a__law_figures => k_is)
    (case l__law_figures => k_is)
    (case c__law_figures => k_is)
    (case k__law_figures => k_is)
    (case a__law_written => k_is)
    (case l__law_written => k_is)
    (case c__law_written => k_is)
    (case k__law_written => k_is)
    (case a__law_plainly => k_is)
    (case l__law_plainly => k_is)
    (case c__law_plainly => k_is)
    (case k__law_plainly => k_is)
    (case a__law_due => k_is)
    (case l__law_due => k_is)
    (case c__law_due => k_is)
    (case k__law_due => k_is)
    (case a__law_right => k_is)
    (case l__law_right => k_is)
    (case c__law_right => k_is)
    (case k__law_right => k_is)
    (case a_law => k_is)
    (case l_law => k_is)
    (case c_law => k_is)
    (case k_law => k_is)
    (case z_abs => k_is)
    (case z_all => k_is)
    (case z_bool => k_is)
    (case z_int => k_is)
    (case z_isinstance => k_is)
    (case z_len => k_is)
    (case z_max => k_is)
    (case z_min => k_is)
    (case z_range => k_is)
    (case z_str => k_is)
    (case z_tuple => k_is)
    (case g_FIGURES => k_is)
    (case g_MOST_FIGURES => k_is)
    (case m_FontError => k_is)
    (case m_NoNumber => k_is)
    (case m_NoText => k_is)
    (case bg_FontError => k_is)
    (case br_FontError => k_is)
    (case bi_FontError => k_is)
    (case xl_NoNumber => k_is)
    (case xs_NoNumber => k_is)
    (case xe_NoNumber => k_is)
    (case xt_NoNumber => k_is)
    (case xk_NoNumber => k_is)
    (case xl_NoText => k_is)
    (case xs_NoText => k_is)
    (case xe_NoText => k_is)
    (case xt_NoText => k_is)
    (case xk_NoText => k_is)
    (case yn => k_is)
    (case yt => k_is)
    (case yg_NoText => k_is)
    (case yk_NoText => k_is)
    (case yd_NoText => k_is)
    (case ya_NoText => k_is)
    (case ym_NoText => k_is)
    (case q0 => kit_is)
    (case ii_NoNumber => k_is)
    (case it_NoNumber => k_is)
    (case il_NoNumber => k_is)
    (case ic_NoNumber => k_is)
    (case ik_NoNumber => k_is)
    (case if_NoNumber_found => k_is)
    (case ii_NoText => k_is)
    (case it_NoText => k_is)
    (case il_NoText => k_is)
    (case ic_NoText => k_is)
    (case ik_NoText => k_is)
    (case if_NoText_found => k_is)
