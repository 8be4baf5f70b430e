import PyProof.Rows.All
import Wide.All
import OpenK.AllK
import Wide.FinOn
import HandS.ForMost
import HandS.ForExc
import HandS.Flow
import HandS.IsInst
import HandS.Wide
import HandS.TryMany
import HandS.ExcInit
import HandS.RaiseMore
import HandS.ExcCtx
import HandS.SuiteRaise
import HandS.ExcInitHot
import HandS.Deep
import KE.KExcIs
import HandS.ExcIs
import HandS.Defaults
import HandS.MakeKw
import HandS.MakeKwOnly
import HandS.ExcField
import HandS.Small
import HandS.Style
import HandS.Conv
import HandS.CallLocal
import HandS.WrittenGet
import PyProof.ReprRoads
import HandS.HeadHook3
import PyProof.MaxThree
import HandS.Text
import HandS.StrMore
import HandS.FStr
import PyProof.StrBlock2
import KE.IntTextLaws
import PyProof.CollectIter
import PyProof.Walks
import HandS.Zip0
import HandS.SortInts
import HandS.OwnIter
import HandS.TupAny
import KE.KExcInit
import HandS.OwnEq
import KE.KEqDict
import HandS.More
import PySem.Challenge.RW_hintedpoints_k13_refusals_by_names
import KE.OsRunLaw
set_option Elab.async false
set_option linter.all false
set_option maxRecDepth 100000
set_option maxHeartbeats 4000000
set_option exponentiation.threshold 10000
/-! DL: a layer of plain data trees over the hand layer: D (data without addresses), kept parts and cells, readings over D. -/
namespace DL
open PySem PySem.Spec PyProof.Rows L2
/-! ### data -/
inductive Kd where
  | lst | tup | klst
  | dct (ks : List Key)
  | obj (c : Str) (ns : List Str)
  | exc (c : Str) (ns : List Str)
  | exa (c : Str) (ns : List Str) (a : Addr)
  | cau (c : Str) (a C : Addr) (dd : Option Addr)
  deriving DecidableEq
inductive D where
  | non | bl (b : Bool) | int (i : Int) | str (x : Str) | ty (n : String) | glb (x : Str) | cell (n : Nat)
  | node (k : Kd) (xs : List D)
abbrev D.lst (xs : List D) : D := .node .lst xs
abbrev D.tup (xs : List D) : D := .node .tup xs
inductive Cell where
  | live (k : Kd) (xs : List D)
  | dead
abbrev Kap := Nat → Option Cell
def kset (κ : Kap) (n : Nat) (c : Cell) : Kap := fun m => if m = n then some c else κ m
theorem kset_same {κ : Kap} {n : Nat} {c : Cell} : kset κ n c n = some c := if_pos rfl
theorem kset_ne {κ : Kap} {n m : Nat} {c : Cell} (h : m ≠ n) : kset κ n c m = κ m := if_neg h
theorem kset_kset {κ : Kap} {n : Nat} {c d : Cell} : kset (kset κ n c) n d = kset κ n d := by
  funext m; unfold kset; split <;> rfl
theorem kne {κ : Kap} {n m : Nat} {c : Cell} (h : κ n = some c) (h' : κ m = none) : n ≠ m := by
  intro e; rw [e, h'] at h; cases h
abbrev DEnv := List (Option D)
abbrev DQ := D → Kap → Prop
abbrev DX := DEnv → Str → List D → Kap → Prop
structure DEnds where
  nx : DEnv → Kap → Prop
  rt : DQ
  bk : DEnv → Kap → Prop := fun _ _ => False
  ct : DEnv → Kap → Prop := fun _ _ => False
/-- readings over data: an expression's, a test's, an argument list's, a statement's -/
abbrev DE := DEnv → Kap → DX → DQ → Prop
abbrev DT := DEnv → Kap → DX → (Bool → Kap → Prop) → Prop
abbrev DA := DEnv → Kap → DX → (List D → Kap → Prop) → Prop
abbrev DS := DEnv → Kap → DX → DEnds → Prop
/-- what a def is worth, over data -/
abbrev DSp := List D → Kap → (Str → List D → Kap → Prop) → DQ → Prop
/-! ### how data lies in the abstract heap -/
structure Ctx where
  K : PySem.W.Frag
  mg : Str → Option Value
abbrev Loc0 := Nat → Option Addr
/-- names and values, in turn -/
def xflat : List (Str × V) → List V
  | [] => []
  | p :: r => V.str p.1 :: p.2 :: xflat r
def HoldK (C : Ctx) (F : Hp) (k : Kd) (a : Addr) (vs : List V) : Prop := match k with
  | .lst => F a = some (.lst vs)
  | .klst => SqL C.K F a vs
  | .tup => SqT C.K F a vs
  | .dct ks => ∃ kvs, F a = some (.dK kvs) ∧ kvs.map (·.1) = ks ∧ kvs.map (·.2) = vs
  | .obj c ns => ∃ (ca dx : Addr) (fs : List (Str × V)), C.mg c = some (.ref ca) ∧ F a = some (.ins ca dx fs) ∧ fs.map (·.1) = ns ∧ fs.map (·.2) = vs
  | .exc c ns => ∃ ca : Addr, C.mg c = some (.ref ca) ∧ ((ns = [] ∧ vs = [] ∧ F a = some (exo a ca none)) ∨ ∃ (d : Addr) (fs : List (Str × V)), F a = some (exo a ca (some d)) ∧ F d = some (exd d fs) ∧ fs.map (·.1) = ns ∧ fs.map (·.2) = vs)
  | .exa c ns a1 => a = a1 ∧ ∃ ca : Addr, C.mg c = some (.ref ca) ∧ ((ns = [] ∧ vs = [] ∧ F a = some (exo a ca none)) ∨ ∃ (d : Addr) (fs : List (Str × V)), F a = some (exo a ca (some d)) ∧ F d = some (exd d fs) ∧ fs.map (·.1) = ns ∧ fs.map (·.2) = vs)
  | .cau c a1 C1 dd => a = a1 ∧ C.mg c = some (.ref C1) ∧ ((dd = none ∧ vs = []) ∨ ∃ (d : Addr) (fs : List (Str × V)), dd = some d ∧ F d = some (.xd fs) ∧ vs = xflat fs)
mutual
inductive Rep (C : Ctx) (F : Hp) (ρ : Loc0) : D → V → Prop
  | non : Rep C F ρ .non .non
  | bl (b : Bool) : Rep C F ρ (.bl b) (.bl b)
  | int (i : Int) : Rep C F ρ (.int i) (.int i)
  | str (x : Str) : Rep C F ρ (.str x) (.str x)
  | ty (n : String) : Rep C F ρ (.ty n) (.ty n)
  | glb {x : Str} {a : Addr} (h : C.mg x = some (.ref a)) : Rep C F ρ (.glb x) (.ref a)
  | cell {n : Nat} {a : Addr} (h : ρ n = some a) : Rep C F ρ (.cell n) (.ref a)
  | node {k : Kd} {xs : List D} {a : Addr} {vs : List V} (h : HoldK C F k a vs) (r : RepL C F ρ xs vs) : Rep C F ρ (.node k xs) (.ref a)
inductive RepL (C : Ctx) (F : Hp) (ρ : Loc0) : List D → List V → Prop
  | nil : RepL C F ρ [] []
  | cons {d : D} {ds : List D} {v : V} {vs : List V} (h : Rep C F ρ d v) (t : RepL C F ρ ds vs) : RepL C F ρ (d :: ds) (v :: vs)
end
/-- the kept part and the cells' places only grow -/
structure Ext (F : Hp) (ρ : Loc0) (F' : Hp) (ρ' : Loc0) : Prop where
  f : ∀ a o, F a = some o → F' a = some o
  r : ∀ n a, ρ n = some a → ρ' n = some a
theorem Ext.refl (F : Hp) (ρ : Loc0) : Ext F ρ F ρ := ⟨fun _ _ h => h, fun _ _ h => h⟩
theorem Ext.trans {F F1 F2 : Hp} {ρ ρ1 ρ2 : Loc0} (a : Ext F ρ F1 ρ1) (b : Ext F1 ρ1 F2 ρ2) : Ext F ρ F2 ρ2 := ⟨fun x o h => b.f x o (a.f x o h), fun n x h => b.r n x (a.r n x h)⟩
section
variable {C : Ctx} {F F' : Hp} {ρ ρ' : Loc0}
theorem rd_ext (h : ∀ a o, F a = some o → F' a = some o) {a : Addr} {u : HO} (r : Rd F a u) : Rd F' a u := by
  rcases r with r | ⟨o, r⟩
  · exact .inl (h _ _ r)
  · exact .inr ⟨o, h _ _ r⟩
theorem sql_ext (h : ∀ a o, F a = some o → F' a = some o) {K : PySem.W.Frag} {a : Addr} {xs : List V} (r : SqL K F a xs) : SqL K F' a xs := by
  rcases r with r | r
  · exact .inl (rd_ext h r)
  · exact .inr r
theorem sqt_ext (h : ∀ a o, F a = some o → F' a = some o) {K : PySem.W.Frag} {a : Addr} {xs : List V} (r : SqT K F a xs) : SqT K F' a xs := by
  rcases r with r | r
  · exact .inl (rd_ext h r)
  · exact .inr r
theorem HoldK.ext (e : ∀ a o, F a = some o → F' a = some o) {k : Kd} {a : Addr} {vs : List V} (h : HoldK C F k a vs) : HoldK C F' k a vs := by
  cases k with
  | lst => exact e _ _ h
  | klst => exact sql_ext e h
  | tup => exact sqt_ext e h
  | dct ks => obtain ⟨kvs, h1, h2⟩ := h; exact ⟨kvs, e _ _ h1, h2⟩
  | obj c ns => obtain ⟨ca, dx, fs, h1, h2, h3⟩ := h; exact ⟨ca, dx, fs, h1, e _ _ h2, h3⟩
  | exc c ns =>
    obtain ⟨ca, h1, h2⟩ := h
    refine ⟨ca, h1, ?_⟩
    rcases h2 with ⟨h2, h3, h4⟩ | ⟨d, fs, h2, h3, h4⟩
    · exact .inl ⟨h2, h3, e _ _ h4⟩
    · exact .inr ⟨d, fs, e _ _ h2, e _ _ h3, h4⟩
  | exa c ns a1 =>
    obtain ⟨h0, ca, h1, h2⟩ := h
    refine ⟨h0, ca, h1, ?_⟩
    rcases h2 with ⟨h2, h3, h4⟩ | ⟨d, fs, h2, h3, h4⟩
    · exact .inl ⟨h2, h3, e _ _ h4⟩
    · exact .inr ⟨d, fs, e _ _ h2, e _ _ h3, h4⟩
  | cau c a1 C1 dd =>
    obtain ⟨h1, h2, h3⟩ := h
    refine ⟨h1, h2, ?_⟩
    rcases h3 with h3 | ⟨d, fs, h3, h4, h5⟩
    · exact .inl h3
    · exact .inr ⟨d, fs, h3, e _ _ h4, h5⟩
mutual
theorem Rep.ext (e : Ext F ρ F' ρ') : ∀ {d : D} {v : V}, Rep C F ρ d v → Rep C F' ρ' d v
  | _, _, .non => .non
  | _, _, .bl b => .bl b
  | _, _, .int i => .int i
  | _, _, .str x => .str x
  | _, _, .ty n => .ty n
  | _, _, .glb h => .glb h
  | _, _, .cell h => .cell (e.r _ _ h)
  | _, _, .node h r => .node (h.ext e.f) (RepL.ext e r)
theorem RepL.ext (e : Ext F ρ F' ρ') : ∀ {d : List D} {v : List V}, RepL C F ρ d v → RepL C F' ρ' d v
  | _, _, .nil => .nil
  | _, _, .cons h t => .cons (Rep.ext e h) (RepL.ext e t)
end
theorem RepL.length : ∀ {ds : List D} {vs : List V}, RepL C F ρ ds vs → ds.length = vs.length
  | _, _, .nil => rfl
  | _, _, .cons _ t => congrArg (· + 1) (RepL.length t)
theorem RepL.get : ∀ {ds : List D} {vs : List V} {i : Nat} {d : D}, RepL C F ρ ds vs → ds[i]? = some d → ∃ v, vs[i]? = some v ∧ Rep C F ρ d v
  | _, _, _, _, .nil, e => by simp at e
  | _, _, 0, _, .cons h _, e => by simp at e; subst e; exact ⟨_, rfl, h⟩
  | _, _, i + 1, d, .cons _ t, e => by
    obtain ⟨v, h1, h2⟩ := RepL.get (i := i) (d := d) t (by simpa using e)
    exact ⟨v, by simpa using h1, h2⟩
theorem RepL.append : ∀ {xs ys : List D} {us ws : List V}, RepL C F ρ xs us → RepL C F ρ ys ws → RepL C F ρ (xs ++ ys) (us ++ ws)
  | _, _, _, _, .nil, s => s
  | _, _, _, _, .cons h t, s => .cons h (RepL.append t s)
theorem RepL.set {d : D} {v : V} (r : Rep C F ρ d v) : ∀ {xs : List D} {vs : List V} (i : Nat), RepL C F ρ xs vs → RepL C F ρ (xs.set i d) (vs.set i v)
  | _, _, _, .nil => .nil
  | _, _, 0, .cons _ t => .cons r t
  | _, _, i + 1, .cons q t => .cons q (RepL.set r i t)
theorem RepL.take : ∀ {xs : List D} {vs : List V} (n : Nat), RepL C F ρ xs vs → RepL C F ρ (xs.take n) (vs.take n)
  | _, _, 0, _ => .nil
  | _, _, _ + 1, .nil => .nil
  | _, _, n + 1, .cons h t => .cons h (RepL.take n t)
theorem RepL.drop : ∀ {xs : List D} {vs : List V} (n : Nat), RepL C F ρ xs vs → RepL C F ρ (xs.drop n) (vs.drop n)
  | _, _, 0, r => r
  | _, _, _ + 1, .nil => .nil
  | _, _, n + 1, .cons _ t => RepL.drop n t
theorem RepL.strs : ∀ {ns : List Str} {vs : List V}, RepL C F ρ (ns.map D.str) vs → vs = ns.map V.str
  | [], _, .nil => rfl
  | n :: ns, _, .cons h t => by cases h; rw [RepL.strs (ns := ns) t]; rfl
theorem RepL.ofInts : ∀ {ns : List Int}, RepL C F ρ (ns.map D.int) (ns.map V.int)
  | [] => .nil
  | n :: ns => .cons (.int n) (RepL.ofInts (ns := ns))
end
/-- how a cell's content lies -/
def HoldM (C : Ctx) (H : Hp) (k : Kd) (a : Addr) (vs : List V) : Prop := match k with
  | .lst => H a = some (.lst vs)
  | .dct ks => ∃ kvs, H a = some (.dK kvs) ∧ kvs.map (·.1) = ks ∧ kvs.map (·.2) = vs
  | .obj c ns => ∃ (ca dx : Addr) (fs : List (Str × V)), C.mg c = some (.ref ca) ∧ H a = some (.ins ca dx fs) ∧ fs.map (·.1) = ns ∧ fs.map (·.2) = vs
  | _ => False
/-- the state: the kept part F, the cells' places ρ, the cells κ, the abstract heap H -/
structure StR (C : Ctx) (F : Hp) (ρ : Loc0) (κ : Kap) (H : Hp) : Prop where
  sub : ∀ a o, F a = some o → H a = some o
  live : ∀ n k xs, κ n = some (.live k xs) → ∃ a vs, ρ n = some a ∧ F a = none ∧ HoldM C H k a vs ∧ RepL C F ρ xs vs
  inj : ∀ n m a k xs k' xs', κ n = some (.live k xs) → κ m = some (.live k' xs') → ρ n = some a → ρ m = some a → n = m
  free : ∀ n, κ n = none → ρ n = none
  fin : ∃ N, ∀ n, N ≤ n → κ n = none
theorem HoldM.is {C : Ctx} {H : Hp} {k : Kd} {a : Addr} {vs : List V} (h : HoldM C H k a vs) : ∃ o, H a = some o := by
  cases k with
  | lst => exact ⟨_, h⟩
  | dct ks => obtain ⟨kvs, h1, _⟩ := h; exact ⟨_, h1⟩
  | obj c ns => obtain ⟨_, _, _, _, h1, _⟩ := h; exact ⟨_, h1⟩
  | _ => exact h.elim
theorem HoldM.same {C : Ctx} {H H' : Hp} {k : Kd} {a : Addr} {vs : List V} (h : HoldM C H k a vs) (e : H' a = H a) : HoldM C H' k a vs := by
  cases k with
  | lst => exact e.trans h
  | dct ks => obtain ⟨kvs, h1, h2⟩ := h; exact ⟨kvs, e.trans h1, h2⟩
  | obj c ns => obtain ⟨ca, dx, fs, h0, h1, h2⟩ := h; exact ⟨ca, dx, fs, h0, e.trans h1, h2⟩
  | _ => exact h.elim
section
variable {C : Ctx} {F : Hp} {ρ : Loc0} {κ : Kap} {H : Hp}
/-- a new object, kept -/
theorem StR.laid (S : StR C F ρ κ H) {p : Addr} {o : HO} (h : H p = none) : Ext F ρ (upd F p o) ρ ∧ StR C (upd F p o) ρ κ (upd H p o) := by
  have fp : F p = none := by
    cases e : F p with
    | none => rfl
    | some u => rw [S.sub p u e] at h; cases h
  have ex : Ext F ρ (upd F p o) ρ := ⟨fun a u e => by rw [upd_ne (ne_of_none e fp)]; exact e, fun _ _ e => e⟩
  refine ⟨ex, ⟨fun a u e => ?_, fun n k xs e => ?_, S.inj, S.free, S.fin⟩⟩
  · by_cases ha : a = p
    · subst ha; rw [upd_same] at e; rw [upd_same]; exact e
    · rw [upd_ne ha] at e; rw [upd_ne ha]; exact S.sub a u e
  · obtain ⟨a, vs, h1, h2, h3, h4⟩ := S.live n k xs e
    obtain ⟨u, hu⟩ := h3.is
    have ne : a ≠ p := ne_of_none hu h
    exact ⟨a, vs, h1, by rw [upd_ne ne]; exact h2, h3.same (upd_ne ne), h4.ext ex⟩
/-- a new object, a cell -/
theorem StR.cell (S : StR C F ρ κ H) {p : Addr} {o : HO} {k : Kd} {vs : List V} {xs : List D} (h : H p = none) (hm : ∀ H', H' p = some o → HoldM C H' k p vs) (r : RepL C F ρ xs vs) {n : Nat} (hn : κ n = none) :
    ∃ ρ', Ext F ρ F ρ' ∧ ρ' n = some p ∧ StR C F ρ' (kset κ n (.live k xs)) (upd H p o) := by
  have ex : Ext F ρ F (fun m => if m = n then some p else ρ m) := ⟨fun _ _ e => e, fun m a e => by
    have : m ≠ n := fun z => by rw [z, S.free n hn] at e; cases e
    show (if m = n then some p else ρ m) = some a
    rw [if_neg this]; exact e⟩
  have fp : F p = none := by
    cases e : F p with
    | none => rfl
    | some u => rw [S.sub p u e] at h; cases h
  refine ⟨_, ex, if_pos rfl, ⟨fun a u e => ?_, fun m k' xs' e => ?_, fun m m' a k1 x1 k2 x2 e e' r1 r2 => ?_, fun m e => ?_, ?_⟩⟩
  · rw [upd_ne (ne_of_none (S.sub a u e) h)]; exact S.sub a u e
  · by_cases hm' : m = n
    · subst hm'
      rw [kset_same] at e
      cases e
      exact ⟨p, vs, if_pos rfl, fp, hm _ upd_same, r.ext ex⟩
    · rw [kset_ne hm'] at e
      obtain ⟨a, ws, h1, h2, h3, h4⟩ := S.live m k' xs' e
      obtain ⟨u, hu⟩ := h3.is
      have ne : a ≠ p := ne_of_none hu h
      exact ⟨a, ws, by rw [if_neg hm']; exact h1, h2, h3.same (upd_ne ne), h4.ext ex⟩
  · have key : ∀ {m a k1 x1}, m ≠ n → kset κ n (.live k xs) m = some (.live k1 x1) → (if m = n then some p else ρ m) = some a → a ≠ p := by
      intro m a k1 x1 hm' e r1
      rw [kset_ne hm'] at e
      obtain ⟨b, ws, h1, h2, h3, h4⟩ := S.live m k1 x1 e
      rw [if_neg hm', h1] at r1
      cases r1
      obtain ⟨u, hu⟩ := h3.is
      exact ne_of_none hu h
    by_cases h1 : m = n
    · by_cases h2 : m' = n
      · exact h1.trans h2.symm
      · have := key h2 e' r2
        rw [if_pos h1] at r1
        cases r1
        exact absurd rfl this
    · by_cases h2 : m' = n
      · have := key h1 e r1
        rw [if_pos h2] at r2
        cases r2
        exact absurd rfl this
      · rw [kset_ne h1] at e
        rw [kset_ne h2] at e'
        rw [if_neg h1] at r1
        rw [if_neg h2] at r2
        exact S.inj _ _ _ _ _ _ _ e e' r1 r2
  · have hm' : m ≠ n := fun z => by rw [z, kset_same] at e; cases e
    rw [kset_ne hm'] at e
    show (if m = n then some p else ρ m) = none
    rw [if_neg hm']
    exact S.free m e
  · obtain ⟨N, hN⟩ := S.fin
    refine ⟨max N (n + 1), fun m hm' => ?_⟩
    rw [kset_ne (by omega)]
    exact hN m (by omega)
theorem StR.fresh (S : StR C F ρ κ H) : ∃ n, κ n = none := let ⟨N, h⟩ := S.fin; ⟨N, h N (Nat.le_refl _)⟩
/-- a cell is written -/
theorem StR.write (S : StR C F ρ κ H) {n : Nat} {a : Addr} {o : HO} {k k' : Kd} {xs xs' : List D} {vs' : List V} (hn : κ n = some (.live k xs)) (ha : ρ n = some a) (hm : ∀ H', H' a = some o → HoldM C H' k' a vs') (r : RepL C F ρ xs' vs') :
    StR C F ρ (kset κ n (.live k' xs')) (upd H a o) := by
  have fa : F a = none := by
    obtain ⟨b, vs, h1, h2, _⟩ := S.live n k xs hn
    rw [ha] at h1
    cases h1
    exact h2
  refine ⟨fun b u e => ?_, fun m k1 x1 e => ?_, fun m m' b k1 x1 k2 x2 e e' r1 r2 => ?_, fun m e => ?_, ?_⟩
  · rw [upd_ne (ne_of_none e fa)]; exact S.sub b u e
  · by_cases hm' : m = n
    · subst hm'
      rw [kset_same] at e
      cases e
      exact ⟨a, vs', ha, fa, hm _ upd_same, r⟩
    · rw [kset_ne hm'] at e
      obtain ⟨b, ws, h1, h2, h3, h4⟩ := S.live m k1 x1 e
      have ne : b ≠ a := fun z => hm' (S.inj m n a k1 x1 k xs e hn (z ▸ h1) ha)
      exact ⟨b, ws, h1, h2, h3.same (upd_ne ne), h4⟩
  · have key : ∀ {m k1 x1}, kset κ n (.live k' xs') m = some (.live k1 x1) → ∃ k2 x2, κ m = some (.live k2 x2) := by
      intro m k1 x1 e
      by_cases z : m = n
      · exact ⟨k, xs, z ▸ hn⟩
      · rw [kset_ne z] at e
        exact ⟨_, _, e⟩
    obtain ⟨_, _, q1⟩ := key e
    obtain ⟨_, _, q2⟩ := key e'
    exact S.inj _ _ _ _ _ _ _ q1 q2 r1 r2
  · have hm' : m ≠ n := fun z => by rw [z, kset_same] at e; cases e
    rw [kset_ne hm'] at e
    exact S.free m e
  · obtain ⟨N, hN⟩ := S.fin
    refine ⟨max N (n + 1), fun m hm' => ?_⟩
    rw [kset_ne (by omega)]
    exact hN m (by omega)
theorem HoldM.toK {k : Kd} {a : Addr} {vs : List V} (h : HoldM C H k a vs) : ∃ o, H a = some o ∧ ∀ F : Hp, F a = some o → HoldK C F k a vs := by
  cases k with
  | lst => exact ⟨_, h, fun F e => e⟩
  | dct ks => obtain ⟨kvs, h1, h2⟩ := h; exact ⟨_, h1, fun F e => ⟨kvs, e, h2⟩⟩
  | obj c ns => obtain ⟨ca, dx, fs, h0, h1, h2⟩ := h; exact ⟨_, h1, fun F e => ⟨ca, dx, fs, h0, e, h2⟩⟩
  | _ => exact h.elim
/-- a cell is kept from now on -/
theorem StR.freeze (S : StR C F ρ κ H) {n : Nat} {a : Addr} {k : Kd} {xs : List D} (hn : κ n = some (.live k xs)) (ha : ρ n = some a) :
    ∃ F', Ext F ρ F' ρ ∧ Rep C F' ρ (.node k xs) (.ref a) ∧ StR C F' ρ (kset κ n .dead) H := by
  obtain ⟨b, vs, h1, h2, h3, h4⟩ := S.live n k xs hn
  rw [ha] at h1
  cases h1
  obtain ⟨o, ho, hk⟩ := h3.toK
  have ex : Ext F ρ (upd F a o) ρ := ⟨fun b u e => by rw [upd_ne (ne_of_none e h2)]; exact e, fun _ _ e => e⟩
  refine ⟨upd F a o, ex, .node (hk _ upd_same) (h4.ext ex), ⟨fun b u e => ?_, fun m k1 x1 e => ?_, fun m m' b k1 x1 k2 x2 e e' r1 r2 => ?_, fun m e => ?_, ?_⟩⟩
  · by_cases hb : b = a
    · subst hb; rw [upd_same] at e; cases e; exact ho
    · rw [upd_ne hb] at e; exact S.sub b u e
  · have hm' : m ≠ n := fun z => by rw [z, kset_same] at e; cases e
    rw [kset_ne hm'] at e
    obtain ⟨b, ws, g1, g2, g3, g4⟩ := S.live m k1 x1 e
    have ne : b ≠ a := fun z => hm' (S.inj m n a k1 x1 k xs e hn (z ▸ g1) ha)
    exact ⟨b, ws, g1, by rw [upd_ne ne]; exact g2, g3, g4.ext ex⟩
  · have key : ∀ {m k1 x1}, kset κ n .dead m = some (.live k1 x1) → κ m = some (.live k1 x1) := by
      intro m k1 x1 e
      by_cases z : m = n
      · rw [z, kset_same] at e; cases e
      · rw [kset_ne z] at e; exact e
    exact S.inj _ _ _ _ _ _ _ (key e) (key e') r1 r2
  · have hm' : m ≠ n := fun z => by rw [z, kset_same] at e; cases e
    rw [kset_ne hm'] at e
    exact S.free m e
  · obtain ⟨N, hN⟩ := S.fin
    refine ⟨max N (n + 1), fun m hm' => ?_⟩
    rw [kset_ne (by omega)]
    exact hN m (by omega)
end
/-! ### slots -/
def RepS (C : Ctx) (F : Hp) (ρ : Loc0) (δ : DEnv) (σ : L2.St) : Prop := δ.length = σ.length ∧ ∀ (i : Nat) (d : D), δ[i]? = some (some d) → ∃ v : V, σ[i]? = some (some v) ∧ Rep C F ρ d v
section
variable {C : Ctx} {F F' : Hp} {ρ ρ' : Loc0} {δ : DEnv} {σ : L2.St}
theorem RepS.ext (e : Ext F ρ F' ρ') (h : RepS C F ρ δ σ) : RepS C F' ρ' δ σ := ⟨h.1, fun i d q => let ⟨v, a, b⟩ := h.2 i d q; ⟨v, a, b.ext e⟩⟩
theorem RepS.set (h : RepS C F ρ δ σ) {d : D} {v : V} (r : Rep C F ρ d v) (i : Nat) : RepS C F ρ (δ.set i (some d)) (σ.set i (some v)) := by
  refine ⟨by rw [List.length_set, List.length_set]; exact h.1, fun j e q => ?_⟩
  by_cases hj : i = j
  · subst hj
    by_cases hi : i < δ.length
    · rw [List.getElem?_set_self hi] at q
      cases q
      exact ⟨v, List.getElem?_set_self (h.1 ▸ hi), r⟩
    · rw [List.getElem?_eq_none (by simpa using hi)] at q; cases q
  · rw [List.getElem?_set_ne hj] at q ⊢
    exact h.2 j e q
theorem RepS.unset (h : RepS C F ρ δ σ) (i : Nat) : RepS C F ρ (δ.set i none) (σ.set i none) := by
  refine ⟨by rw [List.length_set, List.length_set]; exact h.1, fun j e q => ?_⟩
  by_cases hj : i = j
  · subst hj
    by_cases hi : i < δ.length
    · rw [List.getElem?_set_self hi] at q; cases q
    · rw [List.getElem?_eq_none (by simpa using hi)] at q; cases q
  · rw [List.getElem?_set_ne hj] at q ⊢
    exact h.2 j e q
def dwipe (δ : DEnv) : List Nat → DEnv
  | [] => δ
  | v :: vs => (dwipe δ vs).set v none
theorem RepS.wipe (h : RepS C F ρ δ σ) : ∀ vs : List Nat, RepS C F ρ (dwipe δ vs) (L2.wipe σ vs)
  | [] => h
  | v :: vs => (RepS.wipe h vs).unset v
end
/-- an exception: its class by name, its fields -/
structure RepX (C : Ctx) (F : Hp) (ρ : Loc0) (c : Str) (fs : List D) (cls : Value) (dd : Option Addr) : Prop where
  cls : C.mg c = some cls ∧ ∃ a, cls = .ref a
  fs : ∃ vs, RepL C F ρ fs vs ∧ ((vs = [] ∧ dd = none) ∨ ∃ d ns, dd = some d ∧ F d = some (.xd ns) ∧ vs = xflat ns)
theorem RepX.ext {C : Ctx} {F F' : Hp} {ρ ρ' : Loc0} (e : Ext F ρ F' ρ') {c : Str} {fs : List D} {cls : Value} {dd : Option Addr} (h : RepX C F ρ c fs cls dd) : RepX C F' ρ' c fs cls dd := by
  obtain ⟨h1, vs, h2, h3⟩ := h
  refine ⟨h1, vs, h2.ext e, ?_⟩
  rcases h3 with h3 | ⟨d, ns, h3, h4, h5⟩
  · exact .inl h3
  · exact .inr ⟨d, ns, h3, e.f _ _ h4, h5⟩
/-! ### posts -/
def Post (C : Ctx) (F : Hp) (ρ : Loc0) (QD : DQ) (Q : VK) : Prop := ∀ F' ρ' κ' H' d v, Ext F ρ F' ρ' → StR C F' ρ' κ' H' → Rep C F' ρ' d v → QD d κ' → Q v H'
def PostT (C : Ctx) (F : Hp) (ρ : Loc0) (QD : Bool → Kap → Prop) (Q : Bool → Hp → Prop) : Prop := ∀ F' ρ' κ' H' b, Ext F ρ F' ρ' → StR C F' ρ' κ' H' → QD b κ' → Q b H'
def PostA (C : Ctx) (F : Hp) (ρ : Loc0) (QD : List D → Kap → Prop) (Q : List V → Hp → Prop) : Prop := ∀ F' ρ' κ' H' ds vs, Ext F ρ F' ρ' → StR C F' ρ' κ' H' → RepL C F' ρ' ds vs → QD ds κ' → Q vs H'
def PostN (C : Ctx) (F : Hp) (ρ : Loc0) (QD : DEnv → Kap → Prop) (Q : L2.St → Hp → Prop) : Prop := ∀ F' ρ' κ' H' δ σ, Ext F ρ F' ρ' → StR C F' ρ' κ' H' → RepS C F' ρ' δ σ → QD δ κ' → Q σ H'
def PostX (C : Ctx) (F : Hp) (ρ : Loc0) (XD : DX) (W : WX) : Prop := ∀ F' ρ' κ' H' δ σ c fs cls dd, Ext F ρ F' ρ' → StR C F' ρ' κ' H' → RepS C F' ρ' δ σ → RepX C F' ρ' c fs cls dd → XD δ c fs κ' → W cls dd σ H'
structure PostE (C : Ctx) (F : Hp) (ρ : Loc0) (DD : DEnds) (T : Ends) : Prop where
  nx : PostN C F ρ DD.nx T.nx
  rt : Post C F ρ DD.rt T.rt
  bk : PostN C F ρ DD.bk T.bk
  ct : PostN C F ρ DD.ct T.ct
section
variable {C : Ctx} {F F' : Hp} {ρ ρ' : Loc0}
theorem Post.ext (e : Ext F ρ F' ρ') {QD : DQ} {Q : VK} (h : Post C F ρ QD Q) : Post C F' ρ' QD Q := fun F2 ρ2 κ H d v e2 => h F2 ρ2 κ H d v (e.trans e2)
theorem PostT.ext (e : Ext F ρ F' ρ') {QD : Bool → Kap → Prop} {Q : Bool → Hp → Prop} (h : PostT C F ρ QD Q) : PostT C F' ρ' QD Q := fun F2 ρ2 κ H d e2 => h F2 ρ2 κ H d (e.trans e2)
theorem PostA.ext (e : Ext F ρ F' ρ') {QD : List D → Kap → Prop} {Q : List V → Hp → Prop} (h : PostA C F ρ QD Q) : PostA C F' ρ' QD Q := fun F2 ρ2 κ H d v e2 => h F2 ρ2 κ H d v (e.trans e2)
theorem PostN.ext (e : Ext F ρ F' ρ') {QD : DEnv → Kap → Prop} {Q : L2.St → Hp → Prop} (h : PostN C F ρ QD Q) : PostN C F' ρ' QD Q := fun F2 ρ2 κ H d v e2 => h F2 ρ2 κ H d v (e.trans e2)
theorem PostX.ext (e : Ext F ρ F' ρ') {XD : DX} {W : WX} (h : PostX C F ρ XD W) : PostX C F' ρ' XD W := fun F2 ρ2 κ H a b c d x y e2 => h F2 ρ2 κ H a b c d x y (e.trans e2)
theorem PostE.ext (e : Ext F ρ F' ρ') {DD : DEnds} {T : Ends} (h : PostE C F ρ DD T) : PostE C F' ρ' DD T := ⟨h.nx.ext e, h.rt.ext e, h.bk.ext e, h.ct.ext e⟩
end
/-! ### lifts -/
def liftE (C : Ctx) (W : WX) (de : DE) : TE := fun σ H Q => ∃ F ρ κ δ XD QD, StR C F ρ κ H ∧ RepS C F ρ δ σ ∧ de δ κ XD QD ∧ Post C F ρ QD Q ∧ PostX C F ρ XD W
def liftT (C : Ctx) (W : WX) (dt : DT) : TT := fun σ H Q => ∃ F ρ κ δ XD QD, StR C F ρ κ H ∧ RepS C F ρ δ σ ∧ dt δ κ XD QD ∧ PostT C F ρ QD Q ∧ PostX C F ρ XD W
def liftA (C : Ctx) (W : WX) (da : DA) : TA := fun σ H Q => ∃ F ρ κ δ XD QD, StR C F ρ κ H ∧ RepS C F ρ δ σ ∧ da δ κ XD QD ∧ PostA C F ρ QD Q ∧ PostX C F ρ XD W
def liftS (C : Ctx) (W : WX) (ds : DS) : TS := fun T σ H => ∃ F ρ κ δ XD DD, StR C F ρ κ H ∧ RepS C F ρ δ σ ∧ ds δ κ XD DD ∧ PostE C F ρ DD T ∧ PostX C F ρ XD W
abbrev CtxOf (X : Cx) : Ctx := ⟨X.K, X.mg⟩
abbrev PED (X : Cx) (W : WX) (e : Expr) (de : DE) : Prop := PE X e (liftE (CtxOf X) W de)
abbrev PTD (X : Cx) (W : WX) (e : Expr) (dt : DT) : Prop := PT X e (liftT (CtxOf X) W dt)
abbrev PAD (X : Cx) (W : WX) (es : List Expr) (da : DA) : Prop := PA X es (liftA (CtxOf X) W da)
abbrev PSD (X : Cx) (W : WX) (st : Stmt) (ds : DS) : Prop := PS X st (liftS (CtxOf X) W ds)
abbrev PSsD (X : Cx) (W : WX) (st : List Stmt) (ds : DS) : Prop := PSs X st (liftS (CtxOf X) W ds)
section
variable {X : Cx}
theorem pe_weak {e : Expr} {t t' : TE} (h : PE X e t) (w : ∀ σ H Q, t' σ H Q → t σ H Q) : PE X e t' := ⟨fun pins s σ H Q I q => h.run pins s σ H Q I (w σ H Q q)⟩
theorem pt_weak {e : Expr} {t t' : TT} (h : PT X e t) (w : ∀ σ H Q, t' σ H Q → t σ H Q) : PT X e t' := ⟨fun pins s σ H Q I q => h.run pins s σ H Q I (w σ H Q q)⟩
theorem pa_weak {e : List Expr} {t t' : TA} (h : PA X e t) (w : ∀ σ H Q, t' σ H Q → t σ H Q) : PA X e t' := ⟨fun pos pins s σ H Q I q => h.run pos pins s σ H Q I (w σ H Q q)⟩
theorem ps_weak {e : Stmt} {t t' : TS} (h : PS X e t) (w : ∀ T σ H, t' T σ H → t T σ H) : PS X e t' := ⟨fun pins s σ H T I q => h.run pins s σ H T I (w T σ H q)⟩
theorem pss_weak {e : List Stmt} {t t' : TS} (h : PSs X e t) (w : ∀ T σ H, t' T σ H → t T σ H) : PSs X e t' := ⟨fun pins s σ H T I q => h.run pins s σ H T I (w T σ H q)⟩
end
end DL
/-! DL: expressions. -/
namespace DL
open PySem PySem.Spec PyProof.Rows L2
abbrev D1 := D → Kap → DQ → Prop
abbrev D2 := D → D → Kap → DQ → Prop
abbrev DN := List D → Kap → DQ → Prop
abbrev D1N := D → List D → Kap → DQ → Prop
def Sim2 (C : Ctx) (f : D2) (r : R2) : Prop := ∀ F ρ κ H x y v u QD Q, StR C F ρ κ H → Rep C F ρ x v → Rep C F ρ y u → f x y κ QD → Post C F ρ QD Q → r v u H Q
def SimN (C : Ctx) (f : DN) (r : List V → Hp → VK → Prop) : Prop := ∀ F ρ κ H xs vs QD Q, StR C F ρ κ H → RepL C F ρ xs vs → f xs κ QD → Post C F ρ QD Q → r vs H Q
def Sim1N (C : Ctx) (f : D1N) (r : V → List V → Hp → VK → Prop) : Prop := ∀ F ρ κ H x v xs vs QD Q, StR C F ρ κ H → Rep C F ρ x v → RepL C F ρ xs vs → f x xs κ QD → Post C F ρ QD Q → r v vs H Q
/-! ### combinators -/
def dVar (i : Nat) : DE := fun δ κ _ Q => match δ[i]? with
  | some (some d) => Q d κ
  | _ => False
def dC (d : D) : DE := fun _ κ _ Q => Q d κ
def dOp (f : D2) (a b : DE) : DE := fun δ κ X Q => a δ κ X fun x κ1 => b δ κ1 X fun y κ2 => f x y κ2 Q
def dUn (f : D1) (a : DE) : DE := fun δ κ X Q => a δ κ X fun x κ1 => f x κ1 Q
def dNil : DA := fun _ κ _ Q => Q [] κ
def dCons (a : DE) (r : DA) : DA := fun δ κ X Q => a δ κ X fun x κ1 => r δ κ1 X fun xs κ2 => Q (x :: xs) κ2
def dB (f : DN) (as : DA) : DE := fun δ κ X Q => as δ κ X fun xs κ1 => f xs κ1 Q
/-- what is new: kept (false), or a cell (true) -/
def fNew (m : Bool) (k : Kd) (xs : List D) (κ : Kap) (Q : DQ) : Prop := match m with
  | false => Q (.node k xs) κ
  | true => ∀ n, κ n = none → Q (.cell n) (kset κ n (.live k xs))
def dTup (as : DA) : DE := fun δ κ X Q => as δ κ X fun xs κ1 => xs.length ≤ sizeLine ∧ Q (.tup xs) κ1
def dLst (m : Bool) (as : DA) : DE := fun δ κ X Q => as δ κ X fun xs κ1 => xs.length ≤ sizeLine ∧ fNew m .lst xs κ1 Q
/-- what a thing holds -/
def view (x : D) (κ : Kap) : Option (Kd × List D) := match x with
  | .node k xs => some (k, xs)
  | .cell n => match κ n with
    | some (.live k xs) => some (k, xs)
    | _ => none
  | _ => none
def truth (x : D) (κ : Kap) : Option Bool := match x with
  | .non => some false
  | .bl b => some b
  | .int i => some (i != 0)
  | .str y => if y.length ≤ sizeLine then some ((y.length : Int) != 0) else none
  | x => match view x κ with
    | some (.lst, xs) => some (!xs.isEmpty)
    | some (.tup, xs) => some (!xs.isEmpty)
    | some (.dct ks, _) => some (!ks.isEmpty)
    | _ => none
def withTruth (x : D) (κ : Kap) (P : Bool → Prop) : Prop := match truth x κ with
  | some b => P b
  | none => False
def dAnd (a b : DE) : DE := fun δ κ X Q => a δ κ X fun x κ1 => withTruth x κ1 fun t => if t = true then b δ κ1 X Q else Q x κ1
def dOr (a b : DE) : DE := fun δ κ X Q => a δ κ X fun x κ1 => withTruth x κ1 fun t => if t = true then Q x κ1 else b δ κ1 X Q
def dNot (a : DE) : DE := fun δ κ X Q => a δ κ X fun x κ1 => withTruth x κ1 fun t => Q (.bl (!t)) κ1
def dIf (t : DT) (a b : DE) : DE := fun δ κ X Q => t δ κ X fun k κ1 => if k = true then a δ κ1 X Q else b δ κ1 X Q
def dChain (f g : D2) (a b c : DE) : DE := fun δ κ X Q => a δ κ X fun x κ1 => b δ κ1 X fun y κ2 => f x y κ2 fun z κ3 => ∃ k, z = .bl k ∧ if k = true then c δ κ3 X (fun w κ4 => g y w κ4 Q) else Q (.bl false) κ3
/-! tests -/
def tTru (a : DE) : DT := fun δ κ X Q => a δ κ X fun x κ1 => withTruth x κ1 fun t => Q t κ1
def tBl (a : DE) : DT := fun δ κ X Q => a δ κ X fun x κ1 => ∃ k, x = .bl k ∧ Q k κ1
def tAndD (a b : DT) : DT := fun δ κ X Q => a δ κ X fun t κ1 => if t = true then b δ κ1 X Q else Q false κ1
def tOrD (a b : DT) : DT := fun δ κ X Q => a δ κ X fun t κ1 => if t = true then Q true κ1 else b δ κ1 X Q
def tNotD (a : DT) : DT := fun δ κ X Q => a δ κ X fun t κ1 => Q (!t) κ1
/-! ### lifts of combinators -/
section
variable {C : Ctx} {W : WX} {σ : L2.St} {H : Hp} {Q : VK} {a b c : DE}
theorem lift_op {f : D2} {r : R2} (hs : Sim2 C f r) (h : liftE C W (dOp f a b) σ H Q) : tOp r (liftE C W a) (liftE C W b) σ H Q := by
  obtain ⟨F, ρ, κ, δ, XD, QD, S, R, h, P, PX⟩ := h
  exact ⟨F, ρ, κ, δ, XD, _, S, R, h, fun F1 ρ1 κ1 H1 x v e1 S1 R1 h1 => ⟨F1, ρ1, κ1, δ, XD, _, S1, R.ext e1, h1, fun F2 ρ2 κ2 H2 y u e2 S2 R2 h2 => hs _ _ _ _ _ _ _ _ _ _ S2 (R1.ext e2) R2 h2 (P.ext (e1.trans e2)), PX.ext e1⟩, PX⟩
theorem lift_nil {Q : List V → Hp → Prop} (h : liftA C W dNil σ H Q) : tNil σ H Q := by
  obtain ⟨F, ρ, κ, δ, XD, QD, S, R, h, P, PX⟩ := h
  exact P _ _ _ _ _ _ (Ext.refl _ _) S .nil h
theorem lift_cons {r : DA} {Q : List V → Hp → Prop} (h : liftA C W (dCons a r) σ H Q) : tCons (liftE C W a) (liftA C W r) σ H Q := by
  obtain ⟨F, ρ, κ, δ, XD, QD, S, R, h, P, PX⟩ := h
  exact ⟨F, ρ, κ, δ, XD, _, S, R, h, fun F1 ρ1 κ1 H1 x v e1 S1 R1 h1 => ⟨F1, ρ1, κ1, δ, XD, _, S1, R.ext e1, h1, fun F2 ρ2 κ2 H2 ys us e2 S2 R2 h2 => P _ _ _ _ _ _ (e1.trans e2) S2 (.cons (R1.ext e2) R2) h2, PX.ext e1⟩, PX⟩
theorem lift_B {f : DN} {r : List V → Hp → VK → Prop} {as : DA} (hs : SimN C f r) (h : liftE C W (dB f as) σ H Q) : tCB r (liftA C W as) σ H Q := by
  obtain ⟨F, ρ, κ, δ, XD, QD, S, R, h, P, PX⟩ := h
  exact ⟨F, ρ, κ, δ, XD, _, S, R, h, fun F1 ρ1 κ1 H1 x v e1 S1 R1 h1 => hs _ _ _ _ _ _ _ _ S1 R1 h1 (P.ext e1), PX⟩
end
/-! ### new things -/
section
variable {C : Ctx} {F : Hp} {ρ : Loc0} {κ : Kap} {H : Hp} {Q : VK} {QD : DQ}
/-- what is new: o is the object, by its content -/
theorem new_of {m : Bool} {k : Kd} {o : HO} {xs : List D} {vs : List V} (S : StR C F ρ κ H) (r : RepL C F ρ xs vs) (hk : ∀ (F : Hp) (p : Addr), F p = some o → HoldK C F k p vs) (hm : ∀ (F : Hp) (p : Addr), F p = some o → HoldM C F k p vs) (h : fNew m k xs κ QD) (P : Post C F ρ QD Q) :
    ∀ p, H p = none → Q (.ref p) (upd H p o) := fun p hp => by
  cases m with
  | false =>
    obtain ⟨e, S1⟩ := S.laid (o := o) hp
    exact P _ _ _ _ _ _ e S1 (.node (hk _ _ upd_same) (r.ext e)) h
  | true =>
    obtain ⟨n, hn⟩ := S.fresh
    obtain ⟨ρ', e, hr, S1⟩ := S.cell (o := o) hp (fun H' q => hm H' p q) r hn
    exact P _ _ _ _ _ _ e S1 (.cell hr) (h n hn)
theorem new_lst {m : Bool} {xs : List D} {vs : List V} (S : StR C F ρ κ H) (r : RepL C F ρ xs vs) (h : fNew m .lst xs κ QD) (P : Post C F ρ QD Q) : ∀ p, H p = none → Q (.ref p) (upd H p (.lst vs)) :=
  new_of (k := .lst) S r (fun _ _ e => e) (fun _ _ e => e) h P
theorem new_tup {xs : List D} {vs : List V} (S : StR C F ρ κ H) (r : RepL C F ρ xs vs) (h : QD (.tup xs) κ) (P : Post C F ρ QD Q) : ∀ p, H p = none → Q (.ref p) (upd H p (.tup vs)) := fun p hp => by
  obtain ⟨e, S1⟩ := S.laid (o := .tup vs) hp
  exact P _ _ _ _ _ _ e S1 (.node (k := .tup) (SqT.of upd_same) (r.ext e)) h
/-- a kept thing, or a cell, as it lies in the heap -/
theorem view_at {x : D} {v : V} {k : Kd} {xs : List D} (S : StR C F ρ κ H) (r : Rep C F ρ x v) (h : view x κ = some (k, xs)) : ∃ a vs, v = .ref a ∧ HoldK C H k a vs ∧ RepL C F ρ xs vs := by
  cases r with
  | node hh rr =>
    cases h
    exact ⟨_, _, rfl, hh.ext S.sub, rr⟩
  | @cell n a hr =>
    have h' : (match κ n with
      | some (.live k xs) => some (k, xs)
      | _ => none) = some (k, xs) := h
    cases e : κ n with
    | none => rw [e] at h'; cases h'
    | some c =>
      cases c with
      | dead => rw [e] at h'; cases h'
      | live k' xs' =>
        rw [e] at h'
        cases h'
        obtain ⟨b, vs, h1, h2, h3, h4⟩ := S.live n k xs e
        rw [hr] at h1
        cases h1
        obtain ⟨o, ho, hk⟩ := h3.toK
        exact ⟨a, vs, rfl, hk H ho, h4⟩
  | _ => cases h
/-- a cell, as it may be written -/
theorem cell_at {n : Nat} {v : V} {k : Kd} {xs : List D} (S : StR C F ρ κ H) (r : Rep C F ρ (.cell n) v) (h : κ n = some (.live k xs)) : ∃ a vs, v = .ref a ∧ ρ n = some a ∧ HoldM C H k a vs ∧ RepL C F ρ xs vs := by
  cases r with
  | @cell n a hr =>
    obtain ⟨b, vs, h1, h2, h3, h4⟩ := S.live n k xs h
    rw [hr] at h1
    cases h1
    exact ⟨a, vs, rfl, hr, h3, h4⟩
theorem truth_at {x : D} {v : V} {t : Bool} (S : StR C F ρ κ H) (r : Rep C F ρ x v) (h : truth x κ = some t) : TruV C.K v H t := by
  have key : ∀ {x : D} {v : V}, Rep C F ρ x v → (match view x κ with
    | some (.lst, xs) => some (!xs.isEmpty)
    | some (.tup, xs) => some (!xs.isEmpty)
    | some (.dct ks, _) => some (!ks.isEmpty)
    | _ => none) = some t → TruV C.K v H t := by
    intro x v r h
    cases e : view x κ with
    | none => rw [e] at h; cases h
    | some p =>
      obtain ⟨k, xs⟩ := p
      obtain ⟨a, vs, rfl, hk, rl⟩ := view_at S r e
      have el : xs.isEmpty = vs.isEmpty := by
        have := rl.length
        cases xs <;> cases vs <;> first | rfl | (simp at this)
      rw [e] at h
      cases k with
      | lst => cases h; exact .inl ⟨vs, SqL.of hk, by rw [el]⟩
      | tup => cases h; exact .inr (.inl ⟨vs, hk, by rw [el]⟩)
      | dct ks =>
        cases h
        obtain ⟨kvs, h1, rfl, h3⟩ := hk
        exact .inr (.inr ⟨kvs, h1, by cases kvs <;> rfl⟩)
      | _ => cases h
  cases x with
  | non => cases r; cases h; rfl
  | bl b => cases r; cases h; rfl
  | int i => cases r; cases h; rfl
  | str y =>
    cases r
    have h' : (if y.length ≤ sizeLine then some ((y.length : Int) != 0) else none) = some t := h
    by_cases hy : y.length ≤ sizeLine
    · rw [if_pos hy] at h'
      cases h'
      exact ⟨hy, rfl⟩
    · rw [if_neg hy] at h'; cases h'
  | node k xs => exact key r h
  | cell n => exact key r h
  | _ => cases h
theorem withTruth_at {x : D} {v : V} {P : Bool → Prop} (S : StR C F ρ κ H) (r : Rep C F ρ x v) (h : withTruth x κ P) : ∃ t, TruV C.K v H t ∧ P t := by
  unfold withTruth at h
  cases e : truth x κ with
  | none => rw [e] at h; exact h.elim
  | some t => rw [e] at h; exact ⟨t, truth_at S r e, h⟩
end
/-! ### expressions' rules -/
section
variable {X : Cx} {W : WX} {e e1 e2 e3 : Expr} {es : List Expr} {a b c : DE} {as : DA} {t u : DT} {pos : Pos}
theorem pd_var (i : Nat) {x : Str} {pos : Pos} (hN : X.N[i]? = some x := by rfl) (hv : Vis X.env.scope x := by first | exact Or.inl rfl | exact Or.inr (Or.inl rfl) | exact Or.inr (Or.inr rfl)) (hd : (x == ("__debug__" : Str)) = false := by decide)
    (hcd : (x == ("__classdict__" : Str)) = false := by decide) : PED X W (.Name x pos) (dVar i) := pe_weak (pe_var hN hv hd hcd) fun σ H Q ⟨F, ρ, κ, δ, XD, QD, S, R, h, P, PX⟩ => by
  unfold dVar at h
  cases e : δ[i]? with
  | none => rw [e] at h; exact h.elim
  | some o =>
    cases o with
    | none => rw [e] at h; exact h.elim
    | some d =>
      rw [e] at h
      obtain ⟨v, h1, h2⟩ := R.2 i d e
      exact ⟨v, h1, P _ _ _ _ _ _ (Ext.refl _ _) S h2 h⟩
theorem pd_c {d : D} {v : V} (h : PE X e (tC v)) (r : ∀ F ρ, Rep (CtxOf X) F ρ d v) : PED X W e (dC d) := pe_weak h fun σ H Q ⟨F, ρ, κ, δ, XD, QD, S, R, h, P, PX⟩ => P _ _ _ _ _ _ (Ext.refl _ _) S (r _ _) h
theorem pd_int {i j pos} : PED X W (.Constant (.int i) j pos) (dC (.int i)) := pd_c pe_int fun _ _ => .int i
theorem pd_bl {b j pos} : PED X W (.Constant (.bool b) j pos) (dC (.bl b)) := pd_c pe_bl fun _ _ => .bl b
theorem pd_non {j pos} : PED X W (.Constant .none j pos) (dC .non) := pd_c pe_non fun _ _ => .non
theorem pd_str {x j pos} : PED X W (.Constant (.str x) j pos) (dC (.str x)) := pd_c pe_str fun _ _ => .str x
theorem pd_op {op : Operator} {f : D2} {r : R2} (ho : OpR X (binaryOp op) r) (hs : Sim2 (CtxOf X) f r) (ha : PED X W e1 a) (hb : PED X W e2 b) : PED X W (.BinOp e1 op e2 pos) (dOp f a b) := pe_weak (pe_op ho ha hb) fun _ _ _ => lift_op hs
theorem pd_cmp {op : CmpOp} {f : D2} {r : R2} (ho : OpR X (compareOp op) r) (hs : Sim2 (CtxOf X) f r) (ha : PED X W e1 a) (hb : PED X W e2 b) (hm : behindInMarks op e2 = false := by first | exact nomark _ | rfl) : PED X W (.Compare e1 [op] [e2] pos) (dOp f a b) := pe_weak (pe_cmpR ho ha hb hm) fun _ _ _ => lift_op hs
theorem pa_nilD : PAD X W [] dNil := pa_weak pa_nil fun _ _ _ => lift_nil
theorem pa_consD (ha : PED X W e a) (hr : PAD X W es as) (hs : starEach (e :: es) X.env = (false, eval e X.env) :: starEach es X.env := by rfl) : PAD X W (e :: es) (dCons a as) := pa_weak (pa_cons ha hr hs) fun _ _ _ => lift_cons
theorem pd_tup {x1} (h : PAD X W es as) : PED X W (.Tuple es x1 pos) (dTup as) := pe_weak (pe_tup h) fun σ H Q ⟨F, ρ, κ, δ, XD, QD, S, R, h, P, PX⟩ =>
  ⟨F, ρ, κ, δ, XD, _, S, R, h, fun F1 ρ1 κ1 H1 xs vs e1 S1 R1 h1 => ⟨by rw [← R1.length]; exact h1.1, new_tup S1 R1 h1.2 (P.ext e1)⟩, PX⟩
theorem pd_lst (m : Bool) (h : PAD X W es as) : PED X W (.List es pos) (dLst m as) := pe_weak (pe_lst h) fun σ H Q ⟨F, ρ, κ, δ, XD, QD, S, R, h, P, PX⟩ =>
  ⟨F, ρ, κ, δ, XD, _, S, R, h, fun F1 ρ1 κ1 H1 xs vs e1 S1 R1 h1 => ⟨by rw [← R1.length]; exact h1.1, new_lst S1 R1 h1.2 (P.ext e1)⟩, PX⟩
theorem pd_if (ht : PTD X W e1 t) (ha : PED X W e2 a) (hb : PED X W e3 b) : PED X W (.IfExp e1 e2 e3 pos) (dIf t a b) := pe_weak (pe_ifExp ht ha hb) fun σ H Q ⟨F, ρ, κ, δ, XD, QD, S, R, h, P, PX⟩ =>
  ⟨F, ρ, κ, δ, XD, _, S, R, h, fun F1 ρ1 κ1 H1 k e1 S1 h1 => by
    cases k with
    | true => exact ⟨F1, ρ1, κ1, δ, XD, _, S1, R.ext e1, h1, P.ext e1, PX.ext e1⟩
    | false => exact ⟨F1, ρ1, κ1, δ, XD, _, S1, R.ext e1, h1, P.ext e1, PX.ext e1⟩, PX⟩
/-! tests -/
theorem lift_tBl {C : Ctx} {te : TE} {de : DE} (hl : ∀ {σ H Q}, liftE C W de σ H Q → te σ H Q) {σ : L2.St} {H : Hp} {Q : Bool → Hp → Prop} (h : liftT C W (tBl de) σ H Q) : tTest te σ H Q := by
  obtain ⟨F, ρ, κ, δ, XD, QD, S, R, h, P, PX⟩ := h
  refine hl ⟨F, ρ, κ, δ, XD, _, S, R, h, fun F1 ρ1 κ1 H1 x v e1 S1 R1 h1 => ?_, PX⟩
  obtain ⟨k, rfl, q⟩ := h1
  cases R1
  exact ⟨k, rfl, P _ _ _ _ _ e1 S1 q⟩
theorem pt_cmpD {op : CmpOp} {f : D2} {r : R2} (ho : OpR X (compareOp op) r) (hs : Sim2 (CtxOf X) f r) (ha : PED X W e1 a) (hb : PED X W e2 b) (hm : behindInMarks op e2 = false := by first | exact nomark _ | rfl) : PTD X W (.Compare e1 [op] [e2] pos) (tBl (dOp f a b)) :=
  pt_weak (pt_cmpR ho ha hb hm) fun _ _ _ => lift_tBl (lift_op hs)
theorem pt_truD (ha : PED X W e a) (he : ∀ whole, isTrue e X.env whole = (do let v ← whole; standAt e.pos; holding [v] (truthy v)) := by intro _; rfl) : PTD X W e (tTru a) := pt_weak (pt_truth ha he) fun σ H Q ⟨F, ρ, κ, δ, XD, QD, S, R, h, P, PX⟩ =>
  ⟨F, ρ, κ, δ, XD, _, S, R, h, fun F1 ρ1 κ1 H1 x v e1 S1 R1 h1 => by
    obtain ⟨t, ht, q⟩ := withTruth_at S1 R1 h1
    exact ⟨t, ht, P _ _ _ _ _ e1 S1 q⟩, PX⟩
theorem pt_notD (ha : PTD X W e t) : PTD X W (.UnaryOp .Not e pos) (tNotD t) := pt_weak (pt_not ha) fun σ H Q ⟨F, ρ, κ, δ, XD, QD, S, R, h, P, PX⟩ =>
  ⟨F, ρ, κ, δ, XD, _, S, R, h, fun F1 ρ1 κ1 H1 x e1 S1 h1 => P _ _ _ _ _ e1 S1 h1, PX⟩
abbrev PWD (X : Cx) (W : WX) (e : Expr) (dt : DT) : Prop := PW X e (liftT (CtxOf X) W dt)
theorem pw_weak {e : Expr} {t t' : TT} (h : PW X e t) (w : ∀ σ H Q, t' σ H Q → t σ H Q) : PW X e t' := ⟨fun wh pins s σ H Q I q => h.run wh pins s σ H Q I (w σ H Q q)⟩
theorem pw_and1D (ha : PTD X W e t) : PWD X W (.BoolOp .And [e] pos) t := pw_and1 ha
theorem pw_or1D (ha : PTD X W e t) : PWD X W (.BoolOp .Or [e] pos) t := pw_or1 ha
theorem pw_andD (ha : PTD X W e1 t) (hb : PWD X W (.BoolOp .And (e2 :: es) pos) u) : PWD X W (.BoolOp .And (e1 :: e2 :: es) pos) (tAndD t u) := pw_weak (pw_and ha hb) fun σ H Q ⟨F, ρ, κ, δ, XD, QD, S, R, h, P, PX⟩ =>
  ⟨F, ρ, κ, δ, XD, _, S, R, h, fun F1 ρ1 κ1 H1 k e1 S1 h1 => by
    cases k with
    | true => exact ⟨F1, ρ1, κ1, δ, XD, _, S1, R.ext e1, h1, P.ext e1, PX.ext e1⟩
    | false => exact P _ _ _ _ _ e1 S1 h1, PX⟩
theorem pw_orD (ha : PTD X W e1 t) (hb : PWD X W (.BoolOp .Or (e2 :: es) pos) u) : PWD X W (.BoolOp .Or (e1 :: e2 :: es) pos) (tOrD t u) := pw_weak (pw_or ha hb) fun σ H Q ⟨F, ρ, κ, δ, XD, QD, S, R, h, P, PX⟩ =>
  ⟨F, ρ, κ, δ, XD, _, S, R, h, fun F1 ρ1 κ1 H1 k e1 S1 h1 => by
    cases k with
    | true => exact P _ _ _ _ _ e1 S1 h1
    | false => exact ⟨F1, ρ1, κ1, δ, XD, _, S1, R.ext e1, h1, P.ext e1, PX.ext e1⟩, PX⟩
/-! built-ins by name -/
theorem pd_callB {x : Str} {p : Pos} {id : String} {f : DN} {r : List V → Hp → VK → Prop} (hc : CallR X (.builtin id) r) (hs : SimN (CtxOf X) f r) (hm : X.mg x = none) (ha : PAD X W (e :: es) as) (hg : Gl X x := by rfl) (hv : bootBuiltins x = some (.builtin id) := by decide +kernel) (hn : x ≠ "__name__" := by decide) (hdb : (x == ("__debug__" : Str)) = false := by decide)
    (he : starEach (e :: es) X.env = (false, eval e X.env) :: starEach es X.env := by rfl) (hpl : (backTo pos (starEach es X.env)).any (·.1) = false := by rfl) : PED X W (.Call (.Name x p) (e :: es) [] pos) (dB f as) :=
  pe_weak (pe_callB hc hg hm hv ha hn hdb he hpl) fun _ _ _ => lift_B hs
theorem pd_callTy {x : Str} {p : Pos} {T : String} {f : DN} {r : List V → Hp → VK → Prop} (hc : CallR X (.type T) r) (hs : SimN (CtxOf X) f r) (hm : X.mg x = none) (ha : PAD X W (e :: es) as) (hg : Gl X x := by rfl) (hv : bootBuiltins x = some (.type T) := by decide +kernel) (hn : x ≠ "__name__" := by decide) (hdb : (x == ("__debug__" : Str)) = false := by decide)
    (he : starEach (e :: es) X.env = (false, eval e X.env) :: starEach es X.env := by rfl) (hpl : (backTo pos (starEach es X.env)).any (·.1) = false := by rfl) : PED X W (.Call (.Name x p) (e :: es) [] pos) (dB f as) :=
  pe_weak (pe_callTy hc hg hm hv ha hn hdb he hpl) fun _ _ _ => lift_B hs
theorem pd_tyName {x : Str} {p : Pos} {T : String} (hm : X.mg x = none) (hg : Gl X x := by rfl) (hv : bootBuiltins x = some (.type T) := by decide +kernel) (hn : x ≠ "__name__" := by decide) (hdb : (x == ("__debug__" : Str)) = false := by decide) : PED X W (.Name x p) (dC (.ty T)) :=
  pd_c (v := .ty T) (pe_bltn hg hm hv rfl hn hdb) fun _ _ => .ty T
theorem pd_glbRef {x : Str} {p : Pos} {f : Addr} (hm : X.mg x = some (.ref f)) (hg : Gl X x := by rfl) (hdb : (x == ("__debug__" : Str)) = false := by decide) : PED X W (.Name x p) (dC (.glb x)) :=
  pd_c (v := .ref f) (pe_glob hg hm rfl hdb) fun _ _ => .glb hm
end
/-! ### operators over data -/
theorem OpR.or {X : Cx} {f : Value → Value → Sem Value} {r r' : R2} (h : OpR X f r) (h' : OpR X f r') : OpR X f (fun x y H Q => r x y H Q ∨ r' x y H Q) := by
  intro pins s σ H x y v u Q I rx ry q
  rcases q with q | q
  · exact h pins s σ H x y v u Q I rx ry q
  · exact h' pins s σ H x y v u Q I rx ry q
theorem CallR.or {X : Cx} {f : Value} {r r' : List V → Hp → VK → Prop} (h : CallR X f r) (h' : CallR X f r') : CallR X f (fun xs H Q => r xs H Q ∨ r' xs H Q) := by
  intro pins s σ H xs us Q I rx q
  rcases q with q | q
  · exact h pins s σ H xs us Q I rx q
  · exact h' pins s σ H xs us Q I rx q
/-- two whole numbers, under a condition -/
def fI (c : Int → Int → Prop) (g : Int → Int → D) : D2 := fun x y κ Q => match x, y with
  | .int i, .int j => c i j ∧ Q (g i j) κ
  | _, _ => False
theorem sim_I {C : Ctx} {c : Int → Int → Prop} {g : Int → Int → Int} : Sim2 C (fI c fun i j => .int (g i j)) (rI c fun i j => .int (g i j)) := by
  intro F ρ κ H x y v u QD Q S rx ry h P
  cases x <;> cases y <;> first | exact h.elim | skip
  cases rx; cases ry
  exact ⟨_, _, rfl, rfl, h.1, P _ _ _ _ _ _ (Ext.refl _ _) S (.int _) h.2⟩
theorem sim_I0 {C : Ctx} {g : Int → Int → Int} : Sim2 C (fI (fun _ _ => True) fun i j => .int (g i j)) (rI0 fun i j => .int (g i j)) := by
  intro F ρ κ H x y v u QD Q S rx ry h P
  cases x <;> cases y <;> first | exact h.elim | skip
  cases rx; cases ry
  exact ⟨_, _, rfl, rfl, P _ _ _ _ _ _ (Ext.refl _ _) S (.int _) h.2⟩
/-- a floor division's divisor -/
def CDivD (_ j : Int) : Prop := j ≠ 0 ∧ j.natAbs.log2 < 9000
theorem op_fdivD {X : Cx} : OpR X (binaryOp .FloorDiv) (rI CDivD fun i j => .int (i.fdiv j)) := opI fun _ _ _ _ _ _ _ hc q => floordiv_int hc.1 q (.inl (PyProof.noPylong_of_log2 hc.2))
def fSub : D2 := fI (fun _ _ => True) fun i j => .int (i - j)
def fDiv : D2 := fI CDivD fun i j => .int (i.fdiv j)
def fMod : D2 := fI (fun _ j => j ≠ 0) fun i j => .int (i.fmod j)
def fMulI : D2 := fI CMulW fun i j => .int (i * j)
def fPow : D2 := fI CPow fun i j => .int (i ^ j.toNat)
section
variable {X : Cx} {W : WX} {e1 e2 : Expr} {a b : DE} {pos : Pos}
theorem pd_sub (ha : PED X W e1 a) (hb : PED X W e2 b) : PED X W (.BinOp e1 .Sub e2 pos) (dOp fSub a b) := pd_op op_sub sim_I0 ha hb
theorem pd_fdiv (ha : PED X W e1 a) (hb : PED X W e2 b) : PED X W (.BinOp e1 .FloorDiv e2 pos) (dOp fDiv a b) := pd_op op_fdivD sim_I ha hb
theorem pd_mod (ha : PED X W e1 a) (hb : PED X W e2 b) : PED X W (.BinOp e1 .Mod e2 pos) (dOp fMod a b) := pd_op op_modN sim_I ha hb
theorem pd_mulI (ha : PED X W e1 a) (hb : PED X W e2 b) : PED X W (.BinOp e1 .Mult e2 pos) (dOp fMulI a b) := pd_op op_mulW sim_I ha hb
theorem pd_pow (ha : PED X W e1 a) (hb : PED X W e2 b) : PED X W (.BinOp e1 .Pow e2 pos) (dOp fPow a b) := pd_op op_pow sim_I ha hb
end
/-- a + b: numbers, texts, lists, tuples; what is new is kept, or a cell -/
def fAdd (m : Bool) : D2 := fun x y κ Q => match x, y with
  | .int i, .int j => Q (.int (i + j)) κ
  | .str i, .str j => i.length + j.length ≤ sizeLine ∧ Q (.str (i ++ j)) κ
  | x, y => match view x κ, view y κ with
    | some (.lst, xs), some (.lst, ys) => xs.length + ys.length ≤ sizeLine ∧ fNew m .lst (xs ++ ys) κ Q
    | some (.tup, xs), some (.tup, ys) => xs ≠ [] ∧ ys ≠ [] ∧ xs.length + ys.length ≤ sizeLine ∧ Q (.tup (xs ++ ys)) κ
    | _, _ => False
def rAddV (K : PySem.W.Frag) : R2 := fun x y H Q => (rI0 fun i j => .int (i + j)) x y H Q ∨ (∃ i j, x = .str i ∧ y = .str j ∧ i.length + j.length ≤ sizeLine ∧ Q (.str (i ++ j)) H) ∨ rCat x y H Q ∨ rCatT K x y H Q
theorem op_addV {X : Cx} : OpR X (binaryOp .Add) (rAddV X.K) := OpR.or op_add (OpR.or op_add_str (OpR.or op_cat op_catT))
theorem sim_add {C : Ctx} {m : Bool} : Sim2 C (fAdd m) (rAddV C.K) := by
  intro F ρ κ H x y v u QD Q S rx ry h P
  have key : (match view x κ, view y κ with
    | some (.lst, xs), some (.lst, ys) => xs.length + ys.length ≤ sizeLine ∧ fNew m .lst (xs ++ ys) κ QD
    | some (.tup, xs), some (.tup, ys) => xs ≠ [] ∧ ys ≠ [] ∧ xs.length + ys.length ≤ sizeLine ∧ QD (.tup (xs ++ ys)) κ
    | _, _ => False) → rAddV C.K v u H Q := by
    intro h
    cases ex : view x κ with
    | none => rw [ex] at h; exact h.elim
    | some p =>
      cases ey : view y κ with
      | none => rw [ex, ey] at h; exact (show False by obtain ⟨k, xs⟩ := p; cases k <;> exact h).elim
      | some q =>
        obtain ⟨k, xs⟩ := p
        obtain ⟨k', ys⟩ := q
        rw [ex, ey] at h
        obtain ⟨p, vs, rfl, hk, rl⟩ := view_at S rx ex
        obtain ⟨q, us, rfl, hk', rl'⟩ := view_at S ry ey
        have l1 := rl.length
        have l2 := rl'.length
        cases k <;> cases k' <;> first | exact h.elim | skip
        · exact .inr (.inr (.inl ⟨p, q, vs, us, rfl, rfl, hk, hk', by rw [← l1, ← l2]; exact h.1, new_lst S (rl.append rl') h.2 P⟩))
        · obtain ⟨h1, h2, h3, h4⟩ := h
          refine .inr (.inr (.inr ⟨p, q, vs, us, rfl, rfl, hk, hk', ?_, by rw [← l1, ← l2]; exact h3, fun z => ?_, fun _ => new_tup S (rl.append rl') h4 P⟩))
          · intro z
            rw [z] at l1
            cases xs with
            | nil => exact h1 rfl
            | cons => simp at l1
          · rw [z] at l2
            cases ys with
            | nil => exact absurd rfl h2
            | cons => simp at l2
  cases x with
  | int i =>
    cases y with
    | int j => cases rx; cases ry; exact .inl ⟨i, j, rfl, rfl, P _ _ _ _ _ _ (Ext.refl _ _) S (.int _) h⟩
    | _ => exact key h
  | str i =>
    cases y with
    | str j => cases rx; cases ry; exact .inr (.inl ⟨i, j, rfl, rfl, h.1, P _ _ _ _ _ _ (Ext.refl _ _) S (.str _) h.2⟩)
    | _ => exact key h
  | _ => exact key h
theorem pd_add {X : Cx} {W : WX} {e1 e2 : Expr} {a b : DE} {pos : Pos} (m : Bool) (ha : PED X W e1 a) (hb : PED X W e2 b) : PED X W (.BinOp e1 .Add e2 pos) (dOp (fAdd m) a b) := pd_op op_addV sim_add ha hb
end DL
/-! DL: built-ins, subscripts, comparisons of data. -/
namespace DL
open PySem PySem.Spec PyProof.Rows L2
/-! ### data as the library's own data -/
def keyD : Key → D
  | .inl i => .int i
  | .inr x => .str x
def keyP : Key → PyData
  | .inl i => .int i
  | .inr x => .str x
mutual
inductive Pd (κ : Kap) : D → PyData → Prop
  | non : Pd κ .non .none
  | bl (b : Bool) : Pd κ (.bl b) (.bool b)
  | int (i : Int) : Pd κ (.int i) (.int i)
  | str (x : Str) : Pd κ (.str x) (.str x)
  | lst {x : D} {xs : List D} {ps : List PyData} (h : view x κ = some (.lst, xs)) (t : PdL κ xs ps) : Pd κ x (.list ps)
  | tup {x : D} {xs : List D} {ps : List PyData} (h : view x κ = some (.tup, xs)) (t : PdL κ xs ps) : Pd κ x (.tuple ps)
  | dct {x : D} {ks : List Key} {xs : List D} {ps : List PyData} (h : view x κ = some (.dct ks, xs)) (t : PdL κ xs ps) : Pd κ x (.dict ((ks.map keyP).zip ps))
inductive PdL (κ : Kap) : List D → List PyData → Prop
  | nil : PdL κ [] []
  | cons {d : D} {ds : List D} {p : PyData} {ps : List PyData} (h : Pd κ d p) (t : PdL κ ds ps) : PdL κ (d :: ds) (p :: ps)
end
mutual
def pdata : D → Option PyData
  | .non => some .none
  | .bl b => some (.bool b)
  | .int i => some (.int i)
  | .str x => some (.str x)
  | .node .lst xs => match pdataL xs with
    | some ps => some (.list ps)
    | none => none
  | .node .tup xs => match pdataL xs with
    | some ps => some (.tuple ps)
    | none => none
  | .node (.dct ks) xs => match pdataL xs with
    | some ps => some (.dict ((ks.map keyP).zip ps))
    | none => none
  | _ => none
def pdataL : List D → Option (List PyData)
  | [] => some []
  | x :: xs => match pdata x, pdataL xs with
    | some p, some ps => some (p :: ps)
    | _, _ => none
end
mutual
theorem pd_of {κ : Kap} : ∀ {x : D} {p : PyData}, pdata x = some p → Pd κ x p
  | .non, _, h => by cases h; exact .non
  | .bl b, _, h => by cases h; exact .bl b
  | .int i, _, h => by cases h; exact .int i
  | .str x, _, h => by cases h; exact .str x
  | .node .lst xs, p, h => by
    unfold pdata at h
    cases e : pdataL xs with
    | none => rw [e] at h; cases h
    | some ps => rw [e] at h; cases h; exact .lst rfl (pdL_of e)
  | .node .tup xs, p, h => by
    unfold pdata at h
    cases e : pdataL xs with
    | none => rw [e] at h; cases h
    | some ps => rw [e] at h; cases h; exact .tup rfl (pdL_of e)
  | .node (.dct ks) xs, p, h => by
    unfold pdata at h
    cases e : pdataL xs with
    | none => rw [e] at h; cases h
    | some ps => rw [e] at h; cases h; exact .dct rfl (pdL_of e)
  | .node .klst xs, p, h => by cases h
  | .node (.obj _ _) xs, p, h => by cases h
  | .node (.exc _ _) xs, p, h => by cases h
  | .node (.exa _ _ _) xs, p, h => by cases h
  | .ty _, _, h => by cases h
  | .glb _, _, h => by cases h
  | .cell _, _, h => by cases h
theorem pdL_of {κ : Kap} : ∀ {xs : List D} {ps : List PyData}, pdataL xs = some ps → PdL κ xs ps
  | [], _, h => by cases h; exact .nil
  | x :: xs, _, h => by
    unfold pdataL at h
    cases e1 : pdata x with
    | none => rw [e1] at h; cases h
    | some p =>
      cases e2 : pdataL xs with
      | none => rw [e1, e2] at h; cases h
      | some ps => rw [e1, e2] at h; cases h; exact .cons (pd_of e1) (pdL_of e2)
end
/-- what a rule may lean on where it stands -/
structure Good (k : Nat) (X : Cx) (W : WX) : Prop where
  tk : L2N.Takes X W
  po : PassesOwn (model X.prog X.w) X.A X.env X.xe
  rm : Room k X.A
  gd : X.A.guards = some []
  sm : ∃ o, X.base.get? sysModules = some o
  calm : X.calm = true
  nd : X.N.Nodup
theorem Good.mono {j k : Nat} {X : Cx} {W : WX} (g : Good k X W) (h : j ≤ k) : Good j X W := ⟨g.tk, g.po, g.rm.mono h, g.gd, g.sm, g.calm, g.nd⟩
section
variable {X : Cx} {pins : List (Addr × Obj)} {σ : L2.St} {H : Hp} {s : Shared} {F : Hp} {ρ : Loc0} {κ : Kap}
theorem pairs_read : ∀ {es : List DictEntry} {kvs : List (Key × Value)} {P : Program} {w : World}, Pairs (mixKind P w) es kvs → (∃ as, ReadsAll s.heap (es.map (·.key)) ((kvs.map (·.1)).map keyP) as ∧ as = []) ∧ es.map (·.val) = kvs.map (·.2)
  | _, _, _, _, .nil => ⟨⟨[], .nil, rfl⟩, rfl⟩
  | _, _, P, w, .cons (e := e) (kv := kv) h1 h2 t => by
    obtain ⟨⟨as, h3, h4⟩, h5⟩ := pairs_read t
    subst h4
    refine ⟨⟨[] ++ [], ?_, rfl⟩, ?_⟩
    · rw [List.map_cons, List.map_cons, List.map_cons]
      refine .cons ?_ h3
      have h1' : keyIs kv.1 e.key = true := h1
      rcases keyIs_shape h1' with ⟨i, t, e1, e2⟩ | ⟨x, t, e1, e2⟩
      · rw [e1, e2]; exact .int i t
      · rw [e1, e2]; exact .str x t
    · rw [List.map_cons, List.map_cons, h5, h2]
theorem kv_split : ∀ {kvs : List (Key × V)} {vs : List (Key × Value)}, KV kvs vs → vs.map (·.1) = kvs.map (·.1) ∧ Vals (kvs.map (·.2)) (vs.map (·.2))
  | _, _, .nil => ⟨rfl, .nil⟩
  | _, _, .cons r t => by
    obtain ⟨h1, h2⟩ := kv_split t
    exact ⟨by rw [List.map_cons, List.map_cons, h1, r.1], .cons r.2 h2⟩
theorem dk_zip {as : List PyData} {bs : List PyData} (h : as.length = bs.length) : (as.zip bs).map (·.1) = as ∧ (as.zip bs).map (·.2) = bs := ⟨List.map_fst_zip (Nat.le_of_eq h), List.map_snd_zip (Nat.le_of_eq h.symm)⟩
theorem PdL.length : ∀ {xs : List D} {ps : List PyData}, PdL κ xs ps → xs.length = ps.length
  | _, _, .nil => rfl
  | _, _, .cons _ t => congrArg (· + 1) (PdL.length t)
mutual
theorem Pd.reads (I : Inv X pins σ H s) (sm : H sysModules = none) (S : StR (CtxOf X) F ρ κ H) : ∀ {x : D} {p : PyData} {v : V} {u : Value}, Pd κ x p → Rep (CtxOf X) F ρ x v → RelV v u → ∃ as, Reads s.heap u p as ∧ sysModules ∉ as
  | _, _, _, _, .non, r, rv => by cases r; cases rv; exact ⟨_, .none, fun h => by cases h⟩
  | _, _, _, _, .bl b, r, rv => by cases r; cases rv; exact ⟨_, .bool b, fun h => by cases h⟩
  | _, _, _, _, .int i, r, rv => by cases r; obtain ⟨t, rfl⟩ := rv; exact ⟨_, .int i t, fun h => by cases h⟩
  | _, _, _, _, .str x, r, rv => by cases r; obtain ⟨t, rfl⟩ := rv; exact ⟨_, .str x t, fun h => by cases h⟩
  | _, _, _, _, .lst h t, r, rv => by
    obtain ⟨a, vs, rfl, hk, rl⟩ := view_at S r h
    cases rv
    obtain ⟨its, rv, ⟨o, n, ho, hc, hdd, hd⟩, _⟩ := I.list (SqL.of hk)
    obtain ⟨as, hr, hn⟩ := PdL.reads I sm S t rl rv
    refine ⟨_, .list ho hc hd hr, fun hm => ?_⟩
    rcases List.mem_cons.mp hm with e | e
    · have hk' : H a = some (.lst vs) := hk
      rw [← e, sm] at hk'; cases hk'
    · exact hn e
  | _, _, _, _, .tup h t, r, rv => by
    obtain ⟨a, vs, rfl, hk, rl⟩ := view_at S r h
    cases rv
    obtain ⟨its, rv, ⟨o, ho, hc, n, hd⟩, _⟩ := I.tuple hk
    obtain ⟨as, hr, hn⟩ := PdL.reads I sm S t rl rv
    exact ⟨_, .tuple ho hc hd hr, hn⟩
  | _, _, _, _, .dct (ks := ks) (ps := ps) h t, r, rv => by
    obtain ⟨a, vs, rfl, ⟨kvs, hk, hk1, hk2⟩, rl⟩ := view_at S r h
    cases rv
    obtain ⟨_, hsys, vals, rel, o, es, ep, ho, hx, hd, _, hp, _⟩ := dk_of I.hok hk
    obtain ⟨q1, q2⟩ := kv_split rel
    obtain ⟨⟨as, hr, h0⟩, hv⟩ := pairs_read (s := s) hp
    subst h0
    rw [hk2] at q2
    obtain ⟨bs, hr2, hn⟩ := PdL.reads I sm S t rl (hv ▸ q2)
    have hl : (ks.map keyP).length = ps.length := by
      rw [← t.length, rl.length, ← hk1, ← hk2]
      simp only [List.length_map]
    obtain ⟨z1, z2⟩ := dk_zip hl
    refine ⟨_, .dict (as := []) (bs := bs) ho hx.1 hd (by rw [z1, ← hk1, ← q1]; exact hr) (by rw [z2]; exact hr2), fun hm => ?_⟩
    have hm' : sysModules ∈ a :: bs := hm
    rcases List.mem_cons.mp hm' with e | e
    · rw [← e, sm] at hk; cases hk
    · exact hn e
theorem PdL.reads (I : Inv X pins σ H s) (sm : H sysModules = none) (S : StR (CtxOf X) F ρ κ H) : ∀ {xs : List D} {ps : List PyData} {vs : List V} {us : List Value}, PdL κ xs ps → RepL (CtxOf X) F ρ xs vs → Vals vs us → ∃ as, ReadsAll s.heap us ps as ∧ sysModules ∉ as
  | _, _, _, _, .nil, r, rv => by cases r; cases rv; exact ⟨_, .nil, fun h => by cases h⟩
  | _, _, _, _, .cons h t, r, rv => by
    cases r with
    | cons r1 r2 =>
      cases rv with
      | cons v1 v2 =>
        obtain ⟨as, q1, n1⟩ := Pd.reads I sm S h r1 v1
        obtain ⟨bs, q2, n2⟩ := PdL.reads I sm S t r2 v2
        exact ⟨_, .cons q1 q2, fun hm => (List.mem_append.mp hm).elim n1 n2⟩
end
theorem Inv.sysm (I : Inv X pins σ H s) (sm : ∃ o, X.base.get? sysModules = some o) : H sysModules = none := let ⟨o, h⟩ := sm; (I.bs _ _ h).2
end
/-- two data, a truth -/
def fDat (g : PyData → PyData → Bool) : D2 := fun x y κ Q => ∃ p q, Pd κ x p ∧ Pd κ y q ∧ SeqAt.shaped p = true ∧ SeqAt.shaped q = true ∧ Q (.bl (g p q)) κ
def rDat (C : Ctx) (g : PyData → PyData → Bool) : R2 := fun v u H Q => ∃ F ρ κ x y p q, StR C F ρ κ H ∧ Rep C F ρ x v ∧ Rep C F ρ y u ∧ Pd κ x p ∧ Pd κ y q ∧ SeqAt.shaped p = true ∧ SeqAt.shaped q = true ∧ Q (.bl (g p q)) H
theorem sim_dat {C : Ctx} {g : PyData → PyData → Bool} : Sim2 C (fDat g) (rDat C g) := fun F ρ κ H x y v u QD Q S rx ry ⟨p, q, h1, h2, h3, h4, h5⟩ P => ⟨F, ρ, κ, x, y, p, q, S, rx, ry, h1, h2, h3, h4, P _ _ _ _ _ _ (Ext.refl _ _) S (.bl _) h5⟩
/-- x in ys: data in a list or a tuple -/
def inP (d : PyData) : PyData → Bool
  | .list ds => ds.any fun z => PyData.eqv z d
  | .tuple ds => ds.any fun z => PyData.eqv z d
  | _ => false
section
variable {X : Cx} {W : WX} {k : Nat}
theorem op_eqDat (g : Good k X W) : OpR X (compareOp .Eq) (rDat (CtxOf X) PyData.eqv) := by
  intro pins s σ H x y v u Q I rx ry ⟨F, ρ, κ, dx, dy, p, q, S, r1, r2, h1, h2, h3, h4, h5⟩
  obtain ⟨as, q1, _⟩ := Pd.reads I (Inv.sysm I g.sm) S h1 r1 rx
  obtain ⟨bs, q2, _⟩ := Pd.reads I (Inv.sysm I g.sm) S h2 r2 ry
  exact SeqAt.compareEq_shaped q1 q2 h3 h4 g.rm.units ⟨.bl _, H, I, rfl, h5⟩
theorem op_neDat (g : Good k X W) : OpR X (compareOp .NotEq) (rDat (CtxOf X) fun p q => !PyData.eqv p q) := by
  intro pins s σ H x y v u Q I rx ry ⟨F, ρ, κ, dx, dy, p, q, S, r1, r2, h1, h2, h3, h4, h5⟩
  obtain ⟨as, q1, _⟩ := Pd.reads I (Inv.sysm I g.sm) S h1 r1 rx
  obtain ⟨bs, q2, _⟩ := Pd.reads I (Inv.sysm I g.sm) S h2 r2 ry
  exact SeqAt.compareNe_shaped q1 q2 h3 h4 g.rm.units ⟨.bl _, H, I, rfl, h5⟩
end
def fEq : D2 := fDat PyData.eqv
def fNe : D2 := fDat fun p q => !PyData.eqv p q
section
variable {X : Cx} {W : WX} {k : Nat} {e1 e2 : Expr} {a b : DE} {pos : Pos}
theorem pd_eq (g : Good k X W) (ha : PED X W e1 a) (hb : PED X W e2 b) : PED X W (.Compare e1 [.Eq] [e2] pos) (dOp fEq a b) := pd_cmp (op_eqDat g) sim_dat ha hb
theorem pt_eq (g : Good k X W) (ha : PED X W e1 a) (hb : PED X W e2 b) : PTD X W (.Compare e1 [.Eq] [e2] pos) (tBl (dOp fEq a b)) := pt_cmpD (op_eqDat g) sim_dat ha hb
theorem pt_ne (g : Good k X W) (ha : PED X W e1 a) (hb : PED X W e2 b) : PTD X W (.Compare e1 [.NotEq] [e2] pos) (tBl (dOp fNe a b)) := pt_cmpD (op_neDat g) sim_dat ha hb
end
/-! ### order: numbers, texts -/
def fOrd (gi : Int → Int → Bool) (gs : Str → Str → Bool) : D2 := fun x y κ Q => match x, y with
  | .int i, .int j => Q (.bl (gi i j)) κ
  | .str i, .str j => Q (.bl (gs i j)) κ
  | _, _ => False
def rOrd (gi : Int → Int → Bool) (gs : Str → Str → Bool) : R2 := fun x y H Q => (rI0 fun i j => .bl (gi i j)) x y H Q ∨ ∃ i j, x = .str i ∧ y = .str j ∧ Q (.bl (gs i j)) H
theorem sim_ord {C : Ctx} {gi : Int → Int → Bool} {gs : Str → Str → Bool} : Sim2 C (fOrd gi gs) (rOrd gi gs) := by
  intro F ρ κ H x y v u QD Q S rx ry h P
  cases x <;> cases y <;> first | exact h.elim | skip
  · cases rx; cases ry; exact .inl ⟨_, _, rfl, rfl, P _ _ _ _ _ _ (Ext.refl _ _) S (.bl _) h⟩
  · cases rx; cases ry; exact .inr ⟨_, _, rfl, rfl, P _ _ _ _ _ _ (Ext.refl _ _) S (.bl _) h⟩
def fLtS : D2 := fOrd (fun i j => decide (i < j)) fun i j => decide (i.cps.toList < j.cps.toList)
def fLeS : D2 := fOrd (fun i j => decide (i ≤ j)) fun i j => !decide (j.cps.toList < i.cps.toList)
def fGtS : D2 := fOrd (fun i j => decide (j < i)) fun i j => decide (j.cps.toList < i.cps.toList)
def fGeS : D2 := fOrd (fun i j => decide (j ≤ i)) fun i j => !decide (i.cps.toList < j.cps.toList)
section
variable {X : Cx} {W : WX} {k : Nat} {e1 e2 e3 : Expr} {a b c : DE} {pos : Pos}
theorem op_ltS : OpR X (compareOp .Lt) (rOrd (fun i j => decide (i < j)) fun i j => decide (i.cps.toList < j.cps.toList)) := OpR.or op_lt op_lt_str
theorem op_gtS : OpR X (compareOp .Gt) (rOrd (fun i j => decide (j < i)) fun i j => decide (j.cps.toList < i.cps.toList)) := OpR.or op_gt op_gt_str
theorem pt_lt (ha : PED X W e1 a) (hb : PED X W e2 b) : PTD X W (.Compare e1 [.Lt] [e2] pos) (tBl (dOp fLtS a b)) := pt_cmpD op_ltS sim_ord ha hb
theorem pt_gt (ha : PED X W e1 a) (hb : PED X W e2 b) : PTD X W (.Compare e1 [.Gt] [e2] pos) (tBl (dOp fGtS a b)) := pt_cmpD op_gtS sim_ord ha hb
end
/-! ### is -/
/-! ### in -/
def strIn (i j : Str) : Bool := !(Builtin.Str.occurrences j i 0 j.length 1).isEmpty
def fIn (neg : Bool) : D2 := fun x y κ Q => match x, y with
  | .str i, .str j => Q (.bl (if neg then !strIn i j else strIn i j)) κ
  | x, y => ∃ p q, Pd κ x p ∧ Pd κ y q ∧ SeqAt.shaped p = true ∧ SeqAt.shaped q = true ∧ (∃ ds, q = .list ds ∨ q = .tuple ds) ∧ Q (.bl (if neg then !inP p q else inP p q)) κ
/-! ### subscripts -/
def fIx : D2 := fun x y κ Q => match x, y with
  | .str z, .int i => z.length ≤ sizeLine ∧ ∃ c, atI z.cps.toList i = some c ∧ Q (.str ⟨#[c]⟩) κ
  | x, .int i => match view x κ with
    | some (.lst, xs) => ∃ d, atI xs i = some d ∧ Q d κ
    | some (.tup, xs) => ∃ d, atI xs i = some d ∧ Q d κ
    | some (.klst, xs) => ∃ d, atI xs i = some d ∧ Q d κ
    | _ => False
  | _, _ => False
theorem atI_at {C : Ctx} {F : Hp} {ρ : Loc0} {xs : List D} {vs : List V} {i : Int} {d : D} (r : RepL C F ρ xs vs) (h : atI xs i = some d) : ∃ v, atI vs i = some v ∧ Rep C F ρ d v := by
  unfold atI at h ⊢
  rw [← r.length]
  cases e : ixN xs.length i with
  | none => rw [e] at h; cases h
  | some j =>
    rw [e] at h
    exact r.get h
theorem sim_ix {C : Ctx} : Sim2 C fIx (rIx C.K) := by
  intro F ρ κ H x y v u QD Q S rx ry h P
  have hy : ∃ i, y = .int i := by
    cases y <;> first | exact ⟨_, rfl⟩ | (exfalso; cases x <;> exact h)
  obtain ⟨i, rfl⟩ := hy
  cases ry
  have key : (match view x κ with
    | some (.lst, xs) => ∃ d, atI xs i = some d ∧ QD d κ
    | some (.tup, xs) => ∃ d, atI xs i = some d ∧ QD d κ
    | some (.klst, xs) => ∃ d, atI xs i = some d ∧ QD d κ
    | _ => False) → rIx C.K v (.int i) H Q := by
    intro h
    cases ex : view x κ with
    | none => rw [ex] at h; exact h.elim
    | some p =>
      obtain ⟨k, xs⟩ := p
      rw [ex] at h
      obtain ⟨p, vs, rfl, hk, rl⟩ := view_at S rx ex
      cases k <;> first | exact h.elim | skip
      · obtain ⟨d, h1, h2⟩ := h
        obtain ⟨v, h3, h4⟩ := atI_at rl h1
        exact .inl ⟨p, vs, i, v, rfl, rfl, SqL.of hk, h3, P _ _ _ _ _ _ (Ext.refl _ _) S h4 h2⟩
      · obtain ⟨d, h1, h2⟩ := h
        obtain ⟨v, h3, h4⟩ := atI_at rl h1
        exact .inr (.inl ⟨p, vs, i, v, rfl, rfl, hk, h3, P _ _ _ _ _ _ (Ext.refl _ _) S h4 h2⟩)
      · obtain ⟨d, h1, h2⟩ := h
        obtain ⟨v, h3, h4⟩ := atI_at rl h1
        exact .inl ⟨p, vs, i, v, rfl, rfl, hk, h3, P _ _ _ _ _ _ (Ext.refl _ _) S h4 h2⟩
  cases x with
  | str z =>
    cases rx
    obtain ⟨h1, c, h2, h3⟩ := h
    exact .inr (.inr ⟨z, i, c, rfl, rfl, h1, h2, P _ _ _ _ _ _ (Ext.refl _ _) S (.str _) h3⟩)
  | _ => exact key h
section
variable {X : Cx} {W : WX} {k : Nat} {e1 e2 : Expr} {a b : DE} {pos p2 : Pos}
theorem pd_ix (ha : PED X W e1 a) (hb : PED X W e2 b) (hs : PlainIx e2 := by exact fun _ _ => rfl) : PED X W (.Subscript e1 e2 pos) (dOp fIx a b) := pe_weak (pe_ix ix_seq ha hb hs) fun _ _ _ => lift_op sim_ix
end
/-! slices -/
abbrev DO := DEnv → Kap → DX → (Option Int → Kap → Prop) → Prop
def dNo : DO := fun _ κ _ Q => Q none κ
def dPart (a : DE) : DO := fun δ κ X Q => a δ κ X fun x κ1 => ∃ i, x = .int i ∧ Q (some i) κ1
def liftO (C : Ctx) (W : WX) (d : DO) : TO := fun σ H Q => ∃ F ρ κ δ XD QD, StR C F ρ κ H ∧ RepS C F ρ δ σ ∧ d δ κ XD QD ∧ (∀ F' ρ' κ' H' b, Ext F ρ F' ρ' → StR C F' ρ' κ' H' → QD b κ' → Q b H') ∧ PostX C F ρ XD W
theorem po_weak {X : Cx} {e : Option Expr} {t t' : TO} (h : PO X e t) (w : ∀ σ H Q, t' σ H Q → t σ H Q) : PO X e t' := ⟨fun pins s σ H Q I q => h.run pins s σ H Q I (w σ H Q q)⟩
abbrev POD (X : Cx) (W : WX) (e : Option Expr) (d : DO) : Prop := PO X e (liftO (CtxOf X) W d)
theorem po_noD {X : Cx} {W : WX} : POD X W none dNo := po_weak po_none fun σ H Q ⟨F, ρ, κ, δ, XD, QD, S, R, h, P, PX⟩ => P _ _ _ _ _ (Ext.refl _ _) S h
theorem po_partD {X : Cx} {W : WX} {e : Expr} {a : DE} (ha : PED X W e a) : POD X W (some e) (dPart a) := po_weak (po_some ha) fun σ H Q ⟨F, ρ, κ, δ, XD, QD, S, R, h, P, PX⟩ =>
  ⟨F, ρ, κ, δ, XD, _, S, R, h, fun F1 ρ1 κ1 H1 x v e1 S1 R1 ⟨i, hx, h1⟩ => by
    subst hx
    cases R1
    exact ⟨i, rfl, P _ _ _ _ _ e1 S1 h1⟩, PX⟩
def cutD (xs : List D) (lo hi : Option Int) : List D := (xs.drop (HT.sIx xs.length 0 lo)).take (HT.sIx xs.length xs.length hi - HT.sIx xs.length 0 lo)
theorem cut_at {C : Ctx} {F : Hp} {ρ : Loc0} {xs : List D} {vs : List V} (r : RepL C F ρ xs vs) (lo hi : Option Int) : RepL C F ρ (cutD xs lo hi) (cutV vs lo hi) := by
  unfold cutD cutV
  rw [r.length]
  exact (r.drop _).take _
def fSl (m : Bool) (x : D) (lo hi : Option Int) (κ : Kap) (Q : DQ) : Prop := match x with
  | .str z => z.length ≤ sizeLine ∧ Q (.str (cutS z lo hi)) κ
  | x => match view x κ with
    | some (.lst, xs) => fNew m .lst (cutD xs lo hi) κ Q
    | _ => False
def dSl (m : Bool) (a : DE) (lo hi : DO) : DE := fun δ κ X Q => a δ κ X fun x κ1 => lo δ κ1 X fun i κ2 => hi δ κ2 X fun j κ3 => fSl m x i j κ3 Q
theorem pd_sl {X : Cx} {W : WX} {e1 : Expr} {lo hi : Option Expr} {a : DE} {dl dh : DO} {pos p2 : Pos} (m : Bool) (ha : PED X W e1 a) (hl : POD X W lo dl) (hh : POD X W hi dh) : PED X W (.Subscript e1 (.Slice lo hi none p2) pos) (dSl m a dl dh) :=
  pe_weak (pe_slice (SlR.or sl_str sl_list) ha hl hh) fun σ H Q ⟨F, ρ, κ, δ, XD, QD, S, R, h, P, PX⟩ =>
  ⟨F, ρ, κ, δ, XD, _, S, R, h, fun F1 ρ1 κ1 H1 x v e1 S1 R1 h1 => ⟨F1, ρ1, κ1, δ, XD, _, S1, R.ext e1, h1, fun F2 ρ2 κ2 H2 i e2 S2 h2 => ⟨F2, ρ2, κ2, δ, XD, _, S2, R.ext (e1.trans e2), h2, fun F3 ρ3 κ3 H3 j e3 S3 h3 => by
    have e123 := e1.trans (e2.trans e3)
    have R3 := R1.ext (e2.trans e3)
    have key : (match view x κ3 with
      | some (.lst, xs) => fNew m .lst (cutD xs i j) κ3 QD
      | _ => False) → rSlS v i j H3 Q ∨ rSlL X.K v i j H3 Q := fun h => by
      cases ex : view x κ3 with
      | none => rw [ex] at h; exact h.elim
      | some p =>
        obtain ⟨k, xs⟩ := p
        rw [ex] at h
        obtain ⟨p, vs, rfl, hk, rl⟩ := view_at S3 R3 ex
        cases k <;> first | exact h.elim | skip
        exact .inr ⟨p, vs, rfl, SqL.of hk, new_lst S3 (cut_at rl i j) h (P.ext e123)⟩
    cases x with
    | str z =>
      cases R3
      exact .inl ⟨z, rfl, h3.1, P _ _ _ _ _ _ e123 S3 (.str _) h3.2⟩
    | _ => exact key h3, PX.ext (e1.trans e2)⟩, PX.ext e1⟩, PX⟩
/-! ### built-ins -/
def fLen : DN := fun xs κ Q => match xs with
  | [.str y] => y.length ≤ sizeLine ∧ Q (.int (y.length : Nat)) κ
  | [x] => match view x κ with
    | some (.lst, xs) => Q (.int (xs.length : Nat)) κ
    | some (.tup, xs) => Q (.int (xs.length : Nat)) κ
    | some (.klst, xs) => Q (.int (xs.length : Nat)) κ
    | _ => False
  | _ => False
theorem repL1 {C : Ctx} {F : Hp} {ρ : Loc0} {x : D} {vs : List V} (r : RepL C F ρ [x] vs) : ∃ v, vs = [v] ∧ Rep C F ρ x v := by
  cases r with
  | cons h t => cases t; exact ⟨_, rfl, h⟩
theorem repL2 {C : Ctx} {F : Hp} {ρ : Loc0} {x y : D} {vs : List V} (r : RepL C F ρ [x, y] vs) : ∃ v u, vs = [v, u] ∧ Rep C F ρ x v ∧ Rep C F ρ y u := by
  cases r with
  | cons h t =>
    obtain ⟨u, rfl, hu⟩ := repL1 t
    exact ⟨_, _, rfl, h, hu⟩
theorem sim_len {C : Ctx} : SimN C fLen (fun xs H Q => ∃ x n, xs = [x] ∧ LenV C.K x H n ∧ Q (.int n) H) := by
  intro F ρ κ H xs vs QD Q S r h P
  match xs, h with
  | [x], h =>
    obtain ⟨v, rfl, rx⟩ := repL1 r
    have key : (match view x κ with
      | some (.lst, xs) => QD (.int (xs.length : Nat)) κ
      | some (.tup, xs) => QD (.int (xs.length : Nat)) κ
      | some (.klst, xs) => QD (.int (xs.length : Nat)) κ
      | _ => False) → ∃ x n, [v] = [x] ∧ LenV C.K x H n ∧ Q (.int n) H := by
      intro h
      cases ex : view x κ with
      | none => rw [ex] at h; exact h.elim
      | some p =>
        obtain ⟨k, xs⟩ := p
        rw [ex] at h
        obtain ⟨p, vs, rfl, hk, rl⟩ := view_at S rx ex
        have l := rl.length
        cases k <;> first | exact h.elim | skip
        · exact ⟨_, _, rfl, .inl ⟨vs, SqL.of hk, rfl⟩, P _ _ _ _ _ _ (Ext.refl _ _) S (.int _) (by rw [← l]; exact h)⟩
        · exact ⟨_, _, rfl, .inr ⟨vs, hk, rfl⟩, P _ _ _ _ _ _ (Ext.refl _ _) S (.int _) (by rw [← l]; exact h)⟩
        · exact ⟨_, _, rfl, .inl ⟨vs, hk, rfl⟩, P _ _ _ _ _ _ (Ext.refl _ _) S (.int _) (by rw [← l]; exact h)⟩
    cases x with
    | str y => cases rx; exact ⟨_, _, rfl, ⟨h.1, rfl⟩, P _ _ _ _ _ _ (Ext.refl _ _) S (.int _) h.2⟩
    | _ => exact key h
  | x :: y :: r, h => exfalso; cases x <;> exact h
def fAbs : DN := fun xs κ Q => match xs with
  | [.int i] => Q (.int (if i < 0 then -i else i)) κ
  | _ => False
def fMax2 : DN := fun xs κ Q => match xs with
  | [.int i, .int j] => Q (.int (if j > i then j else i)) κ
  | _ => False
def fMin2 : DN := fun xs κ Q => match xs with
  | [.int i, .int j] => Q (.int (if j < i then j else i)) κ
  | _ => False
theorem sim_max2 {C : Ctx} : SimN C fMax2 (fun xs H Q => ∃ i j, xs = [.int i, .int j] ∧ Q (.int (if j > i then j else i)) H) := by
  intro F ρ κ H xs vs QD Q S r h P
  match xs, h with
  | [.int i, .int j], h =>
    obtain ⟨v, u, rfl, rx, ry⟩ := repL2 r
    cases rx; cases ry
    exact ⟨i, j, rfl, P _ _ _ _ _ _ (Ext.refl _ _) S (.int _) h⟩
theorem sim_min2 {C : Ctx} : SimN C fMin2 (fun xs H Q => ∃ i j, xs = [.int i, .int j] ∧ Q (.int (if j < i then j else i)) H) := by
  intro F ρ κ H xs vs QD Q S r h P
  match xs, h with
  | [.int i, .int j], h =>
    obtain ⟨v, u, rfl, rx, ry⟩ := repL2 r
    cases rx; cases ry
    exact ⟨i, j, rfl, P _ _ _ _ _ _ (Ext.refl _ _) S (.int _) h⟩
/-- str(x): of a number, of a text -/
def fStr : DN := fun xs κ Q => match xs with
  | [.int i] => i.natAbs.log2 < 1920 ∧ Q (.str (toString i)) κ
  | [.str y] => Q (.str y) κ
  | _ => False
/-- int(x): of a number, of a truth -/
def fInt : DN := fun xs κ Q => match xs with
  | [.int i] => Q (.int i) κ
  | [.bl b] => Q (.int (if b then 1 else 0)) κ
  | _ => False
end DL
/-! DL: statements, loops, comprehensions. -/
namespace DL
open PySem PySem.Spec PyProof.Rows L2
/-! ### targets -/
abbrev DG := D → DEnv → Kap → DX → (DEnv → Kap → Prop) → Prop
abbrev DGs := List D → DEnv → Kap → DX → (DEnv → Kap → Prop) → Prop
def liftG (C : Ctx) (W : WX) (g : DG) : TG := fun v σ H Q => ∃ F ρ κ δ d XD QD, StR C F ρ κ H ∧ RepS C F ρ δ σ ∧ Rep C F ρ d v ∧ g d δ κ XD QD ∧ PostN C F ρ QD Q ∧ PostX C F ρ XD W
abbrev PGD (X : Cx) (W : WX) (e : Expr) (g : DG) : Prop := PG X e (liftG (CtxOf X) W g)
def gN (i : Nat) : DG := fun d δ κ _ Q => Q (δ.set i (some d)) κ
def gNilD : DGs := fun ds δ κ _ Q => ds = [] ∧ Q δ κ
def gConsD (g : DG) (r : DGs) : DGs := fun ds δ κ X Q => match ds with
  | d :: ds => g d δ κ X fun δ1 κ1 => r ds δ1 κ1 X Q
  | [] => False
def gTupD (n : Nat) (g : DGs) : DG := fun d δ κ X Q => ∃ xs, view d κ = some (.tup, xs) ∧ xs.length = n ∧ g xs δ κ X Q
section
variable {X : Cx} {W : WX} {e : Expr} {es : List Expr} {g : DG} {r : DGs} {pos : Pos}
theorem pg_weak {t t' : TG} (h : PG X e t) (w : ∀ v σ H Q, t' v σ H Q → t v σ H Q) : PG X e t' := ⟨fun pins s σ H x u Q I rx q => h.run pins s σ H x u Q I rx (w _ _ _ _ q)⟩
theorem pg_nameD {i : Nat} {x : Str} (hN : X.N.Nodup) (hi : X.N[i]? = some x := by rfl) (hx : L2.Loc X.env.scope x := by first | exact Or.inl rfl | exact Or.inr rfl) (hf : X.fn x = true ∨ X.env.scope.names.lookup x = some .local := by first | exact .inl rfl | exact .inr rfl | assumption) : PGD X W (.Name x pos) (gN i) :=
  pg_weak (pg_name hN hi hx hf) fun v σ H Q ⟨F, ρ, κ, δ, d, XD, QD, S, R, r, h, P, PX⟩ => P _ _ _ _ _ _ (Ext.refl _ _) S (R.set r i) h
end
/-! o[i] = e : a cell's list | dict -/
def fSet : D → D → D → Kap → (Kap → Prop) → Prop := fun o i d κ Q => match o, i with
  | .cell n, .int j => match κ n with
    | some (.live .lst xs) => ∃ m, ixN xs.length j = some m ∧ Q (kset κ n (.live .lst (xs.set m d)))
    | _ => False
  | _, _ => False
def gSubD (o i : DE) (f : D → D → D → Kap → (Kap → Prop) → Prop) : DG := fun d δ κ X Q => o δ κ X fun x κ1 => i δ κ1 X fun y κ2 => f x y d κ2 fun κ3 => Q δ κ3
section
variable {X : Cx} {W : WX} {e1 e2 : Expr} {a b : DE} {pos : Pos}
theorem pg_subD (ho : PED X W e1 a) (hi : PED X W e2 b)
    (ha : ∀ v, assign (.Subscript e1 e2 pos) X.env v = (do
      let ov ← holding [v] (eval e1 X.env)
      let iv ← holding [v, ov] (eval e2 X.env)
      standAt pos
      holding [v, ov, iv] (setItem ov iv v)
      release [v, ov, iv] []) := by intro _; rfl) : PGD X W (.Subscript e1 e2 pos) (gSubD a b fSet) :=
  pg_weak (pg_sub ho hi set_list ha) fun v σ H Q ⟨F, ρ, κ, δ, d, XD, QD, S, R, rr, h, P, PX⟩ =>
  ⟨F, ρ, κ, δ, XD, _, S, R, h, fun F1 ρ1 κ1 H1 x u e1 S1 R1 h1 => ⟨F1, ρ1, κ1, δ, XD, _, S1, R.ext e1, h1, fun F2 ρ2 κ2 H2 y w e2 S2 R2 h2 => by
    have e12 := e1.trans e2
    have R1' := R1.ext e2
    cases x <;> first | (exfalso; cases y <;> exact h2) | skip
    rename_i n
    cases y <;> first | (exfalso; exact h2) | skip
    rename_i j
    cases R2
    have h2' : (match κ2 n with
      | some (.live .lst xs) => ∃ m, ixN xs.length j = some m ∧ QD δ (kset κ2 n (.live .lst (xs.set m d)))
      | _ => False) := h2
    cases ek : κ2 n with
    | none => rw [ek] at h2'; exact h2'.elim
    | some c =>
      cases c with
      | dead => rw [ek] at h2'; exact h2'.elim
      | live k xs =>
        rw [ek] at h2'
        cases k <;> first | exact h2'.elim | skip
        obtain ⟨m, h3, h4⟩ := h2'
        obtain ⟨p, vs, rfl, hr, hm, rl⟩ := cell_at S2 R1' ek
        refine ⟨p, vs, j, m, rfl, rfl, hm, by rw [← rl.length]; exact h3, ?_⟩
        exact P _ _ _ _ _ _ e12 (S2.write (k' := .lst) ek hr (fun H' q => q) (RepL.set (rr.ext e12) m rl)) (R.ext e12) h4, PX.ext e1⟩, PX⟩
end
/-! ### statements -/
def sSeq (a b : DS) : DS := fun δ κ X T => a δ κ X { T with nx := fun δ1 κ1 => b δ1 κ1 X T }
def sNil : DS := fun δ κ _ T => T.nx δ κ
def sAsg (e : DE) (g : DG) : DS := fun δ κ X T => e δ κ X fun d κ1 => g d δ κ1 X T.nx
def sExp (e : DE) : DS := fun δ κ X T => e δ κ X fun _ κ1 => T.nx δ κ1
def sRet (e : DE) : DS := fun δ κ X T => e δ κ X T.rt
def sRetN : DS := fun _ κ _ T => T.rt .non κ
def sIf (t : DT) (a b : DS) : DS := fun δ κ X T => t δ κ X fun k κ1 => if k = true then a δ κ1 X T else b δ κ1 X T
def sBrk : DS := fun δ κ _ T => T.bk δ κ
def sCon : DS := fun δ κ _ T => T.ct δ κ
def sPar (i j : Nat) (as : DA) : DS := fun δ κ X T => as δ κ X fun ds κ1 => ∃ x y, ds = [x, y] ∧ T.nx ((δ.set i (some x)).set j (some y)) κ1
def sAug (i : Nat) (f : D2) (e : DE) : DS := fun δ κ X T => ∃ x, δ[i]? = some (some x) ∧ e δ κ X fun y κ1 => f x y κ1 fun z κ2 => T.nx (δ.set i (some z)) κ2
section
variable {X : Cx} {W : WX} {e e1 e2 e3 : Expr} {st : Stmt} {sts sts2 : List Stmt} {a b : DE} {as : DA} {t : DT} {u v : DS} {g : DG} {pos : Pos}
theorem sd_nil : PSsD X W [] sNil := pss_weak pss_nil fun T σ H ⟨F, ρ, κ, δ, XD, DD, S, R, h, P, PX⟩ => P.nx _ _ _ _ _ _ (Ext.refl _ _) S R h
theorem sd_cons (h1 : PSD X W st u) (h2 : PSsD X W sts v) : PSsD X W (st :: sts) (sSeq u v) := pss_weak (pss_cons h1 h2) fun T σ H ⟨F, ρ, κ, δ, XD, DD, S, R, h, P, PX⟩ =>
  ⟨F, ρ, κ, δ, XD, _, S, R, h, ⟨fun F1 ρ1 κ1 H1 δ1 σ1 e1 S1 R1 h1 => ⟨F1, ρ1, κ1, δ1, XD, DD, S1, R1, h1, P.ext e1, PX.ext e1⟩, P.rt, P.bk, P.ct⟩, PX⟩
theorem sd_one (h1 : PSD X W st u) : PSsD X W [st] u := pss_one h1
theorem sd_exp (ha : PED X W e a) (hs : swapsWith e none pos.line X.env = pure false := by rfl) : PSD X W (.Expr e pos) (sExp a) := ps_weak (ps_expr ha hs) fun T σ H ⟨F, ρ, κ, δ, XD, DD, S, R, h, P, PX⟩ =>
  ⟨F, ρ, κ, δ, XD, _, S, R, h, fun F1 ρ1 κ1 H1 x v e1 S1 R1 h1 => P.nx _ _ _ _ _ _ e1 S1 (R.ext e1) h1, PX⟩
theorem sd_ret (ha : PED X W e a) : PSD X W (.Return (some e) pos) (sRet a) := ps_weak (ps_ret ha) fun T σ H ⟨F, ρ, κ, δ, XD, DD, S, R, h, P, PX⟩ => ⟨F, ρ, κ, δ, XD, _, S, R, h, P.rt, PX⟩
theorem sd_if (ht : PTD X W e t) (h1 : PSsD X W sts u) (h2 : PSsD X W sts2 v) : PSD X W (.If e sts sts2 pos) (sIf t u v) := ps_weak (ps_if ht h1 h2) fun T σ H ⟨F, ρ, κ, δ, XD, DD, S, R, h, P, PX⟩ =>
  ⟨F, ρ, κ, δ, XD, _, S, R, h, fun F1 ρ1 κ1 H1 k e1 S1 h1 => by
    cases k with
    | true => exact ⟨F1, ρ1, κ1, δ, XD, DD, S1, R.ext e1, h1, P.ext e1, PX.ext e1⟩
    | false => exact ⟨F1, ρ1, κ1, δ, XD, DD, S1, R.ext e1, h1, P.ext e1, PX.ext e1⟩, PX⟩
theorem sd_asg {tg : Expr} (ha : PED X W e a) (hg : PGD X W tg g) (hs : swapsWithSole [tg] e pos.line X.env = pure false := by rfl) (hw : swappedStores [tg] e X.env = pure none := by rfl)
    (h1 : (assignEach [tg] X.env).map (·.2) = [assign tg X.env] := by rfl) : PSD X W (.Assign [tg] e pos) (sAsg a g) := ps_weak (ps_asg ha hg hs hw h1) fun T σ H ⟨F, ρ, κ, δ, XD, DD, S, R, h, P, PX⟩ =>
  ⟨F, ρ, κ, δ, XD, _, S, R, h, fun F1 ρ1 κ1 H1 x v e1 S1 R1 h1 => ⟨F1, ρ1, κ1, δ, x, XD, _, S1, R.ext e1, R1, h1, P.nx.ext e1, PX.ext e1⟩, PX⟩
theorem sd_set (i : Nat) {x : Str} {pos' : Pos} (hN : X.N.Nodup) (ha : PED X W e a) (hi : X.N[i]? = some x := by rfl) (hx : L2.Loc X.env.scope x := by first | exact Or.inl rfl | exact Or.inr rfl) (hs : swapsWith e (some (.Name x pos')) pos.line X.env = pure false := by rfl)
    (hf : X.fn x = true ∨ X.env.scope.names.lookup x = some .local := by first | exact .inl rfl | exact .inr rfl | assumption) : PSD X W (.Assign [.Name x pos'] e pos) (sAsg a (gN i)) := ps_weak (ps_set hN hi hx ha hs hf) fun T σ H ⟨F, ρ, κ, δ, XD, DD, S, R, h, P, PX⟩ =>
  ⟨F, ρ, κ, δ, XD, _, S, R, h, fun F1 ρ1 κ1 H1 x v e1 S1 R1 h1 => P.nx _ _ _ _ _ _ e1 S1 ((R.ext e1).set R1 i) h1, PX⟩
end
/-! ### what is walked -/
/-- an iterator J of the hand layer goes through the data items while g holds of the cells -/
def ItOk (C : Ctx) (F : Hp) (ρ : Loc0) (J : It) (items : List D) (g : Kap → Prop) : Prop := ∀ F' ρ' κ' H' (i : Nat), Ext F ρ F' ρ' → StR C F' ρ' κ' H' → g κ' →
  (i = items.length → J.stop i H') ∧ ∀ d, items[i]? = some d → J.go i H' ∧ ∀ x H2, J.yld i H' x H2 → ∃ F2, Ext F' ρ' F2 ρ' ∧ StR C F2 ρ' κ' H2 ∧ Rep C F2 ρ' d x
abbrev DI := DEnv → Kap → DX → (List D → (Kap → Prop) → Kap → Prop) → Prop
def liftI (C : Ctx) (W : WX) (di : DI) : TI := fun σ H R => ∃ F ρ κ δ XD QD, StR C F ρ κ H ∧ RepS C F ρ δ σ ∧ di δ κ XD QD ∧
  (∀ F' ρ' κ' H' J items g, Ext F ρ F' ρ' → StR C F' ρ' κ' H' → ItOk C F' ρ' J items g → QD items g κ' → R J H') ∧ PostX C F ρ XD W
abbrev PID (X : Cx) (W : WX) (tg e : Expr) (di : DI) : Prop := PI X tg e (liftI (CtxOf X) W di)
theorem pi_weak {X : Cx} {tg e : Expr} {t t' : TI} (h : PI X tg e t) (w : ∀ σ H Q, t' σ H Q → t σ H Q) : PI X tg e t' := ⟨fun pins s σ H Q I q => h.run pins s σ H Q I (w σ H Q q)⟩
def gTrue : Kap → Prop := fun _ => True
/-- a list, a tuple, a text, a cell's list (that stays as it is) -/
def charsD (x : Str) : List D := x.cps.toList.map fun c => .str ⟨#[c]⟩
def iSeq (a : DE) : DI := fun δ κ X Q => a δ κ X fun d κ1 => match d with
  | .str x => Q (charsD x) gTrue κ1
  | .cell n => match κ1 n with
    | some (.live .lst xs) => Q xs (fun κ => κ n = some (.live .lst xs)) κ1
    | _ => False
  | d => match view d κ1 with
    | some (.lst, xs) => Q xs gTrue κ1
    | some (.klst, xs) => Q xs gTrue κ1
    | some (.tup, xs) => Q xs gTrue κ1
    | _ => False
theorem itOk_l {C : Ctx} {F : Hp} {ρ : Loc0} {k : PySem.W.Frag} {a : Addr} {vs : List V} {xs : List D} {g : Kap → Prop} (hk : ∀ F' ρ' κ' H', Ext F ρ F' ρ' → StR C F' ρ' κ' H' → g κ' → SqL C.K H' a vs) (hu : ∀ F' ρ' κ' H' ws, Ext F ρ F' ρ' → StR C F' ρ' κ' H' → g κ' → SqL C.K H' a ws → True)
    (r : RepL C F ρ xs vs) : ItOk C F ρ (Itl C.K a) xs g := fun F' ρ' κ' H' i e S hg => ⟨fun hi => ⟨vs, hk _ _ _ _ e S hg, by rw [← r.length]; omega⟩, fun d hd => by
    obtain ⟨v, hv, rv⟩ := (r.ext e).get hd
    refine ⟨⟨vs, v, hk _ _ _ _ e S hg, hv⟩, fun x H2 ⟨h1, h2⟩ => ?_⟩
    subst h1
    have ev : v = x := Option.some.inj (hv.symm.trans (h2 vs (hk _ _ _ _ e S hg)))
    subst ev
    exact ⟨F', Ext.refl _ _, S, rv⟩⟩
theorem itOk_t {C : Ctx} {F : Hp} {ρ : Loc0} {a : Addr} {vs : List V} {xs : List D} {g : Kap → Prop} (hk : ∀ F' ρ' κ' H', Ext F ρ F' ρ' → StR C F' ρ' κ' H' → g κ' → SqT C.K H' a vs)
    (r : RepL C F ρ xs vs) : ItOk C F ρ (Itt C.K a) xs g := fun F' ρ' κ' H' i e S hg => ⟨fun hi => ⟨vs, hk _ _ _ _ e S hg, by rw [← r.length]; omega⟩, fun d hd => by
    obtain ⟨v, hv, rv⟩ := (r.ext e).get hd
    refine ⟨⟨vs, v, hk _ _ _ _ e S hg, hv⟩, fun x H2 ⟨h1, h2⟩ => ?_⟩
    subst h1
    have ev : v = x := Option.some.inj (hv.symm.trans (h2 vs (hk _ _ _ _ e S hg)))
    subst ev
    exact ⟨F', Ext.refl _ _, S, rv⟩⟩
theorem itOk_s {C : Ctx} {F : Hp} {ρ : Loc0} {x : Str} : ItOk C F ρ (Its x) (charsD x) gTrue := fun F' ρ' κ' H' i e S hg => ⟨fun hi => by
    show x.cps.size ≤ i
    rw [hi]; unfold charsD; rw [List.length_map, Array.length_toList]; exact Nat.le_refl _, fun d hd => by
    unfold charsD at hd
    rw [List.getElem?_map, Option.map_eq_some_iff] at hd
    obtain ⟨c, hc, rfl⟩ := hd
    rw [Array.getElem?_toList] at hc
    have hlt : i < x.cps.size := by
      obtain ⟨h, _⟩ := Array.getElem?_eq_some_iff.mp hc
      exact h
    refine ⟨hlt, fun y H2 ⟨h1, c', h2, h3⟩ => ?_⟩
    subst h1 h3
    rw [hc] at h2
    cases h2
    exact ⟨F', Ext.refl _ _, S, .str _⟩⟩
section
variable {X : Cx} {pins : List (Addr × Obj)} {σ : L2.St} {H : Hp} {s : Shared} {R : It → Hp → Prop} {tg : Expr} {E : Value → Shared → Prop}
theorem iter_l (I : L2.Inv X pins σ H s) {p : Addr} {xs : List V} (hq : SqL X.K H p xs) (q : R (Itl X.K p) H) : wpAny (model X.prog X.w) X.A (pyIter (.ref p)) (PIE X pins σ tg R) E s := by
  obtain ⟨its, rv, pl, hz⟩ := I.list hq
  exact wpAny_pyIter_list pl.isList (pi_one (tk := s.toks) I _ (turn_list p _) ⟨_, Heap.get?_push_size _ rfl, rfl, rfl⟩ q)
theorem iter_t (I : L2.Inv X pins σ H s) {p : Addr} {xs : List V} (hq : SqT X.K H p xs) (q : R (Itt X.K p) H) : wpAny (model X.prog X.w) X.A (pyIter (.ref p)) (PIE X pins σ tg R) E s := by
  obtain ⟨its, rv, pl, hz⟩ := I.tuple hq
  exact wpAny_pyIter_tuple (show s.heap.IsTuple p its.toArray from pl) (pi_one (tk := s.toks) I _ (turn_tuple p _) ⟨_, Heap.get?_push_size _ rfl, rfl, rfl⟩ q)
theorem iter_s (I : L2.Inv X pins σ H s) {x : Str} {t : Tok} (q : R (Its x) H) : wpAny (model X.prog X.w) X.A (pyIter (.str x t)) (PIE X pins σ tg R) E s := by
  cases ha : x.cps.all (· < 128)
  · exact wpAny_pyIter_wide ha (pi_one (tk := s.toks) I _ (turn_str _ x t "str_iterator" (.inr rfl)) ⟨_, Heap.get?_push_size _ rfl, rfl, rfl⟩ q)
  · exact wpAny_pyIter_ascii ha (pi_one (tk := s.toks) I _ (turn_str _ x t "str_ascii_iterator" (.inl rfl)) ⟨_, Heap.get?_push_size _ rfl, rfl, rfl⟩ q)
end
/-- a value that can be walked, as an iterator -/
def ItV (K : PySem.W.Frag) (v : V) (H : Hp) (R : It → Hp → Prop) : Prop := (∃ x, v = .str x ∧ R (Its x) H) ∨ (∃ p xs, v = .ref p ∧ SqL K H p xs ∧ R (Itl K p) H) ∨ ∃ p xs, v = .ref p ∧ SqT K H p xs ∧ R (Itt K p) H
theorem pi_val {X : Cx} {tg e : Expr} {te : TE} (he : PE X e te) : PI X tg e (fun σ H R => te σ H fun v H1 => ItV X.K v H1 R) := by
  refine ⟨fun pins s σ H R I h => thn (he.run pins s σ H _ I h) fun u s1 ⟨v, H1, I1, r1, q⟩ => ?_⟩
  rcases q with ⟨x, rfl, q⟩ | ⟨p, xs, rfl, hq, q⟩ | ⟨p, xs, rfl, hq, q⟩
  · obtain ⟨t, rfl⟩ := r1
    exact iter_s I1 q
  · cases r1
    exact iter_l I1 hq q
  · cases r1
    exact iter_t I1 hq q
theorem pi_seqD {X : Cx} {W : WX} {tg e : Expr} {a : DE} (ha : PED X W e a) : PID X W tg e (iSeq a) := by
  refine pi_weak (pi_val ha) fun σ H Q ⟨F, ρ, κ, δ, XD, QD, S, R, h, P, PX⟩ => ⟨F, ρ, κ, δ, XD, _, S, R, h, fun F1 ρ1 κ1 H1 d v e1 S1 R1 h1 => ?_, PX⟩
  cases d with
  | str x => cases R1; exact .inl ⟨x, rfl, P _ _ _ _ _ _ _ e1 S1 itOk_s h1⟩
  | cell n =>
    have h1' : (match κ1 n with
      | some (.live .lst xs) => QD xs (fun κ => κ n = some (.live .lst xs)) κ1
      | _ => False) := h1
    cases ek : κ1 n with
    | none => rw [ek] at h1'; exact h1'.elim
    | some c =>
      cases c with
      | dead => rw [ek] at h1'; exact h1'.elim
      | live k xs =>
        rw [ek] at h1'
        cases k <;> first | exact h1'.elim | skip
        obtain ⟨p, vs, rfl, hr, hm, rl⟩ := cell_at S1 R1 ek
        refine .inr (.inl ⟨p, vs, rfl, SqL.of hm, P _ _ _ _ _ _ _ e1 S1 ?_ h1'⟩)
        intro F2 ρ2 κ2 H2 i e2 S2 hg
        obtain ⟨p2, vs2, r2, _, hm2, rl2⟩ := S2.live n _ _ hg
        rw [e2.r _ _ hr] at r2
        cases r2
        refine ⟨fun hi => ⟨vs2, SqL.of hm2, by rw [← rl2.length]; omega⟩, fun d hd => ?_⟩
        obtain ⟨w, hv, rv⟩ := rl2.get hd
        refine ⟨⟨vs2, w, SqL.of hm2, hv⟩, fun x H3 ⟨h3, h4⟩ => ?_⟩
        subst h3
        have ev : w = x := Option.some.inj (hv.symm.trans (h4 vs2 (SqL.of hm2)))
        subst ev
        exact ⟨F2, Ext.refl _ _, S2, rv⟩
  | node k xs =>
    cases R1 with
    | @node _ _ a vs hh rr =>
      cases k <;> first | exact h1.elim | skip
      · exact .inr (.inl ⟨a, vs, rfl, SqL.of (S1.sub _ _ hh), P _ _ _ _ _ _ _ e1 S1 (itOk_l (k := X.K) (fun F' ρ' κ' H' e S _ => SqL.of (S.sub _ _ (e.f _ _ hh))) (fun _ _ _ _ _ _ _ _ _ => trivial) rr) h1⟩)
      · exact .inr (.inr ⟨a, vs, rfl, sqt_ext S1.sub hh, P _ _ _ _ _ _ _ e1 S1 (itOk_t (fun F' ρ' κ' H' e S _ => sqt_ext S.sub (sqt_ext e.f hh)) rr) h1⟩)
      · exact .inr (.inl ⟨a, vs, rfl, sql_ext S1.sub hh, P _ _ _ _ _ _ _ e1 S1 (itOk_l (k := X.K) (fun F' ρ' κ' H' e S _ => sql_ext S.sub (sql_ext e.f hh)) (fun _ _ _ _ _ _ _ _ _ => trivial) rr) h1⟩)
  | _ => exact h1.elim
/-- range(n), range(a, b) -/
def rangeD (lo : Int) (n : Nat) : List D := (List.range n).map fun i => D.int (lo + (i : Nat))
def iRange1 (as : DA) : DI := fun δ κ X Q => as δ κ X fun xs κ1 => match xs with
  | [.int j] => -(2 ^ 62) ≤ j ∧ j < 2 ^ 62 ∧ Q (rangeD 0 j.toNat) gTrue κ1
  | _ => False
theorem itOk_r {C : Ctx} {F : Hp} {ρ : Loc0} {lo : Int} {n : Nat} : ItOk C F ρ (Itr lo n) (rangeD lo n) gTrue := fun F' ρ' κ' H' i e S hg => by
  unfold rangeD
  refine ⟨fun hi => by show n ≤ i; rw [hi, List.length_map, List.length_range]; exact Nat.le_refl _, fun d hd => ?_⟩
  rw [List.getElem?_map, Option.map_eq_some_iff] at hd
  obtain ⟨j, hj, rfl⟩ := hd
  obtain ⟨h1, h2⟩ := List.getElem?_eq_some_iff.mp hj
  rw [List.length_range] at h1
  rw [List.getElem_range] at h2
  subst h2
  refine ⟨h1, fun x H2 ⟨h3, h4⟩ => ?_⟩
  subst h3 h4
  exact ⟨F', Ext.refl _ _, S, .int _⟩
section
variable {X : Cx} {W : WX} {tg e1 e2 : Expr} {as : DA} {p pos : Pos}
theorem pi_range1D (hm : X.mg "range" = none) (ha : PAD X W [e1] as) (hg : Gl X "range" := by rfl) (hs : starEach [e1] X.env = [(false, eval e1 X.env)] := by rfl) : PID X W tg (.Call (.Name "range" p) [e1] [] pos) (iRange1 as) :=
  pi_weak (pi_range1 hg hm ha hs) fun σ H Q ⟨F, ρ, κ, δ, XD, QD, S, R, h, P, PX⟩ => ⟨F, ρ, κ, δ, XD, _, S, R, h, fun F1 ρ1 κ1 H1 xs vs e1 S1 R1 h1 => by
    match xs, h1 with
    | [.int j], h1 =>
      obtain ⟨v, rfl, r⟩ := repL1 R1
      cases r
      exact ⟨j, rfl, h1.1, h1.2.1, P _ _ _ _ _ _ _ e1 S1 itOk_r h1.2.2⟩, PX⟩
end
/-! ### for -/
def dLoop (g : DG) (b : DS) (gd : Kap → Prop) (X : DX) (T : DEnds) : List D → DEnv → Kap → Prop
  | [], δ, κ => gd κ ∧ T.nx δ κ
  | d :: ds, δ, κ => gd κ ∧ g d δ κ X fun δ1 κ1 => b δ1 κ1 X { nx := dLoop g b gd X T ds, ct := dLoop g b gd X T ds, bk := T.nx, rt := T.rt }
def sFor (it : DI) (g : DG) (b : DS) : DS := fun δ κ X T => it δ κ X fun items gd κ1 => dLoop g b gd X T items δ κ1
theorem dLoop_gd {g : DG} {b : DS} {gd : Kap → Prop} {X : DX} {T : DEnds} {ds : List D} {δ : DEnv} {κ : Kap} (h : dLoop g b gd X T ds δ κ) : gd κ := by
  cases ds with
  | nil => exact h.1
  | cons d ds => exact h.1
section
variable {X : Cx} {W : WX} {e : Expr} {tg : Expr} {sts : List Stmt} {it : DI} {g : DG} {b : DS} {pos : Pos} {k : Nat}
theorem sd_for (G : Good k X W) (hi : PID X W tg e it) (hg : PGD X W tg g) (hb : PSsD X W sts b) (hs : ∀ x, foldedSetIterable e X.env x = pure x := by intro _; rfl) : PSD X W (.For tg e sts [] pos) (sFor it g b) :=
  ps_weak (ps_for G.po G.calm hi hg hb hs) fun T σ H ⟨F, ρ, κ, δ, XD, DD, S, R, h, P, PX⟩ => by
  refine ⟨F, ρ, κ, δ, XD, _, S, R, h, fun F1 ρ1 κ1 H1 J items gd e1 S1 hJ h1 => ?_, PX⟩
  refine ⟨fun i m σ H => ∃ F2 ρ2 κ2 δ2, Ext F1 ρ1 F2 ρ2 ∧ StR (CtxOf X) F2 ρ2 κ2 H ∧ RepS (CtxOf X) F2 ρ2 δ2 σ ∧ i ≤ items.length ∧ m = items.length - i ∧ dLoop g b gd XD DD (items.drop i) δ2 κ2, ⟨_, F1, ρ1, κ1, δ, Ext.refl _ _, S1, R.ext e1, Nat.zero_le _, rfl, h1⟩, ?_⟩
  rintro i m σ H ⟨F2, ρ2, κ2, δ2, e2, S2, R2, hi, rfl, h2⟩
  obtain ⟨q1, q2⟩ := hJ F2 ρ2 κ2 H i e2 S2 (dLoop_gd h2)
  have e12 := e1.trans e2
  by_cases hlt : i < items.length
  · have hd : items[i]? = some items[i] := List.getElem?_eq_getElem hlt
    obtain ⟨q3, q4⟩ := q2 _ hd
    rw [List.drop_eq_getElem_cons hlt] at h2
    refine .inr ⟨q3, _, fun _ _ h => h, fun x H3 hy => ?_⟩
    obtain ⟨F3, e3, S3, R3⟩ := q4 x H3 hy
    have again : PostN (CtxOf X) F3 ρ2 (dLoop g b gd XD DD (items.drop (i + 1))) (fun σ' H' => ∃ m', m' < items.length - i ∧ ∃ F2 ρ2 κ2 δ2, Ext F1 ρ1 F2 ρ2 ∧ StR (CtxOf X) F2 ρ2 κ2 H' ∧ RepS (CtxOf X) F2 ρ2 δ2 σ' ∧ i + 1 ≤ items.length ∧ m' = items.length - (i + 1) ∧ dLoop g b gd XD DD (items.drop (i + 1)) δ2 κ2) :=
      fun F4 ρ4 κ4 H4 δ4 σ4 e4 S4 R4 h4 => ⟨_, by omega, F4, ρ4, κ4, δ4, e2.trans (e3.trans e4), S4, R4, hlt, rfl, h4⟩
    exact ⟨F3, ρ2, κ2, δ2, _, XD, _, S3, R2.ext e3, R3, h2.2, fun F4 ρ4 κ4 H4 δ4 σ4 e4 S4 R4 h4 => ⟨F4, ρ4, κ4, δ4, XD, _, S4, R4, h4, ⟨again.ext e4, P.rt.ext (e12.trans (e3.trans e4)), P.nx.ext (e12.trans (e3.trans e4)), again.ext e4⟩, PX.ext (e12.trans (e3.trans e4))⟩, PX.ext (e12.trans e3)⟩
  · have e : i = items.length := by omega
    subst e
    rw [List.drop_length] at h2
    exact .inl ⟨q1 rfl, P.nx _ _ _ _ _ _ e12 S2 R2 h2.2⟩
end
/-! ### list comprehensions -/
/-- the names that a comprehension's target binds: one (inl), or those of a tuple -/
abbrev TN := Sum Nat (List Nat)
def bindL : List Nat → List D → DEnv → Option DEnv
  | [], [], δ => some δ
  | i :: is, d :: ds, δ => bindL is ds (δ.set i (some d))
  | _, _, _ => none
def bindT (t : TN) (d : D) (δ : DEnv) (κ : Kap) : Option DEnv := match t with
  | .inl i => some (δ.set i (some d))
  | .inr is => match view d κ with
    | some (.tup, xs) => bindL is xs δ
    | _ => none
def gvL : List Nat → TGs
  | [] => gNil
  | i :: is => gCons (gName i) (gvL is)
def gvT (K : PySem.W.Frag) : TN → TG
  | .inl i => gName i
  | .inr is => gTup K is.length (gvL is)
theorem wipe_set {σ : L2.St} {x : Option V} {i : Nat} : ∀ {vs : List Nat}, i ∈ vs → L2.wipe (σ.set i x) vs = L2.wipe σ vs
  | v :: vs, h => by
    unfold L2.wipe
    by_cases hi : i ∈ vs
    · rw [wipe_set hi]
    · have hv : i = v := by
        rcases List.mem_cons.mp h with e | e
        · exact e
        · exact absurd e hi
      subst hv
      have key : ∀ (vs : List Nat) (σ : L2.St), i ∉ vs → L2.wipe (σ.set i x) vs = (L2.wipe σ vs).set i x := by
        intro vs
        induction vs with
        | nil => intro σ _; rfl
        | cons w vs ih =>
          intro σ hn
          unfold L2.wipe
          rw [ih σ (fun z => hn (List.mem_cons_of_mem _ z)), List.set_comm _ _ (fun z => hn (by rw [z]; exact List.mem_cons_self))]
      rw [key vs σ hi, List.set_set]
theorem wipe_wipe {σ : L2.St} : ∀ {vs ws : List Nat}, (∀ v ∈ vs, v ∈ ws) → L2.wipe (L2.wipe σ vs) ws = L2.wipe σ ws
  | [], _, _ => rfl
  | v :: vs, ws, h => by
    show L2.wipe ((L2.wipe σ vs).set v none) ws = _
    rw [wipe_set (h v List.mem_cons_self), wipe_wipe fun w hw => h w (List.mem_cons_of_mem _ hw)]
section
variable {C : Ctx} {F : Hp} {ρ : Loc0} {κ : Kap} {H : Hp}
theorem bindL_at {vs0 : List Nat} {σ0 : L2.St} {Q : L2.St → Hp → Prop} : ∀ {is : List Nat} {ds : List D} {vs : List V} {δ δ' : DEnv} {σ : L2.St}, (∀ i ∈ is, i ∈ vs0) → bindL is ds δ = some δ' → RepS C F ρ δ σ → RepL C F ρ ds vs → L2.wipe σ vs0 = σ0 →
    (∀ σ', RepS C F ρ δ' σ' → L2.wipe σ' vs0 = σ0 → Q σ' H) → gvL is vs σ H Q
  | [], [], _, _, _, _, _, h, R, .nil, hw, hq => by cases h; exact ⟨rfl, hq _ R hw⟩
  | i :: is, d :: ds, _, _, _, _, hi, h, R, .cons r t, hw, hq => ⟨_, _, rfl, bindL_at (fun j hj => hi j (List.mem_cons_of_mem _ hj)) h (R.set r i) t (by rw [wipe_set (hi i List.mem_cons_self)]; exact hw) hq⟩
theorem bindT_at {t : TN} {d : D} {v : V} {δ δ' : DEnv} {σ : L2.St} {vs0 : List Nat} {σ0 : L2.St} {Q : L2.St → Hp → Prop} (S : StR C F ρ κ H) (hi : ∀ i ∈ (match t with | .inl i => [i] | .inr is => is), i ∈ vs0) (h : bindT t d δ κ = some δ') (R : RepS C F ρ δ σ) (r : Rep C F ρ d v) (hw : L2.wipe σ vs0 = σ0)
    (hq : ∀ σ', RepS C F ρ δ' σ' → L2.wipe σ' vs0 = σ0 → Q σ' H) : gvT C.K t v σ H Q := by
  cases t with
  | inl i =>
    cases h
    exact hq _ (R.set r i) (by rw [wipe_set (hi i List.mem_cons_self)]; exact hw)
  | inr is =>
    have h' : (match view d κ with
      | some (.tup, xs) => bindL is xs δ
      | _ => none) = some δ' := h
    cases ev : view d κ with
    | none => rw [ev] at h'; cases h'
    | some p =>
      obtain ⟨k, xs⟩ := p
      rw [ev] at h'
      cases k <;> first | (cases h'; done) | skip
      obtain ⟨a, vs, rfl, hk, rl⟩ := view_at S r ev
      have hlen : ∀ {is : List Nat} {xs : List D} {δ δ' : DEnv}, bindL is xs δ = some δ' → xs.length = is.length := by
        intro is
        induction is with
        | nil => intro xs δ δ' h; cases xs with
          | nil => rfl
          | cons => cases h
        | cons i is ih => intro xs δ δ' h; cases xs with
          | nil => cases h
          | cons x xs => exact congrArg (· + 1) (ih h)
      exact ⟨a, vs, rfl, hk, by rw [← rl.length]; exact hlen h', bindL_at hi h' R rl hw hq⟩
end
abbrev XF : DX := fun _ _ _ _ => False
abbrev WF : WX := fun _ _ _ _ => False
def lcLoop (n : Nat) (t : TN) (tt : DT) (e : DE) (gd : Kap → Prop) (vs : List Nat) (δ : DEnv) (fin : List D → Kap → Prop) : List D → List D → Kap → Prop
  | [], acc, κ => gd κ ∧ fin acc κ
  | d :: ds, acc, κ => gd κ ∧ ∃ δ1, bindT t d (dwipe δ vs) κ = some δ1 ∧ tt δ1 κ XF fun b κ2 => if b = true then e δ1 κ2 XF fun y κ3 => κ3 n = some (.live .lst acc) ∧ acc.length < sizeLine ∧ lcLoop n t tt e gd vs δ fin ds (acc ++ [y]) (kset κ3 n (.live .lst (acc ++ [y])))
      else lcLoop n t tt e gd vs δ fin ds acc κ2
def dLc (m : Bool) (it : DI) (t : TN) (tt : DT) (e : DE) (vs : List Nat) : DE := fun δ κ X Q => it δ κ X fun items gd κ1 => ∀ n, κ1 n = none →
  lcLoop n t tt e gd vs δ (fun acc κ' => κ' n = some (.live .lst acc) ∧ if m = true then Q (.cell n) κ' else Q (.lst acc) (kset κ' n .dead)) items [] (kset κ1 n (.live .lst []))
def tYesD : DT := fun _ κ _ Q => Q true κ
theorem lc_gd {n : Nat} {t : TN} {tt : DT} {e : DE} {gd : Kap → Prop} {vs : List Nat} {δ : DEnv} {fin : List D → Kap → Prop} {ds acc : List D} {κ : Kap} (h : lcLoop n t tt e gd vs δ fin ds acc κ) : gd κ := by
  cases ds with
  | nil => exact h.1
  | cons d ds => exact h.1
theorem lift_lc {C : Ctx} {W : WX} {m : Bool} {it : DI} {t : TN} {tt : DT} {e : DE} {vs : List Nat} {ttv : TT} {ev : TE} (ht : ∀ {σ H Q}, liftT C WF tt σ H Q → ttv σ H Q) (he : ∀ {σ H Q}, liftE C WF e σ H Q → ev σ H Q) (hi : ∀ i ∈ (match t with | .inl i => [i] | .inr is => is), i ∈ vs)
    {σ : L2.St} {H : Hp} {Q : VK} (h : liftE C W (dLc m it t tt e vs) σ H Q) : tLc (liftI C W it) (gvT C.K t) ttv ev vs σ H Q := by
  obtain ⟨F, ρ, κ, δ, XD, QD, S, R, h, P, PX⟩ := h
  refine ⟨F, ρ, κ, δ, XD, _, S, R, h, fun F1 ρ1 κ1 H1 J items gd e1 S1 hJ h1 D0 hD => ?_, PX⟩
  obtain ⟨n, hn⟩ := S1.fresh
  obtain ⟨ρ2, e2, hr2, S2⟩ := S1.cell (o := .lst []) (k := .lst) (vs := []) (xs := []) hD (fun _ q => q) .nil hn
  have h2 := h1 n hn
  refine ⟨fun i m H => ∃ F3 ρ3 κ3 acc, Ext F1 ρ2 F3 ρ3 ∧ StR C F3 ρ3 κ3 H ∧ i ≤ items.length ∧ m = items.length - i ∧ lcLoop n t tt e gd vs δ _ (items.drop i) acc κ3, ⟨_, F1, ρ2, _, [], Ext.refl _ _, S2, Nat.zero_le _, rfl, h2⟩, ?_⟩
  rintro i m' H ⟨F3, ρ3, κ3, acc, e3, S3, hi3, rfl, h3⟩
  have e23 := e2.trans e3
  have hr3 := e3.r _ _ hr2
  obtain ⟨q1, q2⟩ := hJ F3 ρ3 κ3 H i e23 S3 (lc_gd h3)
  by_cases hlt : i < items.length
  · have hd : items[i]? = some items[i] := List.getElem?_eq_getElem hlt
    obtain ⟨q3, q4⟩ := q2 _ hd
    rw [List.drop_eq_getElem_cons hlt] at h3
    obtain ⟨_, δ1, hb, h4⟩ := h3
    refine .inr ⟨q3, _, fun _ h => h, fun x H4 hy => ?_⟩
    obtain ⟨F4, e4, S4, R4⟩ := q4 x H4 hy
    have e34 := e23.trans e4
    refine bindT_at (σ0 := L2.wipe σ vs) S4 hi hb ((R.ext (e1.trans e34)).wipe vs) R4 (wipe_wipe fun _ h => h) fun σ5 R5 hw => ⟨hw, ht ⟨F4, ρ3, κ3, δ1, XF, _, S4, R5, h4, fun F5 ρ5 κ5 H5 b e5 S5 h5 => ?_, fun _ _ _ _ _ _ _ _ _ _ _ _ _ _ h => h.elim⟩⟩
    have e45 := e34.trans e5
    cases b with
    | true =>
      show ev σ5 H5 _
      refine he ⟨F5, ρ5, κ5, δ1, XF, _, S5, R5.ext e5, h5, fun F6 ρ6 κ6 H6 y v e6 S6 R6 ⟨h6, h7, h8⟩ => ?_, fun _ _ _ _ _ _ _ _ _ _ _ _ _ _ h => h.elim⟩
      have e36 := (e3.trans e4).trans (e5.trans e6)
      obtain ⟨a, ws, g1, g2, g3, g4⟩ := S6.live n _ _ h6
      rw [e36.r _ _ hr2] at g1
      cases g1
      have g3' : H6 D0 = some (.lst ws) := g3
      refine ⟨ws, g3', by rw [← g4.length]; exact h7, items.length - (i + 1), by omega, F6, ρ6, _, _, e36, ?_, hlt, rfl, h8⟩
      exact S6.write (k' := .lst) h6 (e36.r _ _ hr2) (fun _ q => q) (g4.append (.cons R6 .nil))
    | false =>
      show ∃ m', m' < items.length - i ∧ _
      exact ⟨items.length - (i + 1), by omega, F5, ρ5, κ5, acc, (e3.trans e4).trans e5, S5, hlt, rfl, h5⟩
  · have e : i = items.length := by omega
    subst e
    rw [List.drop_length] at h3
    obtain ⟨_, h4, h5⟩ := h3
    refine .inl ⟨q1 rfl, ?_⟩
    cases m with
    | true => exact P _ _ _ _ _ _ (e1.trans e23) S3 (.cell hr3) h5
    | false =>
      obtain ⟨F4, e4, r4, S4⟩ := S3.freeze h4 hr3
      exact P _ _ _ _ _ _ (e1.trans (e23.trans e4)) S4 r4 h5
section
variable {X : Cx} {W : WX} {elt tg iter : Expr} {ifs : List Expr} {it : DI} {tt : DT} {a : DE} {pos : Pos} {k : Nat} {scope : Scope}
abbrev PTsD (X : Cx) (W : WX) (ifs : List Expr) (dt : DT) : Prop := PTs X ifs (liftT (CtxOf X) W dt)
theorem pts_nilD : PTsD X W [] tYesD := ⟨fun pins s σ H Q I ⟨F, ρ, κ, δ, XD, QD, S, R, h, P, PX⟩ => pts_nil.run pins s σ H Q I (P _ _ _ _ _ (Ext.refl _ _) S h)⟩
theorem pts_oneD {e : Expr} (h : PTD X W e tt) : PTsD X W [e] tt := pts_one h
theorem pd_lc (m : Bool) (own : List (Str × Nat)) (t : TN) (G : Good k X W) (hi : PID X W tg iter it) (hg : ∀ (s : Shared) (H : Hp) (C : Addr) (cl : List (Str × Addr)) (fp : List Addr), PG (X.blk s H scope (compEnvC scope cl C X.env) fp) tg (gvT X.K t))
    (ht : ∀ (s : Shared) (H : Hp) (C : Addr) (cl : List (Str × Addr)) (fp : List Addr), PTsD (X.blk s H scope (compEnvC scope cl C X.env) fp) WF ifs tt) (he : ∀ (s : Shared) (H : Hp) (C : Addr) (cl : List (Str × Addr)) (fp : List Addr), PED (X.blk s H scope (compEnvC scope cl C X.env) fp) WF elt a)
    (ok : blkC X.N X.env.scope scope own = true := by kernel_rfl) (hin : ∀ i ∈ (match t with | .inl i => [i] | .inr is => is), i ∈ own.map (·.2) := by decide) (hs : ∀ x, foldedSetIterable iter X.env x = pure x := by intro _; rfl) :
    PED X W (.ListComp elt [⟨tg, iter, ifs, 0⟩] scope pos) (dLc m it t tt a (own.map (·.2))) := pe_weak (pe_lc G.calm G.nd hi (blkOk_by ok) hg ht he hs) fun _ _ _ => lift_lc id id hin
theorem sd_setLc (i : Nat) (m : Bool) (own : List (Str × Nat)) (t : TN) {y : Str} {py spos : Pos} (G : Good k X W) (hi : PID X W tg iter it) (hg : ∀ (s : Shared) (H : Hp) (C : Addr) (cl : List (Str × Addr)) (fp : List Addr), PG (X.blk s H scope (compEnvC scope cl C X.env) fp) tg (gvT X.K t))
    (ht : ∀ (s : Shared) (H : Hp) (C : Addr) (cl : List (Str × Addr)) (fp : List Addr), PTsD (X.blk s H scope (compEnvC scope cl C X.env) fp) WF ifs tt) (he : ∀ (s : Shared) (H : Hp) (C : Addr) (cl : List (Str × Addr)) (fp : List Addr), PED (X.blk s H scope (compEnvC scope cl C X.env) fp) WF elt a)
    (hsw : swapsWith (.ListComp elt [⟨tg, iter, ifs, 0⟩] scope pos) (some (.Name y py)) spos.line X.env = pure true := by exact sw_true rfl rfl rfl (by decide +kernel))
    (hy : X.N[i]? = some y := by rfl) (hyl : X.env.scope.names.lookup y = some .local := by rfl)
    (ok : blkC X.N X.env.scope scope own = true := by kernel_rfl) (hin : ∀ i ∈ (match t with | .inl i => [i] | .inr is => is), i ∈ own.map (·.2) := by decide) (hs : ∀ x, foldedSetIterable iter X.env x = pure x := by intro _; rfl) :
    PSD X W (.Assign [.Name y py] (.ListComp elt [⟨tg, iter, ifs, 0⟩] scope pos) spos) (sAsg (dLc m it t tt a (own.map (·.2))) (gN i)) :=
  ps_weak (ps_setLc G.calm G.nd hy hyl hsw hi (blkOk_by ok) hg ht he hs) fun T σ H ⟨F, ρ, κ, δ, XD, DD, S, R, h, P, PX⟩ =>
  lift_lc id id hin ⟨F, ρ, κ, δ, XD, _, S, R, h, fun F1 ρ1 κ1 H1 x v e1 S1 R1 h1 => P.nx _ _ _ _ _ _ e1 S1 ((R.ext e1).set R1 i) h1, PX⟩
end
end DL
/-! DL: defs, calls, the law's end. -/
namespace DL
open PySem PySem.Spec PyProof.Rows L2
def PostXE (C : Ctx) (F : Hp) (ρ : Loc0) (XD : Str → List D → Kap → Prop) (E : XK) : Prop := ∀ F' ρ' κ' H' c fs cls dd, Ext F ρ F' ρ' → StR C F' ρ' κ' H' → RepX C F' ρ' c fs cls dd → XD c fs κ' → E cls dd H'
/-- a def keeps a promise over data -/
structure FnG (P : Program) (w : World) (K : PySem.W.Frag) (mg : Str → Option Value) (base : Heap) (k : Nat) (f : Addr) (fd : FuncData) (ps : List Str) (sp : DSp) : Prop where
  len : ∀ ds κ XD Q, sp ds κ XD Q → ds.length = ps.length
  run : ∀ (A : Around) (outer : List Env) (s : Shared) (H : Hp) (args : Args) (us : List Value) (vs : List V) (ds : List D) (F : Hp) (ρ : Loc0) (κ : Kap) (XD : Str → List D → Kap → Prop) (QD : DQ) (Q : VK) (E : XK), Room k A → A.guards = some [] →
    Env0 P w K mg base A outer s H → BindsTo s fd args (ps.zip us) → Vals vs us → StR ⟨K, mg⟩ F ρ κ H → RepL ⟨K, mg⟩ F ρ ds vs → sp ds κ XD QD → Post ⟨K, mg⟩ F ρ QD Q → PostXE ⟨K, mg⟩ F ρ XD E →
    codeAny (model P w) A (.call (.ref f) args) (CR (L2N.CX P w) outer P w H s Q E) s
theorem FnG.mono {P : Program} {w : World} {K : PySem.W.Frag} {mg : Str → Option Value} {base : Heap} {j k : Nat} {f : Addr} {fd : FuncData} {ps : List Str} {sp : DSp} (F : FnG P w K mg base j f fd ps sp) (h : j ≤ k) : FnG P w K mg base k f fd ps sp :=
  ⟨F.len, fun A outer s H args us vs ds F0 ρ κ XD QD Q E hr => F.run A outer s H args us vs ds F0 ρ κ XD QD Q E (hr.mono h)⟩
/-- a def's promise, by its body -/
def startD (n : Nat) (ds : List D) : DEnv := ds.map some ++ List.replicate (n - ds.length) none
def spOf (n m : Nat) (b : DS) : DSp := fun ds κ XD Q => ds.length = m ∧ b (startD n ds) κ (fun _ c fs κ' => XD c fs κ') { nx := fun _ κ' => Q .non κ', rt := Q }
theorem repS_start {C : Ctx} {F : Hp} {ρ : Loc0} {N : List Str} {ds : List D} {vs : List V} (r : RepL C F ρ ds vs) : RepS C F ρ (startD N.length ds) (L2.start N vs) := by
  unfold startD L2.start
  refine ⟨by simp only [List.length_append, List.length_map, List.length_replicate, r.length], fun i d h => ?_⟩
  by_cases hi : i < ds.length
  · rw [List.getElem?_append_left (by rw [List.length_map]; exact hi), List.getElem?_map] at h
    rw [List.getElem?_append_left (by rw [List.length_map, ← r.length]; exact hi), List.getElem?_map]
    cases e : ds[i]? with
    | none => rw [e] at h; cases h
    | some d' =>
      rw [e] at h
      cases h
      obtain ⟨v, h1, h2⟩ := r.get e
      exact ⟨v, by rw [h1]; rfl, h2⟩
  · rw [List.getElem?_append_right (by rw [List.length_map]; omega), List.getElem?_replicate] at h
    split at h <;> cases h
abbrev cxD (P : Program) (w : World) (K : PySem.W.Frag) (mg : Str → Option Value) (base : Heap) (N : List Str) (qual : Str) (scope : Scope) (f : Addr) (cd : Value) (A : Around) (outer : List Env) (s : Shared) (H : Hp) (E : XK) : Cx :=
  cxOf (L2N.CX P w) P w K mg base N qual scope f cd A outer s H E
abbrev wxE (E : XK) : WX := fun cls d _ H => E cls d H
section
variable {P : Program} {w : World} {K : PySem.W.Frag} {mg : Str → Option Value} {base : Heap}
/-- THE RULE for a def -/
theorem Fn_ok {x qual : Str} {st : Stmt} {f : Addr} {fd : FuncData} {N ps : List Str} {k : Nat} {b : DS} (F : Fun K x qual st f fd) (S : FnScope N ps (defScope st)) (sm : ∃ o, base.get? sysModules = some o)
    (hbody : ∀ (cdv : Value) (A : Around) (outer : List Env) (s : Shared) (H : Hp) (E : XK), Good k (cxD P w K mg base N qual (defScope st) f cdv A outer s H E) (wxE E) → PSsD (cxD P w K mg base N qual (defScope st) f cdv A outer s H E) (wxE E) (defBody st) b) :
    FnG P w K mg base (k + 1) f fd ps (spOf N.length ps.length b) := by
  refine ⟨fun ds κ XD Q h => h.1, fun A outer s H args us vs ds F0 ρ κ XD QD Q E hr hg e0 hb rv S0 R0 hsp PQ PE => ?_⟩
  obtain ⟨oc, od, kV, doc, pm, an, cdv, ct, osl, rfl, lk, hcd⟩ := F.ex
  have hl : vs.length = ps.length := by rw [← R0.length, hsp.1]
  have KX : K.In s.heap := e0.mod.kin.keeps fun b o e => (e0.bs b o e).1
  have lim : s.heap.NoLimit := e0.mod.nolimit.keeps fun b o e => (e0.bs b o e).1
  have kinds : ∀ y ∈ ps.zip us, (defScope st).names.lookup y.1 = some .local ∨ ((defScope st).names.lookup y.1 = some .cell ∧ ((cellsFrom (s.heap.objs.size + 1) (defScope st).names []).lookup y.1).isSome = true) := fun y hy => by
    rcases S.par y.1 (List.of_mem_zip (a := y.1) (b := y.2) hy).1 with q | q
    · exact .inl q
    · exact .inr ⟨q, PySem.W.cellsFrom_some _ _ _ (.inl q)⟩
  refine codeAny_call_function hr.depth (KX _ _ lk) rfl S.co S.gen rfl (PySem.W.codeRec_of KX hcd) (hb _ _ _ _ (wpAny_newFunctionEnv_cells S.kind kinds fun env he s1 x => ?_))
  subst he
  refine ⟨lim.keeps x.toInCall.keep, codeAny_func ?_⟩
  have I := inv_start (CX := L2N.CX P w) (N := N) (qual := qual) (E := E) (f := f) (cd := cdv) S hr.hd e0 hl rv x
  have g : Good k (cxD P w K mg base N qual (defScope st) f cdv A outer s H E) (wxE E) :=
    ⟨L2N.takes_of rfl rfl rfl rfl, passes_of rfl, hr.deeper _, hg, sm, rfl, S.nd⟩
  refine wpAny_mono ((hbody cdv A outer s H E g).run [] s1 _ H ⟨fun _ H' => Q .non H', Q, fun _ _ => False, fun _ _ => False⟩ I
    ⟨F0, ρ, κ, startD N.length ds, _, _, S0, repS_start R0, hsp.2, ⟨fun F' ρ' κ' H' δ σ e S R q => PQ _ _ _ _ _ _ e S .non q, PQ, fun _ _ _ _ _ _ _ _ _ z => z.elim, fun _ _ _ _ _ _ _ _ _ z => z.elim⟩,
      fun F' ρ' κ' H' δ σ c fs cls dd e S R rx q => PE _ _ _ _ _ _ _ _ e S rx q⟩) (fun fl s' hs => ?_) fun e s' hs => hs
  cases fl with
  | ret u =>
    obtain ⟨v, σ', H', J, rv', q⟩ := hs
    exact ⟨v, H', J.os, J.bare, J.base, J.hok, rv', q⟩
  | next =>
    obtain ⟨σ', H', J, q⟩ := hs
    exact ⟨.non, H', J.os, J.bare, J.base, J.hok, rfl, q⟩
  | brk => obtain ⟨_, _, _, q⟩ := hs; exact q.elim
  | cont => obtain ⟨_, _, _, q⟩ := hs; exact q.elim
end
/-! ### calls -/
def dCall (sp : DSp) (dvs : List D) (as : DA) : DE := fun δ κ X Q => as δ κ X fun xs κ1 => sp (xs ++ dvs) κ1 (X δ) Q
section
variable {X : Cx} {W : WX} {k : Nat} {f : Addr} {fd : FuncData} {ps : List Str} {sp : DSp} {dvs : List D} {ds : List Value} {x : Str} {e : Expr} {es : List Expr} {as : DA} {p pos : Pos}
theorem run_fnG {pins : List (Addr × Obj)} {σ : L2.St} {δ : DEnv} {H : Hp} {s : Shared} {Q : VK} {us : List Value} {vs : List V} {args : Args} {xs : List D} {F : Hp} {ρ : Loc0} {κ : Kap} {XD : DX} {QD : DQ} (G : Good k X W) (F1 : FnG X.prog X.w X.K X.mg X.base k f fd ps sp) (I : L2.Inv X pins σ H s) (hb : BindsTo s fd args (ps.zip us)) (r : Vals vs us)
    (S : StR (CtxOf X) F ρ κ H) (R : RepS (CtxOf X) F ρ δ σ) (rr : RepL (CtxOf X) F ρ xs vs) (h : sp xs κ (XD δ) QD) (P : Post (CtxOf X) F ρ QD Q) (PX : PostX (CtxOf X) F ρ XD W) : wpAny (model X.prog X.w) X.A (call (.ref f) args.pos args.kw) (EP X pins σ Q) X.xe s := by
  refine wpAny_call (codeAny_mono (F1.run X.A X.stack s H args us vs xs F ρ κ _ _ Q (fun cls dd H' => W cls dd σ H') G.rm G.gd I.env0 hb r S rr h P fun F' ρ' κ' H' c fs cls dd e S' rx q => PX _ _ _ _ _ _ _ _ _ _ e S' (R.ext e) rx q) fun rs s' hq => ?_)
  cases rs with
  | error er => exact G.tk er s' (L2N.XE.of_call I (fun _ _ _ h => h) hq)
  | ok fl =>
    cases fl with
    | ret u => exact I.after hq
    | next => exact False.elim hq
    | brk => exact False.elim hq
    | cont => exact False.elim hq
theorem pd_call (G : Good k X W) (F1 : FnG X.prog X.w X.K X.mg X.base k f fd ps sp) (hm : X.mg x = some (.ref f)) (hk : PySem.W.keepIn X.K (.ref f) = true) (hb : Binds X.K fd ps ds) (hd : ∃ dv, Vals dv ds ∧ ∀ F ρ, RepL (CtxOf X) F ρ dvs dv)
    (ha : PAD X W (e :: es) as) (hg : Gl X x := by rfl) (hdb : (x == ("__debug__" : Str)) = false := by decide) (he : starEach (e :: es) X.env = (false, eval e X.env) :: starEach es X.env := by rfl) (hpl : (backTo pos (starEach es X.env)).any (·.1) = false := by rfl) :
    PED X W (.Call (.Name x p) (e :: es) [] pos) (dCall sp dvs as) := by
  refine ⟨fun pins s σ H Q I ⟨F, ρ, κ, δ, XD, QD, S, R, h, P, PX⟩ => ?_⟩
  refine wpAny_Call_Name_kw (ld_glob I hg hm ?_ hdb)
  refine PySem.W.callWith_K (h₀ := X.base) I.ok.mod.kin hk (thn (ha.run pos pins s σ H (fun vs H1 => ∃ F1 ρ1 κ1 xs, Ext F ρ F1 ρ1 ∧ StR (CtxOf X) F1 ρ1 κ1 H1 ∧ RepL (CtxOf X) F1 ρ1 xs vs ∧ sp (xs ++ dvs) κ1 (XD δ) QD) I
    ⟨F, ρ, κ, δ, XD, _, S, R, h, fun F1 ρ1 κ1 H1 xs vs e1 S1 R1 h1 => ⟨F1, ρ1, κ1, xs, e1, S1, R1, h1⟩, PX⟩) fun us s1 ⟨vs, H1, I1, r1, F2, ρ1, κ1, xs, e1, S1, R1, h1⟩ => ⟨I1.kIn, ?_⟩) he hpl
  obtain ⟨dv, v1, v2⟩ := hd
  have hl : (us ++ ds).length = ps.length := by
    rw [← F1.len _ _ _ _ h1, List.length_append, List.length_append, R1.length, Paired.length r1, (v2 F2 ρ1).length, Paired.length v1]
  exact run_fnG G F1 (args := ⟨us, []⟩) I1 (hb s1 us I1.kIn hl) (r1.append v1) S1 (R.ext e1) (R1.append (v2 _ _)) h1 (P.ext e1) (PX.ext e1)
end
/-- no defaults -/
theorem nodef {X : Cx} : ∃ dv, Vals dv ([] : List Value) ∧ ∀ F ρ, RepL (CtxOf X) F ρ [] dv := ⟨[], .nil, fun _ _ => .nil⟩
/-! ### the law's end -/
theorem repL_script {C : Ctx} {F : Hp} {ρ : Loc0} {a : Addr} {ns : List Int} (h : SqL C.K F a (ns.map V.int)) : RepL C F ρ [.node .klst (ns.map D.int)] [.ref a] :=
  .cons (.node (k := .klst) h RepL.ofInts) .nil
theorem law_end {P : Program} {w : World} {K : PySem.W.Frag} {mg mb : Str → Option Value} {k : Nat} {fa a : Addr} {fd : FuncData} {x : Str} {sp : DSp} {s1 : Shared} {vs : List Value} {ns : List Int}
    (KX : K.In s1.heap) (hns : s1.heap.Ns mainGlobals mg) (hb : s1.heap.Ns builtinsNs mb) (hbb : ∀ x : Str, x ≠ "__name__" → mb x = bootBuiltins x) (hlim : s1.heap.NoLimit) (hsm : ∃ mm, s1.heap.Ns sysModules mm) (hg : s1.gens = #[])
    (ha : s1.heap.get? a = some { cls := .type "list", data := .seq vs.toArray }) (hi : IntsAre vs ns) (hl : ns.length ≤ sizeLine) (hr : Room k callerA)
    (F : ∀ base : Heap, K.In base → base.Ns mainGlobals mg → (∃ o, base.get? sysModules = some o) → FnG P w K mg base k fa fd [x] sp) (hbind : ∀ (s : Shared) (u : Value), BindsTo s fd ⟨[u], []⟩ [(x, u)])
    (hsp : sp [.node .klst (ns.map D.int)] (fun _ => none) (fun _ _ _ => False) (fun d _ => d = .bl true)) :
    codeAny (model P w) callerA (.call (.ref fa) ⟨[.ref a], []⟩) (fun r s' => r = .ok (.ret (.bool true)) ∧ OldK s1.heap s'.heap ∧ s'.os = s1.os ∧ AllBare s'.gens) s1 := by
  have rv := vals_ints hi
  have lenV := hi.length
  -- an abstract heap in which at most the script is tracked
  have go : ∀ H : Hp, (∀ b u, H b = some u → b = a ∧ ∃ o xs, u = .frz o (.lst xs) ∧ s1.heap.get? a = some o) → SqL K H a (ns.map V.int) → HOk P w H s1.heap → (∀ u, H a = some u → K.lookup a = none) →
      codeAny (model P w) callerA (.call (.ref fa) ⟨[.ref a], []⟩) (fun r s' => r = .ok (.ret (.bool true)) ∧ OldK s1.heap s'.heap ∧ s'.os = s1.os ∧ AllBare s'.gens) s1 := by
    intro H hO hS hok hK
    have free : ∀ {b : Addr} {o : Obj}, s1.heap.get? b = some o → (∀ xs n, o.data ≠ .seq xs n) → H b = none := fun {b o} e d => by
      cases q : H b with
      | none => rfl
      | some u =>
        obtain ⟨rfl, _⟩ := hO b u q
        rw [ha] at e
        cases e
        exact absurd rfl (d _ _)
    have nsK : ∀ {b : Addr} {m : Str → Option Value}, s1.heap.Ns b m → (hidT s1.heap H).Ns b m := fun {b m} ⟨o, es, ep, e, d, r⟩ => ⟨o, es, ep, hidT_get e (free e fun xs n z => by rw [d] at z; cases z), d, r⟩
    have kin : K.In (hidT s1.heap H) := fun b o e => hidT_get (KX b o e) (by
      cases q : H b with
      | none => rfl
      | some u =>
        obtain ⟨rfl, _⟩ := hO b u q
        rw [hK u q] at e
        cases e)
    have hM : Mod K mg (hidT s1.heap H) := ⟨kin, nsK hns, ⟨mb, nsK hb, hbb⟩, let ⟨mc, h1, h2⟩ := hlim; ⟨mc, nsK h1, h2⟩⟩
    have e0 : Env0 P w K mg (hidT s1.heap H) callerA [] s1 H := ⟨rfl, hM, fun b o e => of_hidT e, Nat.le_of_eq (hidT_size _ _), trivial, fun b hb => (nomatch hb), hok, .of_eq hg⟩
    have sm : ∃ o, (hidT s1.heap H).get? sysModules = some o := by
      obtain ⟨mm, h⟩ := hsm
      obtain ⟨o, _, _, e, _⟩ := nsK h
      exact ⟨o, e⟩
    have st : StR ⟨K, mg⟩ H (fun _ => none) (fun _ => none) H := ⟨fun _ _ h => h, fun n k xs h => (nomatch h), fun n m a k xs k' xs' h => (nomatch h), fun _ _ => rfl, ⟨0, fun _ _ => rfl⟩⟩
    refine codeAny_mono ((F _ kin (nsK hns) sm).run callerA [] s1 H ⟨[.ref a], []⟩ [.ref a] [.ref a] _ H _ _ _ _ (fun v _ => v = .bl true) (fun _ _ _ => False) hr rfl e0 (hbind s1 (.ref a)) (.cons rfl .nil) st (repL_script hS) hsp
      (fun F' ρ' κ' H' d v e S r q => by subst q; cases r; rfl) (fun _ _ _ _ _ _ _ _ _ _ _ q => q.elim)) fun r s' h => ?_
    cases r with
    | error e =>
      obtain ⟨_, _, _, _, _, _, _, _, _, _, _, _, z⟩ := h
      exact z.elim
    | ok fl =>
      cases fl with
      | next => exact h.elim
      | brk => exact h.elim
      | cont => exact h.elim
      | ret u =>
        obtain ⟨v, H', os, bare, un, hok', r', q⟩ := h
        have q' : v = .bl true := q
        subst q'
        obtain rfl : u = Value.bool true := r'
        refine ⟨rfl, OldK.of_keep fun b o e => ?_, os, bare⟩
        cases q : H b with
        | none => exact un.keep b o e q (by intro z; exact (nomatch z)) (by simp)
        | some u =>
          obtain ⟨rfl, ob, xs, rfl, _⟩ := hO b u q
          have z2 := un.frzs b ob _ q
          obtain ⟨e1, _⟩ := hok b _ q
          obtain ⟨e2, _⟩ := hok' b _ z2
          rw [e] at e1
          cases e1
          exact e2
  cases hk : K.lookup a with
  | some o =>
    have e := KX a o hk
    rw [ha] at e
    cases e
    exact go (fun _ => none) (fun b u z => (nomatch z)) (.inr ⟨_, vs.toArray, _, hk, rfl, rfl, rfl, by rw [List.size_toArray, lenV]; exact hl, by simpa using rv⟩) (fun b u z => (nomatch z)) fun u z => (nomatch z)
  | none =>
    refine go (fun b => if b = a then some (.frz { cls := .type "list", data := .seq vs.toArray } (.lst (ns.map V.int))) else none) (fun b u z => ?_) (.inl (.inr ⟨{ cls := .type "list", data := .seq vs.toArray }, if_pos rfl⟩)) (fun b u z => ?_) fun _ _ => hk
    · by_cases hb : b = a
      · have z' := (if_pos hb).symm.trans z
        cases z'
        exact ⟨hb, _, _, rfl, ha⟩
      · have z' := (if_neg hb).symm.trans z
        cases z'
    · by_cases hb : b = a
      · have z' := (if_pos hb).symm.trans z
        cases z'
        subst hb
        exact ⟨ha, by rw [List.length_map]; exact hl, vs, _, rv, ha⟩
      · have z' := (if_neg hb).symm.trans z
        cases z'
theorem seer_sys {h : Heap} (x : h.NoSeer) : ∃ mm, h.Ns sysModules mm := let ⟨mm, e, _⟩ := x.mods; ⟨mm, e⟩
theorem walkD {l : PySem.W.OpenLaw} {n k : Nat} {q : Program} {loose : List Str} {XP : (Str → Option Value) → Heap → Prop} {YP : World → Heap → Prop} {d : DefRec} {K : Params → PySem.W.Frag} {sp : DSp} {x : Str}
    (hn : l.most = some n) (hn2 : n ≤ sizeLine) (hdf : d.params.defaults = []) (hr : Room k callerA) (himp : importsNone q = true) (hY : ∀ (w : World) (h : Heap), YP w h → (K w.params).In h)
    (F : ∀ (w : World) (mg : Str → Option Value) (fa : Addr) (h : Heap), (K w.params).In h → h.Ns mainGlobals mg → mg d.name = some (.ref fa) →
      ∃ fd : FuncData, (∀ (s : Shared) (u : Value), BindsTo s fd ⟨[u], []⟩ [(x, u)]) ∧
        ∀ base : Heap, (K w.params).In base → base.Ns mainGlobals mg → (∃ o, base.get? sysModules = some o) → FnG l.prog w (K w.params) mg base k fa fd [x] sp)
    (hsp : ∀ ns : List Int, ns.length ≤ n → sp [.node .klst (ns.map D.int)] (fun _ => none) (fun _ _ _ => False) (fun d _ => d = .bl true)) :
    PySem.W.WalkO q loose XP YP l.row.toRowW d [] (fun f vs => PySem.call f vs) := by
  refine Att.attach_call hn hdf fun w s0 s1 mg mb fa o pm cd doc a vs ns G Y ho hd hcd hmg hobj hints hlen hg => ?_
  have KX := hY w _ Y
  obtain ⟨fd, hb, hF⟩ := F w mg fa _ KX G.T.g hmg
  exact law_end KX G.T.g G.T.b G.T.builtins G.T.nolimit (seer_sys (G.T.seer himp)) hg hobj hints (Nat.le_trans hlen hn2) hr hF hb (hsp ns hlen)
end DL
/-! DL: isinstance, methods of texts and lists, own exceptions made and raised. -/
namespace DL
open PySem PySem.Spec PyProof.Rows L2
/-! ### types -/
/-- a thing's type: built-in, a class of objects, a class of exceptions -/
inductive TyK where
  | b (n : String)
  | o (c : Str)
  | e (c : Str)
  deriving DecidableEq
/-- a class asked for: built-in, own -/
inductive CK where
  | b (n : String)
  | c (c : Str)
  deriving DecidableEq
def kdTy : Kd → Option TyK
  | .lst => some (.b "list")
  | .klst => some (.b "list")
  | .tup => some (.b "tuple")
  | .dct _ => some (.b "dict")
  | .obj c _ => some (.o c)
  | .exc c _ => some (.e c)
  | .exa c _ _ => some (.e c)
  | .cau .. => none
def tyK (x : D) (κ : Kap) : Option TyK := match x with
  | .non => some (.b "NoneType")
  | .bl _ => some (.b "bool")
  | .int _ => some (.b "int")
  | .str _ => some (.b "str")
  | x => (view x κ).bind fun p => kdTy p.1
def clsK : D → Option CK
  | .ty n => some (.b n)
  | .glb c => some (.c c)
  | _ => none
def TyVal (mg : Str → Option Value) : TyK → Value → Prop
  | .b n, v => v = .type n
  | .o c, v => ∃ ca, mg c = some (.ref ca) ∧ v = .ref ca
  | .e c, v => ∃ ca, mg c = some (.ref ca) ∧ v = .ref ca
def CkVal (mg : Str → Option Value) : CK → Value → Prop
  | .b n, v => v = .type n
  | .c c, v => ∃ ca, mg c = some (.ref ca) ∧ v = .ref ca
/-- what the written part says of an instance's class, for isinstance -/
structure InsT (K : PySem.W.Frag) (C : Addr) : Prop where
  cl : Cls K C
  ha : PySem.W.findIn K (.ref C) "__class__" = some (some (.builtin "object.__class__"))
  hn : PySem.W.specialIn K (.builtin "object.__class__") "__get__" = some (some (.builtin "getset_descriptor.__get__"))
  ht : PySem.W.takesIn K (.builtin "object.__class__") = some true
  hm : PySem.W.mroIn K C (.type "object") = some true
abbrev KTab := TyK → CK → Option Bool
/-- a table of answers of isinstance, told rightly -/
structure KitT (K : PySem.W.Frag) (mg : Str → Option Value) (kt : KTab) : Prop where
  ok : ∀ t u b, kt t u = some b → ∀ tv uv, TyVal mg t tv → CkVal mg u uv → PySem.W.kitOne K tv uv = some b
  obj : ∀ c u b, kt (.o c) u = some b → ∀ ca, mg c = some (.ref ca) → InsT K ca
  exc : ∀ c u b, kt (.e c) u = some b → ∀ ca, mg c = some (.ref ca) → L2.ExcC K ca
def ktAny (kt : KTab) (t : TyK) : List D → Option Bool
  | [] => some false
  | d :: ds => match clsK d with
    | none => none
    | some u => match kt t u with
      | some true => some true
      | some false => ktAny kt t ds
      | none => none
def fIsi (kt : KTab) : DN := fun xs κ Q => match xs with
  | [x, .node .tup (c :: cs)] => ∃ t b, tyK x κ = some t ∧ ktAny kt t (c :: cs) = some b ∧ Q (.bl b) κ
  | [x, .ty n] => ∃ t b, tyK x κ = some t ∧ kt t (.b n) = some b ∧ Q (.bl b) κ
  | [x, .glb c] => ∃ t b, tyK x κ = some t ∧ kt t (.c c) = some b ∧ Q (.bl b) κ
  | _ => False
def rIsiD (C : Ctx) (kt : KTab) : List V → Hp → VK → Prop := fun vs H Q => ∃ F ρ κ xs QD, StR C F ρ κ H ∧ RepL C F ρ xs vs ∧ fIsi kt xs κ QD ∧ Post C F ρ QD Q
theorem sim_isi {C : Ctx} {kt : KTab} : SimN C (fIsi kt) (rIsiD C kt) := fun F ρ κ H xs vs QD Q S r h P => ⟨F, ρ, κ, xs, QD, S, r, h, P⟩
section
variable {X : Cx} {W : WX} {k : Nat} {kt : KTab} {pins : List (Addr × Obj)} {σ : L2.St} {H : Hp} {s : Shared} {F : Hp} {ρ : Loc0} {κ : Kap}
theorem excK {K : PySem.W.Frag} {ca a : Addr} {o : Obj} {od : Option Obj} (E : L2.ExcC K ca) : PySem.W.KitX K (.ref a) (.ref ca) (fun h => PySem.W.InstAt h a o ca od) :=
  PySem.W.kitx_exc (by obtain ⟨cd, h, _⟩ := PySem.W.any_some E.hd; rw [h]; rfl) E.hg E.hk E.hs E.ha E.hn E.ht E.hm
/-- what isinstance wants to know of a value -/
theorem kitD (T : KitT X.K X.mg kt) (I : L2.Inv X pins σ H s) (S : StR (CtxOf X) F ρ κ H) {x : D} {v : V} {u : Value} {t : TyK} (r : Rep (CtxOf X) F ρ x v) (rv : RelV v u) (ht : tyK x κ = some t) (hk : ∃ w b, kt t w = some b) :
    ∃ tv P, TyVal X.mg t tv ∧ PySem.W.KitX X.K u tv P ∧ P s.heap ∧ u ≠ .builtin "__main__.__loader__#opaque" := by
  have base : ∀ {tv : Value}, TyX X.K H v tv → TyVal X.mg t tv → ∃ tv P, TyVal X.mg t tv ∧ PySem.W.KitX X.K u tv P ∧ P s.heap ∧ u ≠ .builtin "__main__.__loader__#opaque" := fun {tv} tx h => by
    obtain ⟨P, Z, p, hx⟩ := kit_of I rv tx
    exact ⟨tv, P, h, Z, p, hx⟩
  have key : (view x κ).bind (fun p => kdTy p.1) = some t → ∃ tv P, TyVal X.mg t tv ∧ PySem.W.KitX X.K u tv P ∧ P s.heap ∧ u ≠ .builtin "__main__.__loader__#opaque" := by
    intro h
    cases ev : view x κ with
    | none => rw [ev] at h; cases h
    | some p =>
      obtain ⟨kd, xs⟩ := p
      rw [ev] at h
      obtain ⟨a, vs, rfl, hk', rl⟩ := view_at S r ev
      cases kd with
      | lst => cases h; exact base (.base (.lst hk')) rfl
      | klst =>
        cases h
        rcases hk' with (h1 | ⟨o, h1⟩) | ⟨o, its, n, h1, h2, _⟩
        · exact base (.base (.lst h1)) rfl
        · exact base (.base (.frz h1)) rfl
        · exact base (.kList h1 h2) rfl
      | tup =>
        cases h
        rcases hk' with (h1 | ⟨o, h1⟩) | ⟨o, its, n, h1, h2, _⟩
        · exact base (.base (.tup h1)) rfl
        · exact base (.fTuple h1) rfl
        · exact base (.kTuple h1 h2) rfl
      | dct ks =>
        cases h
        obtain ⟨kvs, h1, _⟩ := hk'
        exact base (.base (.dK h1)) rfl
      | cau c a1 C1 dd => cases h
      | obj c ns =>
        cases h
        obtain ⟨ca, dx, fs, h0, h1, _⟩ := hk'
        obtain ⟨w, b, hw⟩ := hk
        have q := T.obj c w b hw ca h0
        exact base (.base (.ins h1 q.cl q.ha q.hn q.ht q.hm)) ⟨ca, h0, rfl⟩
      | exc c ns =>
        cases h
        obtain ⟨ca, h0, h1⟩ := hk'
        obtain ⟨w, b, hw⟩ := hk
        have q := T.exc c w b hw ca h0
        cases rv
        rcases h1 with ⟨_, _, h1⟩ | ⟨d, fs, h1, h2, _⟩
        · obtain ⟨t1, ho⟩ := exo_at I.hok h1
          exact ⟨.ref ca, _, ⟨ca, h0, rfl⟩, excK (od := none) q, ⟨ho, rfl, rfl, trivial⟩, fun z => nomatch z⟩
        · obtain ⟨t1, ho⟩ := exo_at I.hok h1
          obtain ⟨mA, ⟨od, _, _, hd, _⟩, _⟩ := exd_at I.hok h2
          exact ⟨.ref ca, _, ⟨ca, h0, rfl⟩, excK (od := some od) q, ⟨ho, rfl, rfl, hd⟩, fun z => nomatch z⟩
      | exa c ns a1 =>
        cases h
        obtain ⟨_, ca, h0, h1⟩ := hk'
        obtain ⟨w, b, hw⟩ := hk
        have q := T.exc c w b hw ca h0
        cases rv
        rcases h1 with ⟨_, _, h1⟩ | ⟨d, fs, h1, h2, _⟩
        · obtain ⟨t1, ho⟩ := exo_at I.hok h1
          exact ⟨.ref ca, _, ⟨ca, h0, rfl⟩, excK (od := none) q, ⟨ho, rfl, rfl, trivial⟩, fun z => nomatch z⟩
        · obtain ⟨t1, ho⟩ := exo_at I.hok h1
          obtain ⟨mA, ⟨od, _, _, hd, _⟩, _⟩ := exd_at I.hok h2
          exact ⟨.ref ca, _, ⟨ca, h0, rfl⟩, excK (od := some od) q, ⟨ho, rfl, rfl, hd⟩, fun z => nomatch z⟩
  cases x with
  | non => cases r; cases ht; exact base (.base .non) rfl
  | bl b => cases r; cases ht; exact base (.base (.bl b)) rfl
  | int i => cases r; cases ht; exact base (.base (.int i)) rfl
  | str y => cases r; cases ht; exact base (.base (.str y)) rfl
  | _ => exact key ht
theorem ktAny_first {t : TyK} {c : D} {cs : List D} {b : Bool} (h : ktAny kt t (c :: cs) = some b) : ∃ w b, kt t w = some b := by
  unfold ktAny at h
  cases e : clsK c with
  | none => rw [e] at h; cases h
  | some u =>
    rw [e] at h
    cases e2 : kt t u with
    | none => simp only [e2] at h; cases h
    | some b' => exact ⟨u, b', e2⟩
theorem clsK_val {c : D} {v : V} {w : Value} {u : CK} (r : Rep (CtxOf X) F ρ c v) (rv : RelV v w) (e : clsK c = some u) : CkVal X.mg u w := by
  cases c <;> first | (cases e; done) | skip
  · cases e; cases r; exact rv
  · cases e
    cases r with
    | glb h => exact ⟨_, h, rv⟩
theorem kitAny_of (T : KitT X.K X.mg kt) {t : TyK} {tv : Value} (htv : TyVal X.mg t tv) : ∀ {cs : List D} {vs : List V} {us : List Value} {b : Bool}, RepL (CtxOf X) F ρ cs vs → Vals vs us → ktAny kt t cs = some b → PySem.W.kitAny X.K tv us = some b
  | _, _, _, _, .nil, .nil, h => by cases h; rfl
  | _, _, _, b, .cons (d := d) r rs, .cons rv rvs, h => by
    unfold ktAny at h
    cases e : clsK d with
    | none => rw [e] at h; cases h
    | some u =>
      rw [e] at h
      cases e2 : kt t u with
      | none => simp only [e2] at h; cases h
      | some b' =>
        simp only [e2] at h
        have q := T.ok t u b' e2 tv _ htv (clsK_val r rv e)
        cases b' with
        | true => cases h; exact kitAny_cons q (fun z => nomatch z) fun _ => rfl
        | false => exact kitAny_cons q (fun _ => kitAny_of T htv rs rvs h) fun z => nomatch z
theorem call_isiD (T : KitT X.K X.mg kt) : CallR X (.builtin "isinstance") (rIsiD (CtxOf X) kt) := by
  intro pins s σ H vs us Q I rv ⟨F, ρ, κ, xs, QD, S, r, h, P⟩
  have one : ∀ {x c : D} {t : TyK} {u : CK} {b : Bool}, RepL (CtxOf X) F ρ [x, c] vs → tyK x κ = some t → clsK c = some u → kt t u = some b → QD (.bl b) κ → wpAny (model X.prog X.w) X.A (call (.builtin "isinstance") us) (EP X pins σ Q) X.xe s := by
    intro x c t u b r h1 h2 h3 q
    obtain ⟨v, w, rfl, rx, rc⟩ := repL2 r
    obtain ⟨u1, u2, rfl, r1, r2⟩ := vals2 rv
    obtain ⟨tv, Pr, htv, Z, p, hx⟩ := kitD T I S rx r1 h1 ⟨u, b, h3⟩
    exact PySem.W.kia_one Z I.kIn p (T.ok t u b h3 tv u2 htv (clsK_val rc r2 h2)) hx fun tk => ⟨.bl b, H, I.tok tk, rfl, P _ _ _ _ _ _ (Ext.refl _ _) S (.bl b) q⟩
  unfold fIsi at h
  split at h
  · rename_i x c cs
    obtain ⟨t, b, h1, h2, q⟩ := h
    obtain ⟨v, w, rfl, rx, rc⟩ := repL2 r
    obtain ⟨u1, u2, rfl, r1, r2⟩ := vals2 rv
    obtain ⟨a, vs, rfl, hk, rl⟩ := view_at (k := .tup) (xs := c :: cs) S rc rfl
    cases r2
    obtain ⟨its, rvs, ⟨o, ho, hc, n, hd⟩, _⟩ := I.tuple hk
    obtain ⟨tv, Pr, htv, Z, p, hx⟩ := kitD T I S rx r1 h1 (ktAny_first h2)
    obtain ⟨oc, od, dt, sl⟩ := o
    simp only at hc hd
    subst hc hd
    exact PySem.W.kia_tup Z I.kIn p ho (kitAny_of T htv rl rvs h2) hx fun tk => ⟨.bl b, H, I.tok tk, rfl, P _ _ _ _ _ _ (Ext.refl _ _) S (.bl b) q⟩
  · obtain ⟨t, b, h1, h2, q⟩ := h
    exact one r h1 rfl h2 q
  · obtain ⟨t, b, h1, h2, q⟩ := h
    exact one r h1 rfl h2 q
  · exact h.elim
end
/-! ### methods of texts -/
def dM1 (f : D → D → Kap → DQ → Prop) (a b : DE) : DE := fun δ κ X Q => a δ κ X fun x κ1 => (∃ y, x = .str y) ∧ b δ κ1 X fun z κ2 => f x z κ2 Q
def dM0 (f : D → Kap → DQ → Prop) (a : DE) : DE := fun δ κ X Q => a δ κ X fun x κ1 => (∃ y, x = .str y) ∧ f x κ1 Q
theorem lift_m1 {C : Ctx} {W : WX} {f : D → D → Kap → DQ → Prop} {r : V → List V → Hp → VK → Prop} {a b : DE} (hs : Sim2 C f (fun x y H Q => r x [y] H Q)) {σ : L2.St} {H : Hp} {Q : VK} (h : liftE C W (dM1 f a b) σ H Q) : tM1 r (liftE C W a) (liftE C W b) σ H Q := by
  obtain ⟨F, ρ, κ, δ, XD, QD, S, R, h, P, PX⟩ := h
  refine ⟨F, ρ, κ, δ, XD, _, S, R, h, fun F1 ρ1 κ1 H1 x v e1 S1 R1 ⟨⟨y, hy⟩, h1⟩ => ?_, PX⟩
  subst hy
  cases R1
  exact ⟨⟨y, rfl⟩, F1, ρ1, κ1, δ, XD, _, S1, R.ext e1, h1, fun F2 ρ2 κ2 H2 z u e2 S2 R2 h2 => hs _ _ _ _ _ _ _ _ _ _ S2 (.str y) R2 h2 (P.ext (e1.trans e2)), PX.ext e1⟩
def fJoin : D → D → Kap → DQ → Prop := fun x y κ Q => match x with
  | .str a => ∃ ys : List Str, (view y κ = some (.lst, ys.map D.str) ∨ view y κ = some (.tup, ys.map D.str)) ∧ (ys.map (·.length)).sum + ys.length * a.length ≤ 16777216 ∧ Q (.str (Txt.join a ys)) κ
  | _ => False
section
variable {X : Cx} {W : WX} {e1 e2 : Expr} {a b : DE} {apos pos : Pos}
theorem sim_join {C : Ctx} : Sim2 C fJoin (fun x y H Q => ∃ a p, ∃ ys : List Str, x = .str a ∧ [y] = [.ref p] ∧ (SqL C.K H p (ys.map V.str) ∨ SqT C.K H p (ys.map V.str)) ∧ (ys.map (·.length)).sum + ys.length * a.length ≤ 16777216 ∧ Q (.str (Txt.join a ys)) H) := by
  intro F ρ κ H x y v u QD Q S rx ry h P
  cases x <;> first | exact h.elim | skip
  cases rx
  obtain ⟨ys, h1, h2, h3⟩ := h
  rcases h1 with h1 | h1
  · obtain ⟨p, vs, rfl, hk, rl⟩ := view_at S ry h1
    have e := rl.strs
    subst e
    exact ⟨_, p, ys, rfl, rfl, .inl (SqL.of hk), h2, P _ _ _ _ _ _ (Ext.refl _ _) S (.str _) h3⟩
  · obtain ⟨p, vs, rfl, hk, rl⟩ := view_at S ry h1
    have e := rl.strs
    subst e
    exact ⟨_, p, ys, rfl, rfl, .inr hk, h2, P _ _ _ _ _ _ (Ext.refl _ _) S (.str _) h3⟩
theorem pd_join (ho : PED X W e1 a) (he : PED X W e2 b) (hs : starEach [e2] X.env = [(false, eval e2 X.env)] := by rfl) (hbase : attributeBase e1 "join" X.env (eval e1 X.env) = eval e1 X.env := by rfl) (hline : (apos.endLine == pos.line) = true := by rfl) :
    PED X W (.Call (.Attribute e1 "join" apos) [e2] [] pos) (dM1 fJoin a b) := pe_weak (pe_join ho he hs hbase hline) fun _ _ _ => lift_m1 sim_join
end
/-! ### methods of lists -/
def isSeq (T : String) (x : D) (κ : Kap) : Prop := match T with
  | "list" => ∃ xs, view x κ = some (.lst, xs)
  | _ => False
def dBM (T : String) (f : D1N) (a : DE) (as : DA) : DE := fun δ κ X Q => a δ κ X fun x κ1 => isSeq T x κ1 ∧ as δ κ1 X fun xs κ2 => f x xs κ2 Q
theorem isSeq_at {K : PySem.W.Frag} {mg : Str → Option Value} {F : Hp} {ρ : Loc0} {κ : Kap} {H : Hp} {T : String} {x : D} {v : V} (S : StR ⟨K, mg⟩ F ρ κ H) (r : Rep ⟨K, mg⟩ F ρ x v) (h : isSeq T x κ) : tyV K T v H := by
  unfold isSeq at h
  split at h
  · obtain ⟨xs, h⟩ := h
    obtain ⟨a, vs, rfl, hk, _⟩ := view_at S r h
    exact .inl ⟨rfl, vs, SqL.of hk⟩
  · exact h.elim
theorem lift_bm {K : PySem.W.Frag} {mg : Str → Option Value} {W : WX} {T : String} {f : D1N} {r : V → List V → Hp → VK → Prop} {a : DE} {as : DA} (hs : Sim1N ⟨K, mg⟩ f r) {σ : L2.St} {H : Hp} {Q : VK} (h : liftE ⟨K, mg⟩ W (dBM T f a as) σ H Q) : tBM K T r (liftE ⟨K, mg⟩ W a) (liftA ⟨K, mg⟩ W as) σ H Q := by
  obtain ⟨F, ρ, κ, δ, XD, QD, S, R, h, P, PX⟩ := h
  exact ⟨F, ρ, κ, δ, XD, _, S, R, h, fun F1 ρ1 κ1 H1 x v e1 S1 R1 ⟨h0, h1⟩ => ⟨isSeq_at S1 R1 h0, F1, ρ1, κ1, δ, XD, _, S1, R.ext e1, h1, fun F2 ρ2 κ2 H2 ys us e2 S2 R2 h2 => hs _ _ _ _ _ _ _ _ _ _ S2 (R1.ext e2) R2 h2 (P.ext (e1.trans e2)), PX.ext e1⟩, PX⟩
/-- a cell's list, changed -/
theorem cell_lst {C : Ctx} {F : Hp} {ρ : Loc0} {κ : Kap} {H : Hp} {n : Nat} {v : V} {xs : List D} (S : StR C F ρ κ H) (r : Rep C F ρ (.cell n) v) (h : κ n = some (.live .lst xs)) :
    ∃ a vs, v = .ref a ∧ ρ n = some a ∧ H a = some (.lst vs) ∧ RepL C F ρ xs vs ∧ ∀ ys ws, RepL C F ρ ys ws → StR C F ρ (kset κ n (.live .lst ys)) (upd H a (.lst ws)) := by
  obtain ⟨a, vs, rfl, h1, h2, h3⟩ := cell_at S r h
  exact ⟨a, vs, rfl, h1, h2, h3, fun ys ws r => S.write (k' := .lst) h h1 (fun _ q => q) r⟩
def fAppend : D1N := fun x ds κ Q => match x, ds with
  | .cell n, [d] => ∃ xs, κ n = some (.live .lst xs) ∧ xs.length < sizeLine ∧ Q .non (kset κ n (.live .lst (xs ++ [d])))
  | _, _ => False
theorem sim_append {C : Ctx} : Sim1N C fAppend rAppend := by
  intro F ρ κ H x v ds vs QD Q S rx rd h P
  match x, ds, h with
  | .cell n, [d], ⟨xs, h1, h2, h3⟩ =>
    obtain ⟨a, ws, rfl, h4, h5, h6, h7⟩ := cell_lst S rx h1
    obtain ⟨w, rfl, rw'⟩ := repL1 rd
    exact ⟨a, ws, w, rfl, rfl, h5, by rw [← h6.length]; exact h2, P _ _ _ _ _ _ (Ext.refl _ _) (h7 _ _ (h6.append (.cons rw' .nil))) .non h3⟩
section
variable {X : Cx} {W : WX} {o e : Expr} {es : List Expr} {a : DE} {as : DA} {apos cpos : Pos}
theorem pd_append (ho : PED X W o a) (ha : PAD X W (e :: es) as) (hbase : attributeBase o "append" X.env (eval o X.env) = eval o X.env := by rfl)
    (hfew : ((backTo cpos (starEach (e :: es) X.env)).all (fun x => !x.1) && (backToKw cpos (keywordEach [] X.env)).all (fun x => x.1.isSome) && decide ((e :: es).length + ([] : List Keyword).length + (if ([] : List Keyword).isEmpty then 0 else 1) < 30)) = true := by rfl)
    (hline : (apos.endLine == cpos.line) = true := by rfl) (hs : starEach (e :: es) X.env = (false, eval e X.env) :: starEach es X.env := by rfl) (hplain : (backTo cpos (starEach es X.env)).any (·.1) = false := by rfl) :
    PED X W (.Call (.Attribute o "append" apos) (e :: es) [] cpos) (dBM "list" fAppend a as) :=
  pe_weak (pe_bm PySem.F.plainAttrs_list PySem.F.slot_list_append PySem.F.type_list_append mt_append ho ha hbase hfew hline hs hplain) fun _ _ _ => lift_bm sim_append
end
end DL
/-! DL: own exceptions over ValueError, made and raised. -/
namespace DL
open PySem PySem.Spec PyProof.Rows L2
/-! ### made as a value -/
theorem exo_heap {H : Hp} {a dx : Addr} {o o' u : HO} (h : dx ≠ a) : upd (upd (upd H a o) dx u) a o' = upd (upd H dx u) a o' := by
  funext b
  by_cases e : b = a <;> by_cases e2 : b = dx <;> simp [upd, e, e2]
section
variable {X : Cx} {W : WX} {k : Nat} {c : Str} {ca fI : Addr} {fd : FuncData} {ps : List Str} {sp : Sp} {ns : List Str} {e : Expr} {es : List Expr} {as : DA} {p pos : Pos}
theorem zip_parts {ns : List Str} {vs : List V} (h : vs.length = ns.length) : (ns.zip vs.reverse).map (·.1) = ns ∧ (ns.zip vs.reverse).map (·.2) = vs.reverse :=
  ⟨List.map_fst_zip (by rw [List.length_reverse, h]; exact Nat.le_refl _), List.map_snd_zip (by rw [List.length_reverse, h]; exact Nat.le_refl _)⟩
theorem RepL.reverse {C : Ctx} {F : Hp} {ρ : Loc0} : ∀ {xs : List D} {vs : List V}, RepL C F ρ xs vs → RepL C F ρ xs.reverse vs.reverse
  | _, _, .nil => .nil
  | _, _, .cons h t => by
    rw [List.reverse_cons, List.reverse_cons]
    exact (RepL.reverse t).append (.cons h .nil)
end
end DL
/-! DL: displays of dicts, defs by name. -/
namespace DL
open PySem PySem.Spec PyProof.Rows L2
theorem takesN0 {X : Cx} : L2N.Takes X (fun _ _ _ _ => False) := fun _ _ ⟨_, _, _, _, _, _, _, _, _, _, _, _, _, _, _, _, z⟩ => z.elim
theorem Good.blk {k : Nat} {X : Cx} {W : WX} (G : Good k X W) {s : Shared} {H : Hp} {scope : Scope} {cenv : Env} {fp : List Addr} : Good k (X.blk s H scope cenv fp) WF :=
  ⟨takesN0, PassesOwn.never, G.rm, G.gd, G.sm, G.calm, G.nd⟩
def fNeg : D1 := fun x κ Q => match x with
  | .int i => Q (.int (-i)) κ
  | _ => False
/-! ### dicts written out -/
def dDct0 (m : Bool) : DE := fun _ κ _ Q => fNew m (.dct []) [] κ Q
def dPairs : List (DE × DE) → DEnv → Kap → DX → (List (D × D) → Kap → Prop) → Prop
  | [], _, κ, _, Q => Q [] κ
  | (a, b) :: r, δ, κ, X, Q => a δ κ X fun x κ1 => b δ κ1 X fun y κ2 => dPairs r δ κ2 X fun ps κ3 => Q ((x, y) :: ps) κ3
def dDisp (m : Bool) (prs : List (DE × DE)) : DE := fun δ κ X Q => ∀ n, κ n = none → dPairs prs δ (kset κ n (.live (.dct []) [])) X fun ps κ1 => κ1 n = some (.live (.dct []) []) ∧ ∃ ks : List Key, ps.map (·.1) = ks.map keyD ∧ ks.Nodup ∧ ks.length ≤ 15 ∧
  match m with
  | true => Q (.cell n) (kset κ1 n (.live (.dct ks) (ps.map (·.2))))
  | false => Q (.node (.dct ks) (ps.map (·.2))) (kset κ1 n .dead)
inductive RepP (C : Ctx) (F : Hp) (ρ : Loc0) : List (D × D) → List (V × V) → Prop
  | nil : RepP C F ρ [] []
  | cons {x y : D} {v u : V} {ps : List (D × D)} {qs : List (V × V)} (h1 : Rep C F ρ x v) (h2 : Rep C F ρ y u) (t : RepP C F ρ ps qs) : RepP C F ρ ((x, y) :: ps) ((v, u) :: qs)
theorem RepP.ext {C : Ctx} {F F' : Hp} {ρ ρ' : Loc0} (e : Ext F ρ F' ρ') : ∀ {ps : List (D × D)} {qs : List (V × V)}, RepP C F ρ ps qs → RepP C F' ρ' ps qs
  | _, _, .nil => .nil
  | _, _, .cons h1 h2 t => .cons (h1.ext e) (h2.ext e) (RepP.ext e t)
theorem RepP.snd {C : Ctx} {F : Hp} {ρ : Loc0} : ∀ {ps : List (D × D)} {qs : List (V × V)}, RepP C F ρ ps qs → RepL C F ρ (ps.map (·.2)) (qs.map (·.2))
  | _, _, .nil => .nil
  | _, _, .cons _ h2 t => .cons h2 (RepP.snd t)
theorem RepP.keys {C : Ctx} {F : Hp} {ρ : Loc0} : ∀ {ks : List Key} {ps : List (D × D)} {qs : List (V × V)}, RepP C F ρ ps qs → ps.map (·.1) = ks.map keyD → ∃ kvs : List (Key × V), qs = kvs.map (fun kv => (kV kv.1, kv.2)) ∧ kvs.map (·.1) = ks ∧ kvs.map (·.2) = qs.map (·.2)
  | [], _, _, .nil, _ => ⟨[], rfl, rfl, rfl⟩
  | k :: ks, _, _, .cons (u := u) h1 _ t, h => by
    rw [List.map_cons, List.map_cons] at h
    obtain ⟨e1, e2⟩ := List.cons.inj h
    obtain ⟨kvs, q1, q2, q3⟩ := RepP.keys t e2
    have e1' := e1
    subst e1
    refine ⟨(k, u) :: kvs, ?_, by rw [List.map_cons, q2], by rw [List.map_cons, List.map_cons, q3]⟩
    rw [List.map_cons, ← q1]
    cases k with
    | inl i => cases h1; rfl
    | inr x => cases h1; rfl
theorem merge_nodup : ∀ {kvs acc : List (Key × V)}, (acc.map (·.1) ++ kvs.map (·.1)).Nodup → mergeK acc kvs = acc ++ kvs
  | [], acc, _ => by unfold mergeK; simp
  | (k, v) :: r, acc, h => by
    unfold mergeK
    rw [List.foldl_cons]
    have hk : ∀ p ∈ acc, p.1 ≠ k := fun p hp e => by
      rw [List.nodup_append] at h
      exact h.2.2 p.1 (List.mem_map.mpr ⟨p, hp, rfl⟩) k (by simp) e
    have e : putK acc k v = acc ++ [(k, v)] := by
      unfold putK
      rw [if_neg]
      rw [List.any_eq_true]
      rintro ⟨p, hp, q⟩
      exact hk p hp (of_decide_eq_true q)
    show mergeK (putK acc k v) r = _
    rw [e, merge_nodup (by simpa [List.append_assoc] using h), List.append_assoc]
    rfl
theorem lift_pairs {C : Ctx} {W : WX} {Qv : List (V × V) → Hp → Prop} : ∀ {prs : List (DE × DE)} {F : Hp} {ρ : Loc0} {κ : Kap} {δ : DEnv} {σ : L2.St} {H : Hp} {XD : DX} {QD : List (D × D) → Kap → Prop}, StR C F ρ κ H → RepS C F ρ δ σ → dPairs prs δ κ XD QD → PostX C F ρ XD W →
    (∀ F' ρ' κ' H' ps qs, Ext F ρ F' ρ' → StR C F' ρ' κ' H' → RepP C F' ρ' ps qs → QD ps κ' → Qv qs H') → tPairs (prs.map fun p => (liftE C W p.1, liftE C W p.2)) σ H Qv
  | [], F, ρ, κ, δ, σ, H, XD, QD, S, R, h, PX, P => P _ _ _ _ _ _ (Ext.refl _ _) S .nil h
  | (a, b) :: r, F, ρ, κ, δ, σ, H, XD, QD, S, R, h, PX, P => ⟨F, ρ, κ, δ, XD, _, S, R, h, fun F1 ρ1 κ1 H1 x v e1 S1 R1 h1 => ⟨F1, ρ1, κ1, δ, XD, _, S1, R.ext e1, h1, fun F2 ρ2 κ2 H2 y u e2 S2 R2 h2 =>
      lift_pairs S2 (R.ext (e1.trans e2)) h2 (PX.ext (e1.trans e2)) fun F3 ρ3 κ3 H3 ps qs e3 S3 R3 h3 => P _ _ _ _ _ _ (e1.trans (e2.trans e3)) S3 (.cons (R1.ext (e2.trans e3)) (R2.ext e3) R3) h3, PX.ext e1⟩, PX⟩
abbrev PPsD (X : Cx) (W : WX) (pos : Pos) (keys : List (Option Expr)) (values : List Expr) (prs : List (DE × DE)) : Prop := PPs X pos keys values (prs.map fun p => (liftE (CtxOf X) W p.1, liftE (CtxOf X) W p.2))
section
variable {X : Cx} {W : WX} {pos : Pos} {keys : List (Option Expr)} {values : List Expr} {prs : List (DE × DE)} {k v : Expr} {a b : DE}
theorem pps_nilD : PPsD X W pos [] [] [] := pps_nil
theorem pps_consD (h1 : PED X W k a) (h2 : PED X W v b) (h : PPsD X W pos keys values prs) : PPsD X W pos (some k :: keys) (v :: values) ((a, b) :: prs) := pps_cons h1 h2 h
theorem pd_disp (m : Bool) (h : PPsD X W pos keys values prs) (hall : keys.all (·.isSome) = true := by rfl) (hl : keys.length = values.length := by rfl) (h0 : keys ≠ [] := by exact fun z => nomatch z) (h15 : keys.length ≤ 15 := by decide) : PED X W (.Dict keys values pos) (dDisp m prs) :=
  pe_weak (pe_disp h hall hl h0 h15) fun σ H Q ⟨F, ρ, κ, δ, XD, QD, S, R, h, P, PX⟩ p hp => by
  obtain ⟨n, hn⟩ := S.fresh
  obtain ⟨ρ1, e1, hr, S1⟩ := S.cell (o := .dK []) (k := .dct []) (vs := []) (xs := []) hp (fun _ q => ⟨[], q, rfl, rfl⟩) .nil hn
  refine lift_pairs S1 (R.ext e1) (h n hn) (PX.ext e1) fun F2 ρ2 κ2 H2 ps qs e2 S2 R2 ⟨h1, ks, h2, h3, h4, h5⟩ => ?_
  obtain ⟨b, vs, g1, g2, ⟨kvs0, g3, g4, _⟩, g5⟩ := S2.live n _ _ h1
  rw [e2.r _ _ hr] at g1
  cases g1
  have hk0 : kvs0 = [] := by cases kvs0 with | nil => rfl | cons => cases g4
  subst hk0
  obtain ⟨kvs, q1, q2, q3⟩ := R2.keys h2
  refine ⟨g3, kvs, q1, by rw [← List.length_map (f := (·.1)), q2]; exact h4, ?_⟩
  have em : mergeK [] kvs = kvs := by rw [merge_nodup (by rw [q2]; exact h3)]; rfl
  rw [em]
  have S3 : StR (CtxOf X) F2 ρ2 (kset κ2 n (.live (.dct ks) (ps.map (·.2)))) (upd H2 p (.dK kvs)) := S2.write (k' := .dct ks) h1 (e2.r _ _ hr) (fun _ q => ⟨kvs, q, q2, q3⟩) R2.snd
  cases m with
  | true => exact P _ _ _ _ _ _ (e1.trans e2) S3 (.cell (e2.r _ _ hr)) h5
  | false =>
    obtain ⟨F3, e3, r3, S4⟩ := S3.freeze kset_same (e2.r _ _ hr)
    rw [kset_kset] at S4
    exact P _ _ _ _ _ _ (e1.trans (e2.trans e3)) S4 r3 h5
end
/-! ### defs by name -/
/-- a def of the text stands under its name and keeps a promise -/
structure OkD (P : Program) (w : World) (K : PySem.W.Frag) (mg : Str → Option Value) (base : Heap) (k : Nat) (x : Str) (f : Addr) (fd : FuncData) (ps : List Str) (sp : DSp) : Prop where
  m : mg x = some (.ref f)
  kp : PySem.W.keepIn K (.ref f) = true
  fn : FnG P w K mg base k f fd ps sp
  bd : Binds K fd ps []
def Ok (P : Program) (w : World) (K : PySem.W.Frag) (mg : Str → Option Value) (base : Heap) (k : Nat) (x : Str) (ps : List Str) (sp : DSp) : Prop := ∃ f fd, OkD P w K mg base k x f fd ps sp
theorem Ok.mono {P : Program} {w : World} {K : PySem.W.Frag} {mg : Str → Option Value} {base : Heap} {j k : Nat} {x : Str} {ps : List Str} {sp : DSp} (O : Ok P w K mg base j x ps sp) (h : j ≤ k) : Ok P w K mg base k x ps sp :=
  let ⟨f, fd, o⟩ := O; ⟨f, fd, o.m, o.kp, o.fn.mono h, o.bd⟩
section
variable {X : Cx} {W : WX} {j k : Nat} {ps : List Str} {sp : DSp} {x : Str} {e : Expr} {es : List Expr} {as : DA} {p pos : Pos}
theorem pd_callN (G : Good k X W) (O : Ok X.prog X.w X.K X.mg X.base k x ps sp) (ha : PAD X W (e :: es) as) (hg : Gl X x := by rfl) (hdb : (x == ("__debug__" : Str)) = false := by decide)
    (he : starEach (e :: es) X.env = (false, eval e X.env) :: starEach es X.env := by rfl) (hpl : (backTo pos (starEach es X.env)).any (·.1) = false := by rfl) : PED X W (.Call (.Name x p) (e :: es) [] pos) (dCall sp [] as) := by
  obtain ⟨f, fd, o⟩ := O
  exact pd_call G o.fn o.m o.kp o.bd nodef ha hg hdb he hpl
end
/-- what is known of a def ahead of its proof -/
structure DefAt (K : PySem.W.Frag) (mg : Str → Option Value) (x : Str) (st : Stmt) (f : Addr) (fd : FuncData) : Prop where
  m : mg x = some (.ref f)
  F : Fun K x x st f fd
/-! ### exceptions by name -/
theorem pd_glbRefE {X : Cx} {W : WX} {x : Str} {p : Pos} (hm : ∃ f, X.mg x = some (.ref f)) (hg : Gl X x := by rfl) (hdb : (x == ("__debug__" : Str)) = false := by decide) : PED X W (.Name x p) (dC (.glb x)) := by
  obtain ⟨f, hm⟩ := hm
  exact pd_glbRef hm hg hdb
end DL
/-! DL: from what the top has left to what the defs lean on. -/
namespace DL
open PySem PySem.Spec PyProof.Rows L2
section
variable {K : PySem.W.Frag} {mg : Str → Option Value} {h : Heap}
theorem defAt_of {x : Str} {st : Stmt} {f : Addr} {oc : Value} {od an : Option Addr} {osl : Array (Option Value)} {kV doc pm cdv ct : Value} (X : K.In h) (G : h.Ns mainGlobals mg) (a : PySem.W.nsIn K mainGlobals x = some (some (.ref f)))
    (l : K.lookup f = some ⟨oc, od, .func (PySem.W.fnOf x x (defArgs st) (defBody st) (defScope st) .none kV doc pm an cdv ct), osl⟩) (c : PySem.W.codeIn K cdv x = true) (k : PySem.W.keepIn K (.ref f) = true) :
    DefAt K mg x st f (PySem.W.fnOf x x (defArgs st) (defBody st) (defScope st) .none kV doc pm an cdv ct) := ⟨PySem.W.mg_of X G a, fun_mk l c k⟩
theorem glb_of {x : Str} {v : Value} (X : K.In h) (G : h.Ns mainGlobals mg) (a : PySem.W.nsIn K mainGlobals x = some (some v)) : mg x = some v := PySem.W.mg_of X G a
theorem bltn_of {x : Str} (X : K.In h) (G : h.Ns mainGlobals mg) (a : PySem.W.nsIn K mainGlobals x = some none) : mg x = none := PySem.W.mg_none_of X G a
end
/-! tables of isinstance -/
abbrev KRow := TyK × CK × Bool
def ktOf (tab : List KRow) : KTab := fun t u => match t, u with
  | .b m, .b n => kitB m n
  | t, u => (tab.find? fun p => decide (p.1 = t ∧ p.2.1 = u)).map (·.2.2)
def KFact (K : PySem.W.Frag) (mg : Str → Option Value) (p : KRow) : Prop := (∃ tv uv, TyVal mg p.1 tv ∧ CkVal mg p.2.1 uv ∧ PySem.W.kitOne K tv uv = some p.2.2) ∧ match p.1 with
  | .b _ => True
  | .o c => ∃ ca, mg c = some (.ref ca) ∧ InsT K ca
  | .e c => ∃ ca, mg c = some (.ref ca) ∧ L2.ExcC K ca
theorem tyVal_inj {mg : Str → Option Value} {t : TyK} {a b : Value} (h : TyVal mg t a) (h' : TyVal mg t b) : a = b := by
  cases t with
  | b n => exact (show a = .type n from h).trans (show b = .type n from h').symm
  | o c =>
    obtain ⟨x, hx, rfl⟩ := h
    obtain ⟨y, hy, rfl⟩ := h'
    rw [hx] at hy
    cases hy
    rfl
  | e c =>
    obtain ⟨x, hx, rfl⟩ := h
    obtain ⟨y, hy, rfl⟩ := h'
    rw [hx] at hy
    cases hy
    rfl
theorem ckVal_inj {mg : Str → Option Value} {t : CK} {a b : Value} (h : CkVal mg t a) (h' : CkVal mg t b) : a = b := by
  cases t with
  | b n => exact (show a = .type n from h).trans (show b = .type n from h').symm
  | c c =>
    obtain ⟨x, hx, rfl⟩ := h
    obtain ⟨y, hy, rfl⟩ := h'
    rw [hx] at hy
    cases hy
    rfl
theorem kitT_of {K : PySem.W.Frag} {mg : Str → Option Value} {tab : List KRow} (h : ∀ p ∈ tab, KFact K mg p) : KitT K mg (ktOf tab) := by
  have look : ∀ {t : TyK} {u : CK} {b : Bool}, (tab.find? fun p => decide (p.1 = t ∧ p.2.1 = u)).map (·.2.2) = some b → KFact K mg (t, u, b) := fun {t u b} e => by
    obtain ⟨p, hp, rfl⟩ := Option.map_eq_some_iff.mp e
    have h1 := List.mem_of_find?_eq_some hp
    have h2 := List.find?_some hp
    obtain ⟨rfl, rfl⟩ := of_decide_eq_true h2
    exact h p h1
  have use : ∀ {t : TyK} {u : CK} {b : Bool}, KFact K mg (t, u, b) → ∀ tv uv, TyVal mg t tv → CkVal mg u uv → PySem.W.kitOne K tv uv = some b := fun {t u b} ⟨⟨tv, uv, h1, h2, h3⟩, _⟩ tv' uv' q1 q2 => by
    rw [← tyVal_inj h1 q1, ← ckVal_inj h2 q2]
    exact h3
  refine ⟨fun t u b e tv uv h1 h2 => ?_, fun c u b e ca hc => ?_, fun c u b e ca hc => ?_⟩
  · cases t with
    | b m =>
      cases u with
      | b n =>
        cases (show tv = .type m from h1)
        cases (show uv = .type n from h2)
        exact kit_ty e
      | c c => exact use (look e) tv uv h1 h2
    | o c => exact use (look e) tv uv h1 h2
    | e c => exact use (look e) tv uv h1 h2
  · obtain ⟨_, ca', h1, h2⟩ := look (t := .o c) e
    rw [hc] at h1
    cases h1
    exact h2
  · obtain ⟨_, ca', h1, h2⟩ := look (t := .e c) e
    rw [hc] at h1
    cases h1
    exact h2
/-! kitB, told -/
end DL
/-! DL: calls with keywords, defaults; defs that call themselves. -/
namespace DL
open PySem PySem.Spec PyProof.Rows L2
/-- items by their places -/
def pick {α : Type} : List Nat → List α → List α
  | [], _ => []
  | i :: is, l => match l[i]? with
    | some a => a :: pick is l
    | none => pick is l
section
variable {C : Ctx} {F : Hp} {ρ : Loc0}
theorem RepL.getN : ∀ {ds : List D} {vs : List V} {i : Nat}, RepL C F ρ ds vs → ds[i]? = none → vs[i]? = none
  | _, _, i, r, h => by
    rw [List.getElem?_eq_none_iff] at h ⊢
    rw [← r.length]
    exact h
theorem RepL.pick : ∀ {is : List Nat} {ds : List D} {vs : List V}, RepL C F ρ ds vs → RepL C F ρ (pick is ds) (pick is vs)
  | [], _, _, _ => .nil
  | i :: is, ds, vs, r => by
    unfold DL.pick
    cases e : ds[i]? with
    | none => rw [r.getN e]; exact RepL.pick r
    | some d =>
      obtain ⟨v, h1, h2⟩ := r.get e
      rw [h1]
      exact .cons h2 (RepL.pick r)
end
theorem vals_get : ∀ {vs : List V} {us : List Value} {i : Nat}, Vals vs us → (∃ v u, vs[i]? = some v ∧ us[i]? = some u ∧ RelV v u) ∨ (vs[i]? = none ∧ us[i]? = none)
  | [], _, i, .nil => .inr ⟨rfl, rfl⟩
  | v :: vs, _, 0, .cons h t => .inl ⟨v, _, rfl, rfl, h⟩
  | v :: vs, _, i + 1, .cons h t => by
    rw [List.getElem?_cons_succ, List.getElem?_cons_succ]
    exact vals_get t
theorem vals_pick : ∀ {is : List Nat} {vs : List V} {us : List Value}, Vals vs us → Vals (pick is vs) (pick is us)
  | [], _, _, _ => .nil
  | i :: is, vs, us, r => by
    unfold pick
    rcases vals_get (i := i) r with ⟨v, u, h1, h2, h3⟩ | ⟨h1, h2⟩
    · rw [h1, h2]
      exact .cons h3 (vals_pick r)
    · rw [h1, h2]
      exact vals_pick r
/-- a def that may be called with n values by place and the keywords ks; is tells where each parameter's value stands among the values by place, the keywords' values and the defaults dds -/
def OkC (P : Program) (w : World) (K : PySem.W.Frag) (mg : Str → Option Value) (base : Heap) (k : Nat) (x : Str) (n : Nat) (ks : List Str) (is : List Nat) (dds : List D) (sp : DSp) : Prop :=
  ∃ f fd ps, ∃ dvs : List V, ∃ its : List Value, mg x = some (.ref f) ∧ PySem.W.keepIn K (.ref f) = true ∧ FnG P w K mg base k f fd ps sp ∧ KBn K fd ps n ks (fun us ws => pick is (us ++ (ws ++ its))) (fun vs zs => pick is (vs ++ (zs ++ dvs))) ∧ ∀ F ρ, RepL ⟨K, mg⟩ F ρ dds dvs
theorem OkC.mono {P : Program} {w : World} {K : PySem.W.Frag} {mg : Str → Option Value} {base : Heap} {j k : Nat} {x : Str} {n : Nat} {ks : List Str} {is : List Nat} {dds : List D} {sp : DSp} (O : OkC P w K mg base j x n ks is dds sp) (h : j ≤ k) : OkC P w K mg base k x n ks is dds sp :=
  let ⟨f, fd, ps, dvs, its, h1, h2, h3, h4⟩ := O; ⟨f, fd, ps, dvs, its, h1, h2, h3.mono h, h4⟩
def cC (sp : DSp) (n m : Nat) (is : List Nat) (dds xs ys : List D) (κ : Kap) (X : Str → List D → Kap → Prop) (Q : DQ) : Prop := xs.length = n ∧ ys.length = m ∧ sp (pick is (xs ++ (ys ++ dds))) κ X Q
def dCallC (sp : DSp) (n m : Nat) (is : List Nat) (dds : List D) (as kw : DA) : DE := fun δ κ X Q => as δ κ X fun xs κ1 => kw δ κ1 X fun ys κ2 => cC sp n m is dds xs ys κ2 (X δ) Q
abbrev PKD (X : Cx) (W : WX) (kws : List Keyword) (d : DA) : Prop := PK X kws (liftA (CtxOf X) W d)
section
variable {X : Cx} {W : WX} {k n m : Nat} {f : Addr} {fd : FuncData} {ps ks : List Str} {is : List Nat} {sp : DSp} {dds : List D} {x : Str} {e : Expr} {es : List Expr} {kws : List Keyword} {as kw : DA} {a : DE} {p pos kpos : Pos} {nm : Option Str}
theorem pk_weak {t t' : TA} (h : PK X kws t) (w : ∀ σ H Q, t' σ H Q → t σ H Q) : PK X kws t' := ⟨fun pos pins s σ H Q I q => h.run pos pins s σ H Q I (w σ H Q q)⟩
theorem pk_nilD : PKD X W [] dNil := pk_weak pk_nil fun _ _ _ h => lift_nil h
theorem pk_consD (ha : PED X W e a) (hr : PKD X W kws kw) : PKD X W (⟨nm, e, kpos⟩ :: kws) (dCons a kw) := pk_weak (pk_cons ha hr) fun _ _ _ h => lift_cons h
end
/-! a def without defaults, called with keywords -/
section
variable {P : Program} {w : World} {K : PySem.W.Frag} {mg : Str → Option Value} {base : Heap}
theorem ok_mk {x : Str} {st : Stmt} {f : Addr} {fd : FuncData} {ps : List Str} {k : Nat} {sp : DSp} (D : DefAt K mg x st f fd) (F1 : FnG P w K mg base k f fd ps sp)
    (hbind : ∀ (kV doc pm : Value) (an : Option Addr) (cdv ct : Value) (us : List Value), us.length = ps.length → bindArgs (PySem.W.fnOf x x (defArgs st) (defBody st) (defScope st) .none kV doc pm an cdv ct) ⟨us, []⟩ = pure (ps.zip us)) : Ok P w K mg base k x ps sp :=
  ⟨f, fd, D.m, D.F.kp, F1, D.F.binds hbind⟩
end
end DL
/-! DLk: defs with defaults. -/
namespace DL
open PySem PySem.Spec PyProof.Rows L2
end DL
/-! DLm: raise, try. -/
namespace DL
open PySem PySem.Spec PyProof.Rows L2
/-! ### raise -/
/-- an exception's fields, name and value in turn -/
def xfl : List Str → List D → List D
  | n :: ns, d :: ds => .str n :: d :: xfl ns ds
  | _, _ => []
/-! ### an own exception, made where none is handled: its context is None -/
def sRz (c : Str) (ns : List Str) (as : DA) : DS := fun δ κ X T => as δ κ X fun xs κ1 => xs.length = ns.length ∧ xs.length ≤ 100 ∧ X δ c (xfl ns xs.reverse) κ1
/-! ### except: the field of what was caught -/
def fldOf (f : Str) : List D → Option D
  | .str n :: d :: r => if n = f then some d else fldOf f r
  | _ => none
/-- which fields may be read of which caught class -/
def XfOk (K : PySem.W.Frag) (mg : Str → Option Value) (xf : Str → Str → Bool) : Prop := ∀ c f, xf c f = true → ∃ C, mg c = some (.ref C) ∧ XfC K C ∧ PySem.W.findIn K (.ref C) f = some none
section
variable {X : Cx} {W : WX} {a C : Addr} {dd : Option Addr} {oe : Obj} {pn : List (Addr × Obj)} {x f : Str} {p pos : Pos} {i : Nat} {xf : Str → Str → Bool}
def dXf (xf : Str → Str → Bool) (i : Nat) (f : Str) (a C : Addr) (dd : Option Addr) : DE := fun δ κ _ QD => ∃ c fs d, δ[i]? = some (some (.node (.cau c a C dd) fs)) ∧ xf c f = true ∧ fldOf f fs = some d ∧ QD d κ
end
end DL
/-! DLn: try, clauses with names and without. -/
namespace DL
open PySem PySem.Spec PyProof.Rows L2
/-- a clause: the class's value, the slot of its name, what its suite does -/
structure Hd where
  c : Value
  i : Option Nat
  ts : Addr → Value → Option Addr → TS
def endsG (D : Ends) (i : Nat) : Ends := { nx := fun τ G => D.nx (τ.set i none) G, rt := D.rt, bk := fun τ G => D.bk (τ.set i none) G, ct := fun τ G => D.ct (τ.set i none) G }
def Hd.go (h : Hd) (D : Ends) (a : Addr) (cls : Value) (d : Option Addr) (σ : L2.St) (H : Hp) : Prop := match h.i with
  | none => h.ts a cls d D σ H
  | some i => h.ts a cls d (endsG D i) (σ.set i (some (.ref a))) H
/-! ### try over data -/
abbrev HdD := Str × Option Nat × (Addr → Addr → Option Addr → DS)
def XN : DX := fun _ _ _ _ => False
def DEnds.un (T : DEnds) (i : Nat) : DEnds := { nx := fun δ κ => T.nx (δ.set i none) κ, rt := T.rt, bk := fun δ κ => T.bk (δ.set i none) κ, ct := fun δ κ => T.ct (δ.set i none) κ }
def hPick (xt : Str → Str → Option Bool) : List HdD → DX → DEnds → DX
  | [], X, _ => X
  | (x, o, s) :: r, X, T => fun δ c fs κ => ∃ b, xt c x = some b ∧ if b = true then ∀ a C dd, match o with
      | none => s a C dd δ κ XN T
      | some i => s a C dd (δ.set i (some (.node (.cau c a C dd) fs))) κ XN (T.un i)
    else hPick xt r X T δ c fs κ
def sTry (xt : Str → Str → Option Bool) (b : DS) (hs : List HdD) : DS := fun δ κ X T => b δ κ (hPick xt hs X T) T
end DL
/-! DLo: stores into dicts, list.index. -/
namespace DL
open PySem PySem.Spec PyProof.Rows L2
def hasKey (ks : List Key) (k : Key) : Bool := ks.any fun k' => decide (k' = k)
def putKs (ks : List Key) (k : Key) : List Key := if hasKey ks k = true then ks else ks ++ [k]
def putVs {α : Type} (ks : List Key) (xs : List α) (k : Key) (d : α) : List α := if hasKey ks k = true then List.zipWith (fun k' x => if k' = k then d else x) ks xs else xs ++ [d]
theorem zipW_rep {C : Ctx} {F : Hp} {ρ : Loc0} {d : D} {v : V} {k : Key} (r : Rep C F ρ d v) : ∀ {ks : List Key} {xs : List D} {vs : List V}, RepL C F ρ xs vs → RepL C F ρ (List.zipWith (fun k' x => if k' = k then d else x) ks xs) (List.zipWith (fun k' x => if k' = k then v else x) ks vs)
  | [], _, _, _ => .nil
  | _ :: _, _, _, .nil => .nil
  | k' :: ks, _, _, .cons h t => .cons (by
      show Rep C F ρ (if k' = k then d else _) (if k' = k then v else _)
      by_cases e : k' = k
      · rw [if_pos e, if_pos e]; exact r
      · rw [if_neg e, if_neg e]; exact h) (zipW_rep r t)
theorem putV_rep {C : Ctx} {F : Hp} {ρ : Loc0} {d : D} {v : V} {k : Key} {ks : List Key} {xs : List D} {vs : List V} (r : Rep C F ρ d v) (h : RepL C F ρ xs vs) : RepL C F ρ (putVs ks xs k d) (putVs ks vs k v) := by
  unfold putVs
  split
  · exact zipW_rep r h
  · exact h.append (.cons r .nil)
theorem any_key (kvs : List (Key × V)) (k : Key) : (kvs.any fun kv => decide (kv.1 = k)) = hasKey (kvs.map (·.1)) k := by
  unfold hasKey
  rw [List.any_map]
  rfl
theorem putK_parts (kvs : List (Key × V)) (k : Key) (v : V) : (putK kvs k v).map (·.1) = putKs (kvs.map (·.1)) k ∧ (putK kvs k v).map (·.2) = putVs (kvs.map (·.1)) (kvs.map (·.2)) k v := by
  unfold putK putKs putVs
  rw [any_key]
  by_cases h : hasKey (kvs.map (·.1)) k = true
  · rw [if_pos h, if_pos h, if_pos h]
    clear h
    induction kvs with
    | nil => exact ⟨rfl, rfl⟩
    | cons p r ih =>
      obtain ⟨i1, i2⟩ := ih
      by_cases e : p.1 = k
      · refine ⟨?_, ?_⟩
        · rw [List.map_cons, List.map_cons, List.map_cons, i1, if_pos e]
        · rw [List.map_cons, List.map_cons, List.map_cons, List.map_cons, List.zipWith_cons_cons, i2, if_pos e, if_pos e]
      · refine ⟨?_, ?_⟩
        · rw [List.map_cons, List.map_cons, List.map_cons, i1, if_neg e]
        · rw [List.map_cons, List.map_cons, List.map_cons, List.map_cons, List.zipWith_cons_cons, i2, if_neg e, if_neg e]
  · rw [if_neg h, if_neg h, if_neg h]
    rw [List.map_append, List.map_append]
    exact ⟨rfl, rfl⟩
def keyO : D → Option Key
  | .int i => some (.inl i)
  | .str x => some (.inr x)
  | _ => none
theorem keyO_rep {C : Ctx} {F : Hp} {ρ : Loc0} {d : D} {v : V} {k : Key} (r : Rep C F ρ d v) (h : keyO d = some k) : v = kV k := by
  cases r <;> first | (cases h; rfl) | cases h
/-- d[k] = v of a dict that is a cell -/
def fSetD : D → D → D → Kap → (Kap → Prop) → Prop := fun o i d κ Q => ∃ n ks xs k, o = .cell n ∧ κ n = some (.live (.dct ks) xs) ∧ keyO i = some k ∧ ks.length < sizeLine ∧ Q (kset κ n (.live (.dct (putKs ks k)) (putVs ks xs k d)))
section
variable {X : Cx} {W : WX} {k : Nat} {e1 e2 : Expr} {a b : DE} {pos : Pos}
theorem pg_subDD (G : Good k X W) (ho : PED X W e1 a) (hi : PED X W e2 b)
    (ha : ∀ v, assign (.Subscript e1 e2 pos) X.env v = (do
      let ov ← holding [v] (eval e1 X.env)
      let iv ← holding [v, ov] (eval e2 X.env)
      standAt pos
      holding [v, ov, iv] (setItem ov iv v)
      release [v, ov, iv] []) := by intro _; rfl) : PGD X W (.Subscript e1 e2 pos) (gSubD a b fSetD) :=
  pg_weak (pg_sub ho hi (set_dict (by have := G.rm.un; omega)) ha) fun v σ H Q ⟨F, ρ, κ, δ, d, XD, QD, S, R, rr, h, P, PX⟩ =>
  ⟨F, ρ, κ, δ, XD, _, S, R, h, fun F1 ρ1 κ1 H1 x u e1 S1 R1 h1 => ⟨F1, ρ1, κ1, δ, XD, _, S1, R.ext e1, h1, fun F2 ρ2 κ2 H2 y w e2 S2 R2 h2 => by
    obtain ⟨n, ks, xs, k, rfl, h3, h4, h5, h6⟩ := h2
    have e12 := e1.trans e2
    obtain ⟨p, vs, rfl, hr, ⟨kvs, g1, g2, g3⟩, rl⟩ := cell_at S2 (R1.ext e2) h3
    have ek := keyO_rep R2 h4
    subst ek g2 g3
    obtain ⟨z1, z2⟩ := putK_parts kvs k v
    refine ⟨p, _, rfl, DPut.k g1 (by rw [List.length_map] at h5; exact h5), ?_⟩
    exact P _ _ _ _ _ _ e12 (S2.write (k' := .dct (putKs (kvs.map (·.1)) k)) (o := .dK (putK kvs k v)) h3 hr (fun H' q => ⟨_, q, z1, z2⟩) (putV_rep (rr.ext e12) rl)) (R.ext e12) h6, PX.ext e1⟩, PX⟩
end
/-! ### list.index of truths -/
/-! ### tables of exceptions -/
def xfOf (tab : List (Str × Str)) (c f : Str) : Bool := tab.any fun r => decide (r.1 = c) && decide (r.2 = f)
theorem xfOk_of {K : PySem.W.Frag} {mg : Str → Option Value} {tab : List (Str × Str)} (h : ∀ r ∈ tab, ∃ C, mg r.1 = some (.ref C) ∧ XfC K C ∧ PySem.W.findIn K (.ref C) r.2 = some none) : XfOk K mg (xfOf tab) := by
  intro c f e
  unfold xfOf at e
  obtain ⟨r, hm, hp⟩ := List.any_eq_true.mp e
  rw [Bool.and_eq_true_iff, decide_eq_true_iff, decide_eq_true_iff] at hp
  obtain ⟨rfl, rfl⟩ := hp
  exact h r hm
/-! ### steps -/
section
variable {δ : DEnv} {κ : Kap} {X : DX} {Q : DQ} {as : DA} {b : DS} {c f : Str} {ns : List Str} {xs fs : List D} {T : DEnds} {xt : Str → Str → Option Bool} {xf : Str → Str → Bool} {hs : List HdD} {x : Str} {o : Option Nat} {s : Addr → Addr → Option Addr → DS} {i : Nat}
theorem s_rz (h : as δ κ X fun xs κ1 => xs.length = ns.length ∧ xs.length ≤ 100 ∧ X δ c (xfl ns xs.reverse) κ1) : sRz c ns as δ κ X T := h
theorem s_rz3 {Y : Str → List D → Kap → Prop} (h1 : xs.length = ns.length) (h2 : xs.length ≤ 100) (h3 : xfl ns xs.reverse = fs) (h : Y c fs κ) : xs.length = ns.length ∧ xs.length ≤ 100 ∧ Y c (xfl ns xs.reverse) κ := ⟨h1, h2, by rw [h3]; exact h⟩
theorem g_set {d : D} {δ' : DEnv} {QG : DEnv → Kap → Prop} (e : δ.set i (some d) = δ') (h : QG δ' κ) : gN i d δ κ X QG := by
  subst e
  exact h
theorem s_try (h : b δ κ (hPick xt hs X T) T) : sTry xt b hs δ κ X T := h
theorem fld_1 {n : Str} {d : D} {r : List D} : fldOf n (.str n :: d :: r) = some d := by
  show (if n = n then some d else _) = _
  rw [if_pos rfl]
theorem fld_2 {n m : Str} {d e : D} {r : List D} (h : m ≠ n) (q : fldOf n r = some e) : fldOf n (.str m :: d :: r) = some e := by
  show (if m = n then some d else _) = _
  rw [if_neg h]
  exact q
theorem e_xf {a C : Addr} {dd : Option Addr} {d : D} (e : δ[i]? = some (some (.node (.cau c a C dd) fs))) (h1 : xf c f = true) (h2 : fldOf f fs = some d) (h : Q d κ) : dXf xf i f a C dd δ κ X Q := ⟨c, fs, d, e, h1, h2, h⟩
end
end DL
/-! DLp: tuples that stand in the globals, three at once, == in a suite. -/
namespace DL
open PySem PySem.Spec PyProof.Rows L2
def sPar3 (i j l : Nat) (as : DA) : DS := fun δ κ X T => as δ κ X fun ds κ1 => ∃ x y z, ds = [x, y, z] ∧ T.nx (((δ.set i (some x)).set j (some y)).set l (some z)) κ1
/-! steps -/
section
variable {δ : DEnv} {κ : Kap} {X : DX} {as : DA} {x y z : D} {n : DEnv → Kap → Prop} {rt : DQ} {bk ct : DEnv → Kap → Prop}
theorem s_par3 {i j l : Nat} (h : as δ κ X fun ds κ1 => ∃ x y z, ds = [x, y, z] ∧ n (((δ.set i (some x)).set j (some y)).set l (some z)) κ1) : sPar3 i j l as δ κ X ⟨n, rt, bk, ct⟩ := h
theorem x_par3 {P : D → D → D → Prop} (h : P x y z) : ∃ u v w, [x, y, z] = [u, v, w] ∧ P u v w := ⟨x, y, z, rfl, h⟩
end
end DL
/-! DMc: list comprehensions with several for clauses. -/
namespace DL
open PySem PySem.Spec PyProof.Rows L2
/-! the clauses' turns -/
end DL
/-! DMd: comprehensions with several for clauses, over data. -/
namespace DL
open PySem PySem.Spec PyProof.Rows L2
abbrev DK := DEnv → Kap → (Kap → Prop) → Prop
def cElt (n : Nat) (e : DE) : DK := fun δ κ K => e δ κ XF fun y κ3 => ∃ acc, κ3 n = some (.live .lst acc) ∧ acc.length < sizeLine ∧ K (kset κ3 n (.live .lst (acc ++ [y])))
def cLoop (t : TN) (tt : DT) (vs : List Nat) (rest : DK) (gd : Kap → Prop) (δ : DEnv) (K : Kap → Prop) : List D → Kap → Prop
  | [], κ => gd κ ∧ K κ
  | d :: ds, κ => gd κ ∧ ∃ δ1, bindT t d (dwipe δ vs) κ = some δ1 ∧ tt δ1 κ XF fun b κ2 => if b = true then rest δ1 κ2 (cLoop t tt vs rest gd δ K ds) else cLoop t tt vs rest gd δ K ds κ2
def cFor (it : DI) (t : TN) (tt : DT) (vs : List Nat) (rest : DK) : DK := fun δ κ K => it δ κ XF fun items gd κ1 => cLoop t tt vs rest gd δ K items κ1
def dLcG (m : Bool) (it : DI) (t : TN) (tt : DT) (rest : Nat → DK) (vs : List Nat) : DE := fun δ κ X Q => it δ κ X fun items gd κ1 => ∀ n, κ1 n = none →
  cLoop t tt vs (rest n) gd δ (fun κ' => ∃ acc, κ' n = some (.live .lst acc) ∧ if m = true then Q (.cell n) κ' else Q (.lst acc) (kset κ' n .dead)) items (kset κ1 n (.live .lst []))
end DL
/-! DMf: enumerate, tuple(..), x[::-1], n += .. -/
namespace DL
open PySem PySem.Spec PyProof.Rows L2
/-! ### enumerate -/
def enumD : Nat → List D → List D
  | _, [] => []
  | i, y :: ys => .node .tup [.int (i : Nat), y] :: enumD (i + 1) ys
def eQ (QI : List D → (Kap → Prop) → Kap → Prop) (xs : List D) (κ : Kap) : Prop := match xs with
  | [.cell n] => ∃ ys, κ n = some (.live .lst ys) ∧ QI (enumD 0 ys) (fun κ => κ n = some (.live .lst ys)) κ
  | [.node .lst ys] => QI (enumD 0 ys) gTrue κ
  | _ => False
def iEnumD (as : DA) : DI := fun δ κ X QI => as δ κ X (eQ QI)
/-! ### tuple(x), x[::-1] -/
def fTup : D → Kap → DQ → Prop := fun x κ Q => (∃ ys, view x κ = some (.lst, ys) ∧ Q (.node .tup ys) κ) ∨ ∃ ys, x = .node .tup ys ∧ Q (.node .tup ys) κ
def dTupOf (a : DE) : DE := fun δ κ X Q => a δ κ X fun x κ1 => fTup x κ1 Q
def fRev (m : Bool) : D → Kap → DQ → Prop := fun x κ Q => ∃ ys, view x κ = some (.lst, ys) ∧ fNew m .lst ys.reverse κ Q
def dRev (m : Bool) (a : DE) : DE := fun δ κ X Q => a δ κ X fun x κ1 => fRev m x κ1 Q
/-! ### name += number -/
def fAddI : D2 := fun x y κ Q => ∃ i j, x = .int i ∧ y = .int j ∧ Q (.int (i + j)) κ
end DL
/-! DLq: defs held by names and by a dict of the top, dict(pairs), d[k], str of a tuple, a try that runs through. -/
namespace DL
open PySem PySem.Spec PyProof.Rows L2
/-! ### a dict of the top whose values are defs -/
end DL
namespace DL
open PySem PySem.Spec PyProof.Rows L2
/-! ### a def that a name holds, called -/
/-! ### a try that runs through -/
def W0 : WX := fun _ _ _ _ => False
theorem Good.nox {k : Nat} {X : Cx} {W : WX} (g : Good k X W) : Good k X.nox W0 := ⟨fun _ _ x => by
  obtain ⟨_, _, _, _, _, _, _, _, _, _, _, _, _, _, _, _, z⟩ := x
  exact z.elim, PassesOwn.never, g.rm, g.gd, g.sm, g.calm, g.nd⟩
end DL
namespace DL
open PySem PySem.Spec PyProof.Rows L2
/-! ### str of a number, of a tuple -/
/-! ### dict(pairs) -/
/-! ### d[k] of such a dict -/
def fDk : D2 := fun x y κ Q => ∃ ks ds k d, view x κ = some (.dct ks, ds) ∧ keyO y = some k ∧ ((ks.zip ds).find? fun p => decide (p.1 = k)) = some (k, d) ∧ Q d κ
theorem find_rep {C : Ctx} {F : Hp} {ρ : Loc0} {k : Key} {d : D} : ∀ {ks : List Key} {ds : List D} {kvs : List (Key × V)}, kvs.map (·.1) = ks → RepL C F ρ ds (kvs.map (·.2)) → ((ks.zip ds).find? fun p => decide (p.1 = k)) = some (k, d) → ∃ v, valV kvs k = some v ∧ Rep C F ρ d v
  | _, _, [], h1, _, h3 => by
    subst h1
    cases h3
  | _, [], kv :: kvs, h1, h2, _ => by cases h2
  | _, d0 :: ds, kv :: kvs, h1, h2, h3 => by
    subst h1
    cases h2 with
    | cons r rr =>
      rw [List.map_cons, List.zip_cons_cons, List.find?_cons] at h3
      by_cases e : kv.1 = k
      · rw [decide_eq_true (by exact e)] at h3
        have := congrArg Prod.snd (Option.some.inj h3)
        subst this
        exact ⟨kv.2, by unfold valV; rw [List.find?_cons, decide_eq_true e]; rfl, r⟩
      · rw [decide_eq_false (by exact e)] at h3
        obtain ⟨v, h4, h5⟩ := find_rep rfl rr h3
        exact ⟨v, by unfold valV at h4 ⊢; rw [List.find?_cons, decide_eq_false e]; exact h4, h5⟩
section
variable {X : Cx} {W : WX} {k : Nat} {e1 e2 : Expr} {a b : DE} {pos : Pos}
theorem pd_dk (G : Good k X W) (ha : PED X W e1 a) (hb : PED X W e2 b) (hs : NoSl e2 := by exact fun _ _ => rfl) : PED X W (.Subscript e1 e2 pos) (dOp fDk a b) :=
  pe_weak (pe_dget (by have := G.rm.units; omega) ha hb hs) fun σ H Q ⟨F, ρ, κ, δ, XD, QD, S, R, h, P, PX⟩ => ⟨F, ρ, κ, δ, XD, _, S, R, h, fun F1 ρ1 κ1 H1 x v e1 S1 R1 h1 => ⟨F1, ρ1, κ1, δ, XD, _, S1, R.ext e1, h1, fun F2 ρ2 κ2 H2 y u e2 S2 R2 ⟨ks, ds, k, d, h2, h3, h4, h5⟩ => by
    obtain ⟨q, vs, rfl, ⟨kvs, hk, hk1, hk2⟩, rl⟩ := view_at S2 (R1.ext e2) h2
    subst hk2
    have := keyO_rep R2 h3
    subst this
    obtain ⟨w, g1, g2⟩ := find_rep hk1 rl h4
    refine ⟨q, w, rfl, ?_, P _ _ _ _ _ _ (e1.trans e2) S2 g2 h5⟩
    rw [← g1]
    exact DGet.k hk, PX.ext e1⟩, PX⟩
end
end DL
namespace DL
open PySem PySem.Spec PyProof.Rows L2
end DL
/-! DLr: within an except suite: two names at once. -/
namespace DL
open PySem PySem.Spec PyProof.Rows L2 HotX
/-! ### the greatest of three -/
end DL
/-! DLs: texts: f-strings, split, startswith, find, lstrip, int of a text, a text many times. -/
namespace DL
open PySem PySem.Spec PyProof.Rows L2
/-! ### methods -/
/-! ### f-strings -/
/-! ### int of a text -/
/-! ### a text many times -/
end DL
/-! DLt: x, *y = a list. -/
namespace DL
open PySem PySem.Spec PyProof.Rows L2
end DL
/-! DLu: zip of any lists and tuples, at the library's level. -/
namespace ZN
open PySem
section
variable {prog : Program} {w : World} {A : Around} {E : Value → Shared → Prop} {s : Shared}
/-- what zip walks: an iterator, whose it is, the items -/
structure Zs where
  it : Addr
  l : Addr
  xs : Array Value
def Src (h : Heap) (k : Nat) (c : Zs) : Prop := (h.IsListIter c.it c.l k ∧ h.IsList c.l c.xs) ∨ (h.IsTupleIter c.it c.l k ∧ h.IsTuple c.l c.xs)
theorem Src.ext {h h' : Heap} {b : Addr} {k : Nat} {c : Zs} (x : Src h k c) (hs : Heap.ExtBut b h h') (h1 : c.it ≠ b) (h2 : c.l ≠ b) : Src h' k c := by
  rcases x with ⟨a, d⟩ | ⟨a, d⟩
  · exact .inl ⟨a.extBut hs h1, d.extBut hs h2⟩
  · exact .inr ⟨a.extBut hs h1, d.extBut hs h2⟩
theorem Src.obj {h : Heap} {k : Nat} {c : Zs} (x : Src h k c) : ∃ o vs, h.get? c.it = some o ∧ o.data = .fields vs := by
  rcases x with ⟨⟨o, a, b, d⟩, _⟩ | ⟨⟨o, a, b, d⟩, _⟩
  · exact ⟨o, _, a, d⟩
  · exact ⟨o, _, a, d⟩
theorem Src.keep {h h' : Heap} {k : Nat} {c : Zs} (x : Src h k c) (h1 : ∀ o, h.get? c.it = some o → h'.get? c.it = some o) (h2 : ∀ o, h.get? c.l = some o → h'.get? c.l = some o) : Src h' k c := by
  rcases x with ⟨⟨o, a, b⟩, ⟨o', d, e⟩⟩ | ⟨⟨o, a, b⟩, ⟨o', d, e⟩⟩
  · exact .inl ⟨⟨o, h1 _ a, b⟩, ⟨o', h2 _ d, e⟩⟩
  · exact .inr ⟨⟨o, h1 _ a, b⟩, ⟨o', h2 _ d, e⟩⟩
abbrev IsT (h : Heap) (T : Addr) (vs : List Value) : Prop := h.get? T = some { cls := .type "tuple", data := .seq vs.toArray }
/-! ### a zip is made -/
end
end ZN
/-! DLv: zip in loops and comprehensions. -/
namespace ZN
open PySem PySem.Spec PyProof.Rows L2
def SrcI (h : Heap) (i : Nat) (b : Bool) (it l : Addr) : Prop := match b with
  | true => h.IsListIter it l i
  | false => h.IsTupleIter it l i
end ZN
/-! DLw: zip, extend, sorted ints, a, b = a list, comprehensions over i, (j, k). -/
namespace DL
open PySem PySem.Spec PyProof.Rows L2
/-! ### extend -/
/-! ### sorted -/
/-! ### a, b = a list -/
/-! ### zip -/
/-! ### comprehensions over i, (j, k) -/
end DL
/-! DOa: objects of own classes: made, their fields read and laid, their methods called. -/
namespace DL
open PySem PySem.Spec PyProof.Rows L2
/-! ### classes -/
structure ObC (K : PySem.W.Frag) (mg : Str → Option Value) (c : Str) (C : Addr) : Prop where
  m : mg c = some (.ref C)
  cl : Cls K C
def lookN : List Str → List D → Str → Option D
  | n :: ns, x :: xs, f => if f = n then some x else lookN ns xs f
  | _, _, _ => none
section
variable {C : Ctx} {F : Hp} {ρ : Loc0}
theorem lookN_at {f : Str} {d : D} : ∀ {fs : List (Str × V)} {xs : List D}, RepL C F ρ xs (fs.map (·.2)) → lookN (fs.map (·.1)) xs f = some d → ∃ v, fs.lookup f = some v ∧ Rep C F ρ d v
  | [], _, .nil, h => by cases h
  | (n, v) :: fs, x :: xs, .cons r t, h => by
    have h' : (if f = n then some x else lookN (fs.map (·.1)) xs f) = some d := h
    by_cases e : f = n
    · rw [if_pos e] at h'
      cases h'
      subst e
      exact ⟨v, by simp [List.lookup], r⟩
    · rw [if_neg e] at h'
      obtain ⟨u, h1, h2⟩ := lookN_at (fs := fs) t h'
      have e' : (f == n) = false := by simpa using e
      exact ⟨u, by simp [List.lookup, e', h1], h2⟩
end
/-! ### fields -/
/-! ### methods -/
/-- the method m of the class c keeps a promise -/
def MeOk (P : Program) (w : World) (K : PySem.W.Frag) (mg : Str → Option Value) (base : Heap) (k : Nat) (c m : Str) (ps : List Str) (sp : DSp) : Prop :=
  ∃ C f fd, ObC K mg c C ∧ Meth K C m f ∧ FnG P w K mg base k f fd ps sp ∧ Binds K fd ps []
theorem MeOk.mono {P : Program} {w : World} {K : PySem.W.Frag} {mg : Str → Option Value} {base : Heap} {j k : Nat} {c m : Str} {ps : List Str} {sp : DSp} (O : MeOk P w K mg base j c m ps sp) (h : j ≤ k) : MeOk P w K mg base k c m ps sp :=
  let ⟨C, f, fd, h1, h2, h3, h4⟩ := O; ⟨C, f, fd, h1, h2, h3.mono h, h4⟩
/-- .. called with n values by place (itself not counted) and the keywords ks -/
def MeC (P : Program) (w : World) (K : PySem.W.Frag) (mg : Str → Option Value) (base : Heap) (k : Nat) (c m : Str) (n : Nat) (ks : List Str) (is : List Nat) (dds : List D) (sp : DSp) : Prop :=
  ∃ C f fd ps, ∃ dvs : List V, ∃ its : List Value, ObC K mg c C ∧ Meth K C m f ∧ FnG P w K mg base k f fd ps sp ∧ KBn K fd ps (n + 1) ks (fun us ws => pick is (us ++ (ws ++ its))) (fun vs zs => pick is (vs ++ (zs ++ dvs))) ∧ ∀ F ρ, RepL ⟨K, mg⟩ F ρ dds dvs
theorem MeC.mono {P : Program} {w : World} {K : PySem.W.Frag} {mg : Str → Option Value} {base : Heap} {j k : Nat} {c m : Str} {n : Nat} {ks : List Str} {is : List Nat} {dds : List D} {sp : DSp} (O : MeC P w K mg base j c m n ks is dds sp) (h : j ≤ k) : MeC P w K mg base k c m n ks is dds sp :=
  let ⟨C, f, fd, ps, dvs, its, h1, h2, h3, h4⟩ := O; ⟨C, f, fd, ps, dvs, its, h1, h2, h3.mono h, h4⟩
/-! ### made -/
def MkOk (P : Program) (w : World) (K : PySem.W.Frag) (mg : Str → Option Value) (base : Heap) (k : Nat) (c : Str) (ps : List Str) (sp : DSp) : Prop :=
  ∃ C f fd, ObC K mg c C ∧ Mk K C f ∧ FnG P w K mg base k f fd ps sp ∧ Binds K fd ps []
theorem MkOk.mono {P : Program} {w : World} {K : PySem.W.Frag} {mg : Str → Option Value} {base : Heap} {j k : Nat} {c : Str} {ps : List Str} {sp : DSp} (O : MkOk P w K mg base j c ps sp) (h : j ≤ k) : MkOk P w K mg base k c ps sp :=
  let ⟨C, f, fd, h1, h2, h3, h4⟩ := O; ⟨C, f, fd, h1, h2, h3.mono h, h4⟩
end DL
/-! DLz: list(zip(..)), at the library's level. -/
namespace ZN
open PySem
/-- a zip whose last tuple lives on -/
abbrev IsZp (h : Heap) (z TI TO : Addr) (f0 f1 : Value) : Prop :=
  h.get? z = some { cls := .type "zip", dict := none, data := .fields #[f0, f1, .bool false, .ref TI, .ref TO], slots := #[] }
end ZN
namespace ZN
open PySem PySem.Spec PyProof.Rows L2
/-- a zip behind i turns; the tuples that it told live on -/
def ZSt (z TI TO : Addr) (its : List Addr) (ks : List (Bool × Addr)) (i : Nat) (h : Heap) : Prop :=
  (IsZp h z TI TO .none (.bool false) ∨ ∃ (a : Addr) (k : Bool) (o : Obj), IsZp h z TI TO (rawInt a) (.bool k) ∧ h.get? a = some o) ∧ IsT h TI (its.map Value.ref) ∧ (∃ ts : List Value, ts.length = ks.length ∧ IsT h TO ts) ∧ ∀ (j : Nat) (q : Bool × Addr) (it : Addr), ks[j]? = some q → its[j]? = some it → SrcI h i q.1 it q.2
theorem ZSt.keep {z TI TO : Addr} {its : List Addr} {ks : List (Bool × Addr)} {i : Nat} {h h' : Heap} (st : ZSt z TI TO its ks i h) (k : ∀ b ∈ z :: TI :: TO :: its, ∀ o, h.get? b = some o → h'.get? b = some o) (al : ∀ b o, h.get? b = some o → ∃ o', h'.get? b = some o') : ZSt z TI TO its ks i h' := by
  obtain ⟨hz, hTI, ⟨ts, ht, hTO⟩, hi⟩ := st
  refine ⟨?_, k TI (by simp) _ hTI, ⟨ts, ht, k TO (by simp) _ hTO⟩, fun j q it h1 h2 => ?_⟩
  · rcases hz with hz | ⟨a, c, o, hz, ha⟩
    · exact .inl (k z (by simp) _ hz)
    · obtain ⟨o', ho⟩ := al _ _ ha
      exact .inr ⟨a, c, o', k z (by simp) _ hz, ho⟩
  · have r := hi j q it h1 h2
    have hm : it ∈ z :: TI :: TO :: its := by simp [List.mem_of_getElem? h2]
    obtain ⟨b, a⟩ := q
    cases b with
    | true => obtain ⟨o, e, d⟩ := r; exact ⟨o, k it hm _ e, d⟩
    | false => obtain ⟨o, e, d⟩ := r; exact ⟨o, k it hm _ e, d⟩
end ZN
/-! DOb: list(x), list(zip(..)), sums, greatest and least, what is done to lists. -/
namespace DL
open PySem PySem.Spec PyProof.Rows L2
/-! ### list(x) -/
def fListOf (m : Bool) : DN := fun xs κ Q => match xs with
  | [d] => ∃ ys, ((∃ k, view d κ = some (k, ys) ∧ (k = .lst ∨ k = .tup ∨ k = .klst))) ∧ fNew m .lst ys κ Q
  | _ => False
theorem sim_listOf {C : Ctx} (m : Bool) : SimN C (fListOf m) (fun xs H Q => ∃ p ys, xs = [.ref p] ∧ (SqL C.K H p ys ∨ SqT C.K H p ys) ∧ ∀ l, H l = none → Q (.ref l) (upd H l (.lst ys))) := by
  intro F ρ κ H xs vs QD Q S r h P
  match xs, h with
  | [d], ⟨ys, ⟨k, h1, h2⟩, h3⟩ =>
    obtain ⟨v, rfl, rv⟩ := repL1 r
    obtain ⟨a, ws, rfl, hk, rl⟩ := view_at S rv h1
    refine ⟨a, ws, rfl, ?_, new_lst S rl h3 P⟩
    rcases h2 with rfl | rfl | rfl
    · exact .inl (SqL.of hk)
    · exact .inr hk
    · exact .inl hk
/-! ### sums, greatest, least -/
/-! ### what is done to a list -/
/-! ### extend, by a list in a cell too -/
/-! ### slices of tuples -/
/-! ### list(zip(..)) -/
/-! ### methods by name -/
end DL
/-! DLy: enumerate(zip(..)) in loops. -/
namespace ZN
open PySem PySem.Spec PyProof.Rows L2
/-- a zip behind i turns, whatever became of the tuple that it told last -/
def ZSo (z TI TO : Addr) (its : List Addr) (ks : List (Bool × Addr)) (i : Nat) (h : Heap) : Prop :=
  (IsZp h z TI TO .none (.bool false) ∨ ∃ (a : Addr) (k : Bool), IsZp h z TI TO (rawInt a) (.bool k)) ∧ IsT h TI (its.map Value.ref) ∧ (∃ ts : List Value, ts.length = ks.length ∧ IsT h TO ts) ∧ ∀ (j : Nat) (q : Bool × Addr) (it : Addr), ks[j]? = some q → its[j]? = some it → SrcI h i q.1 it q.2
theorem ZSo.keep {z TI TO : Addr} {its : List Addr} {ks : List (Bool × Addr)} {i : Nat} {h h' : Heap} (hl : its.length = ks.length) (st : ZSo z TI TO its ks i h) (k : ∀ b ∈ z :: TI :: TO :: its, ∀ o, h.get? b = some o → h'.get? b = some o) : ZSo z TI TO its ks i h' := by
  obtain ⟨hz, hTI, ⟨ts, ht, hTO⟩, hi⟩ := st
  refine ⟨?_, k TI (by simp) _ hTI, ⟨ts, ht, k TO (by simp) _ hTO⟩, fun j q it h1 h2 => ?_⟩
  · rcases hz with hz | ⟨a, c, hz⟩
    · exact .inl (k z (by simp) _ hz)
    · exact .inr ⟨a, c, k z (by simp) _ hz⟩
  · have r := hi j q it h1 h2
    have hm : it ∈ z :: TI :: TO :: its := by simp [List.mem_of_getElem? h2]
    obtain ⟨b, a⟩ := q
    cases b with
    | true => obtain ⟨o, e, d⟩ := r; exact ⟨o, k it hm _ e, d⟩
    | false => obtain ⟨o, e, d⟩ := r; exact ⟨o, k it hm _ e, d⟩
end ZN
namespace ZN
open PySem PySem.Spec PyProof.Rows L2
theorem ZSo.obj {z TI TO : Addr} {its : List Addr} {ks : List (Bool × Addr)} {i : Nat} {h : Heap} (hl : its.length = ks.length) (st : ZSo z TI TO its ks i h) : ∀ b ∈ z :: TI :: TO :: its, ∃ o, h.get? b = some o ∧ ∀ v, o.data ≠ .cell v := by
  intro c hc
  obtain ⟨hz, hTI, ⟨ts, _, hTO⟩, hi⟩ := st
  rcases List.mem_cons.mp hc with q | hc
  · rw [q]
    rcases hz with hz | ⟨_, _, hz⟩ <;> exact ⟨_, hz, fun v q => nomatch q⟩
  rcases List.mem_cons.mp hc with q | hc
  · rw [q]; exact ⟨_, hTI, fun v q => nomatch q⟩
  rcases List.mem_cons.mp hc with q | hc
  · rw [q]; exact ⟨_, hTO, fun v q => nomatch q⟩
  obtain ⟨j, hj⟩ := List.mem_iff_getElem?.mp hc
  have hjl : j < ks.length := by
    have := (List.getElem?_eq_some_iff.mp hj).1
    omega
  have r := hi j _ c (List.getElem?_eq_getElem hjl) hj
  generalize ks[j] = kq at r
  obtain ⟨b, a⟩ := kq
  cases b with
  | true => obtain ⟨o, e, _, d⟩ := r; exact ⟨o, e, fun v q => by rw [d] at q; cases q⟩
  | false => obtain ⟨o, e, _, d⟩ := r; exact ⟨o, e, fun v q => by rw [d] at q; cases q⟩
/-! ### an enumerate over a zip is made -/
end ZN
namespace DL
open PySem PySem.Spec PyProof.Rows L2
end DL
/-! DOc: comprehensions of several clauses that are stored. -/
namespace DL
open PySem PySem.Spec PyProof.Rows L2
end DL
namespace DL
open PySem PySem.Spec PyProof.Rows L2
/-! ### d.get(k, x) -/
end DL
/-! DP: plain steps over data. -/
namespace DL
open PySem PySem.Spec PyProof.Rows L2
section
variable {κ : Kap} {Q : DQ} {P : Bool → Prop} {i j : Int} {b c : Bool} {x y : Str} {m : Bool} {xs ys : List D}
theorem sl_str {u v : Option Int} : fSl m (.str x) u v κ Q = (x.length ≤ sizeLine ∧ Q (.str (cutS x u v)) κ) := rfl
theorem ix_lst : fIx (.node .lst xs) (.int i) κ Q = ∃ d, atI xs i = some d ∧ Q d κ := rfl
theorem ix_tup : fIx (.node .tup xs) (.int i) κ Q = ∃ d, atI xs i = some d ∧ Q d κ := rfl
theorem vw_cell {n : Nat} {k : Kd} (h : κ n = some (.live k xs)) : view (.cell n) κ = some (k, xs) := by
  unfold view
  simp only [h]
theorem ix_cell {n : Nat} (h : κ n = some (.live .lst xs)) : fIx (.cell n) (.int i) κ Q = ∃ d, atI xs i = some d ∧ Q d κ := by
  show (match view (.cell n) κ with
    | some (.lst, xs) => ∃ d, atI xs i = some d ∧ Q d κ
    | some (.tup, xs) => ∃ d, atI xs i = some d ∧ Q d κ
    | some (.klst, xs) => ∃ d, atI xs i = some d ∧ Q d κ
    | _ => False) = _
  rw [vw_cell h]
theorem ixN_nat {k n : Nat} (h : n < k) : ixN k (n : Int) = some n := by
  unfold ixN
  rw [if_pos (Int.natCast_nonneg n), if_pos (by omega), Int.toNat_natCast]
theorem at_nat {α : Type} {xs : List α} {n : Nat} {a : α} (h : xs[n]? = some a) : atI xs (n : Int) = some a := by
  unfold atI
  obtain ⟨h1, _⟩ := List.getElem?_eq_some_iff.mp h
  rw [ixN_nat h1]
  exact h
theorem at_0 {a : D} {l : List D} {P : D → Prop} : (∃ d, atI (a :: l) 0 = some d ∧ P d) = P a := propext ⟨fun ⟨d, h, q⟩ => by
    have : atI (a :: l) 0 = some a := at_nat (n := 0) rfl
    rw [this] at h; cases h; exact q, fun h => ⟨a, at_nat (n := 0) rfl, h⟩⟩
theorem at_1 {a b : D} {l : List D} {P : D → Prop} : (∃ d, atI (a :: b :: l) 1 = some d ∧ P d) = P b := propext ⟨fun ⟨d, h, q⟩ => by
    have : atI (a :: b :: l) 1 = some b := at_nat (n := 1) rfl
    rw [this] at h; cases h; exact q, fun h => ⟨b, at_nat (n := 1) rfl, h⟩⟩
theorem at_2 {a b c : D} {l : List D} {P : D → Prop} : (∃ d, atI (a :: b :: c :: l) 2 = some d ∧ P d) = P c := propext ⟨fun ⟨d, h, q⟩ => by
    have : atI (a :: b :: c :: l) 2 = some c := at_nat (n := 2) rfl
    rw [this] at h; cases h; exact q, fun h => ⟨c, at_nat (n := 2) rfl, h⟩⟩
theorem at_3 {a b c e : D} {l : List D} {P : D → Prop} : (∃ d, atI (a :: b :: c :: e :: l) 3 = some d ∧ P d) = P e := propext ⟨fun ⟨d, h, q⟩ => by
    have : atI (a :: b :: c :: e :: l) 3 = some e := at_nat (n := 3) rfl
    rw [this] at h; cases h; exact q, fun h => ⟨e, at_nat (n := 3) rfl, h⟩⟩
/-- the item of a list at a place below its length -/
theorem at_of {α : Type} {xs : List α} {i : Int} (h0 : 0 ≤ i) (h1 : i < xs.length) : ∃ d, atI xs i = some d ∧ d ∈ xs := by
  unfold atI ixN
  rw [if_pos h0, if_pos h1]
  have h2 : i.toNat < xs.length := by omega
  exact ⟨xs[i.toNat], List.getElem?_eq_getElem h2, List.getElem_mem h2⟩
theorem ix_mem {xs : List D} {i : Int} {κ : Kap} {Q : DQ} (h0 : 0 ≤ i) (h1 : i < xs.length) (h : ∀ d ∈ xs, Q d κ) : fIx (.node .lst xs) (.int i) κ Q := by
  obtain ⟨d, e, hd⟩ := at_of h0 h1
  exact ⟨d, e, h d hd⟩
theorem se_cell {n : Nat} {d : D} {T : Kap → Prop} (h : κ n = some (.live .lst xs)) : fSet (.cell n) (.int i) d κ T = ∃ m, ixN xs.length i = some m ∧ T (kset κ n (.live .lst (xs.set m d))) := by
  unfold fSet
  simp only [h]
theorem se_0 {n : Nat} {a d : D} {l : List D} {T : Kap → Prop} (h : κ n = some (.live .lst (a :: l))) : fSet (.cell n) (.int 0) d κ T = T (kset κ n (.live .lst (d :: l))) := by
  rw [se_cell h]
  exact propext ⟨fun ⟨m, h, q⟩ => by
    have : ixN (a :: l).length 0 = some 0 := by unfold ixN; simp
    rw [this] at h; cases h; exact q, fun h => ⟨0, by unfold ixN; simp, h⟩⟩
theorem se_2 {n : Nat} {a b c d : D} {l : List D} {T : Kap → Prop} (h : κ n = some (.live .lst (a :: b :: c :: l))) : fSet (.cell n) (.int 2) d κ T = T (kset κ n (.live .lst (a :: b :: d :: l))) := by
  rw [se_cell h]
  have e : ixN (a :: b :: c :: l).length 2 = some 2 := ixN_nat (n := 2) (by simp)
  exact propext ⟨fun ⟨m, h, q⟩ => by rw [e] at h; cases h; exact q, fun h => ⟨2, e, h⟩⟩
theorem se_3 {n : Nat} {a b c e d : D} {l : List D} {T : Kap → Prop} (h : κ n = some (.live .lst (a :: b :: c :: e :: l))) : fSet (.cell n) (.int 3) d κ T = T (kset κ n (.live .lst (a :: b :: c :: d :: l))) := by
  rw [se_cell h]
  have e : ixN (a :: b :: c :: e :: l).length 3 = some 3 := ixN_nat (n := 3) (by simp)
  exact propext ⟨fun ⟨m, h, q⟩ => by rw [e] at h; cases h; exact q, fun h => ⟨3, e, h⟩⟩
end
/-! equality of what can be told apart -/
theorem pd_int_is {κ : Kap} {i : Int} {p : PyData} (h : Pd κ (.int i) p) : p = .int i := by
  cases h with
  | int => rfl
  | lst h _ => cases h
  | tup h _ => cases h
  | dct h _ => cases h
theorem eq_int {κ : Kap} {Q : DQ} {i j : Int} : fEq (.int i) (.int j) κ Q = Q (.bl (decide (i = j))) κ := propext ⟨fun ⟨p, q, h1, h2, _, _, h⟩ => by
    cases pd_int_is h1
    cases pd_int_is h2
    exact h, fun h => ⟨.int i, .int j, .int i, .int j, rfl, rfl, h⟩⟩
theorem ne_int' {κ : Kap} {Q : DQ} {i j : Int} : fNe (.int i) (.int j) κ Q = Q (.bl (!decide (i = j))) κ := propext ⟨fun ⟨p, q, h1, h2, _, _, h⟩ => by
    cases pd_int_is h1
    cases pd_int_is h2
    exact h, fun h => ⟨.int i, .int j, .int i, .int j, rfl, rfl, h⟩⟩
theorem eq_dat {κ : Kap} {Q : DQ} {x y : D} {p q : PyData} (hx : pdata x = some p) (hy : pdata y = some q) (sx : SeqAt.shaped p = true) (sy : SeqAt.shaped q = true) (h : Q (.bl (PyData.eqv p q)) κ) : fEq x y κ Q := ⟨p, q, pd_of hx, pd_of hy, sx, sy, h⟩
theorem ne_dat {κ : Kap} {Q : DQ} {x y : D} {p q : PyData} (hx : pdata x = some p) (hy : pdata y = some q) (sx : SeqAt.shaped p = true) (sy : SeqAt.shaped q = true) (h : Q (.bl (!PyData.eqv p q)) κ) : fNe x y κ Q := ⟨p, q, pd_of hx, pd_of hy, sx, sy, h⟩
/-! side conditions -/
theorem log_lt {n k : Nat} (h : n < 2 ^ k) : n.log2 ≤ k := by
  by_cases h0 : n = 0
  · subst h0; simp
  · exact Nat.le_of_lt ((Nat.log2_lt h0).mpr h)
theorem cmul_of (a b : Nat) {i j : Int} (h : i.natAbs < 2 ^ a) (h' : j.natAbs < 2 ^ b) (hs : a + b < 1000000) : CMulW i j := by
  have h1 := log_lt h
  have h2 := log_lt h'
  unfold CMulW
  omega
theorem cmul64 {i j : Int} (h : i.natAbs < 2 ^ 64) (h' : j.natAbs < 2 ^ 64) : CMulW i j := cmul_of 64 64 h h' (by decide)
theorem cdiv_of (a : Nat) {i j : Int} (h0 : j ≠ 0) (h : j.natAbs < 2 ^ a) (hs : a < 9000) : CDivD i j := ⟨h0, Nat.lt_of_le_of_lt (log_lt h) hs⟩
theorem cdiv64 {i j : Int} (h0 : j ≠ 0) (h : j.natAbs < 2 ^ 64) : CDivD i j := cdiv_of 64 h0 h (by decide)
theorem fm_bd (x w : Int) (h : 0 < w) : 0 ≤ x.fmod w ∧ x.fmod w < w := ⟨Int.fmod_nonneg_of_pos x h, Int.fmod_lt_of_pos x h⟩
theorem len_cut (z : Str) (u v : Option Int) : (cutS z u v).length ≤ z.length := cutS_length z u v
theorem len_app (x y : Str) : (x ++ y).length = x.length + y.length := Array.size_append
theorem len_emp : (Str.ofString "").length = 0 := by decide +kernel
/-! isinstance, told -/
/-! repr of data -/
theorem bi_inl {i : Nat} {d : D} {δ : DEnv} {κ : Kap} {P : DEnv → Prop} : (∃ δ1, bindT (.inl i) d δ κ = some δ1 ∧ P δ1) = P (δ.set i (some d)) := propext ⟨fun ⟨δ1, h, q⟩ => by cases h; exact q, fun h => ⟨_, rfl, h⟩⟩
/-! loops -/
/-- a loop over items: what holds of the rest -/
theorem dLoop_ind {g : DG} {b : DS} {gd : Kap → Prop} {X : DX} {T : DEnds} (I : List D → DEnv → Kap → Prop) (h0 : ∀ δ κ, I [] δ κ → gd κ ∧ T.nx δ κ)
    (hs : ∀ d ds δ κ (L : DEnv → Kap → Prop), (∀ δ κ, I ds δ κ → L δ κ) → I (d :: ds) δ κ → gd κ ∧ g d δ κ X fun δ1 κ1 => b δ1 κ1 X { nx := L, ct := L, bk := T.nx, rt := T.rt }) : ∀ ds δ κ, I ds δ κ → dLoop g b gd X T ds δ κ
  | [], δ, κ, h => h0 δ κ h
  | d :: ds, δ, κ, h => hs d ds δ κ _ (dLoop_ind I h0 hs ds) h
/-- a loop over items: what holds behind i of them -/
theorem dLoop_ix {g : DG} {b : DS} {gd : Kap → Prop} {X : DX} {T : DEnds} {items : List D} (I : Nat → DEnv → Kap → Prop) (h0 : ∀ δ κ, I items.length δ κ → gd κ ∧ T.nx δ κ)
    (hs : ∀ i d δ κ (L : DEnv → Kap → Prop), items[i]? = some d → (∀ δ κ, I (i + 1) δ κ → L δ κ) → I i δ κ → gd κ ∧ g d δ κ X fun δ1 κ1 => b δ1 κ1 X { nx := L, ct := L, bk := T.nx, rt := T.rt }) {δ : DEnv} {κ : Kap} (h : I 0 δ κ) : dLoop g b gd X T items δ κ := by
  refine dLoop_ind (fun ds δ κ => ∃ i, ds = items.drop i ∧ i ≤ items.length ∧ I i δ κ) ?_ ?_ items δ κ ⟨0, rfl, Nat.zero_le _, h⟩
  · rintro δ κ ⟨i, e, hi, h⟩
    have : i = items.length := by
      have := congrArg List.length e
      simp at this
      omega
    subst this
    exact h0 δ κ h
  · rintro d ds δ κ L hL ⟨i, e, hi, h⟩
    have hlt : i < items.length := by
      have := congrArg List.length e
      simp at this
      omega
    rw [List.drop_eq_getElem_cons hlt] at e
    injection e with e1 e2
    exact hs i d δ κ L (by rw [e1]; exact List.getElem?_eq_getElem hlt) (fun δ κ q => hL δ κ ⟨i + 1, e2, hlt, q⟩) h
theorem lcLoop_ind {n : Nat} {t : TN} {tt : DT} {e : DE} {gd : Kap → Prop} {vs : List Nat} {δ : DEnv} {fin : List D → Kap → Prop} (I : List D → List D → Kap → Prop) (h0 : ∀ acc κ, I [] acc κ → gd κ ∧ fin acc κ)
    (hs : ∀ d ds acc κ (L : List D → Kap → Prop), (∀ acc κ, I ds acc κ → L acc κ) → I (d :: ds) acc κ → gd κ ∧ ∃ δ1, bindT t d (dwipe δ vs) κ = some δ1 ∧ tt δ1 κ XF fun b κ2 => if b = true then e δ1 κ2 XF fun y κ3 => κ3 n = some (.live .lst acc) ∧ acc.length < sizeLine ∧ L (acc ++ [y]) (kset κ3 n (.live .lst (acc ++ [y])))
      else L acc κ2) : ∀ ds acc κ, I ds acc κ → lcLoop n t tt e gd vs δ fin ds acc κ
  | [], acc, κ, h => h0 acc κ h
  | d :: ds, acc, κ, h => hs d ds acc κ _ (lcLoop_ind I h0 hs ds) h
theorem lcLoop_ix {n : Nat} {t : TN} {tt : DT} {e : DE} {gd : Kap → Prop} {vs : List Nat} {δ : DEnv} {fin : List D → Kap → Prop} {items : List D} (I : Nat → List D → Kap → Prop) (h0 : ∀ acc κ, I items.length acc κ → gd κ ∧ fin acc κ)
    (hs : ∀ i d acc κ (L : List D → Kap → Prop), items[i]? = some d → (∀ acc κ, I (i + 1) acc κ → L acc κ) → I i acc κ → gd κ ∧ ∃ δ1, bindT t d (dwipe δ vs) κ = some δ1 ∧ tt δ1 κ XF fun b κ2 => if b = true then e δ1 κ2 XF fun y κ3 => κ3 n = some (.live .lst acc) ∧ acc.length < sizeLine ∧ L (acc ++ [y]) (kset κ3 n (.live .lst (acc ++ [y])))
      else L acc κ2) {acc : List D} {κ : Kap} (h : I 0 acc κ) : lcLoop n t tt e gd vs δ fin items acc κ := by
  refine lcLoop_ind (fun ds acc κ => ∃ i, ds = items.drop i ∧ i ≤ items.length ∧ I i acc κ) ?_ ?_ items acc κ ⟨0, rfl, Nat.zero_le _, h⟩
  · rintro δ κ ⟨i, e, hi, h⟩
    have : i = items.length := by
      have := congrArg List.length e
      simp at this
      omega
    subst this
    exact h0 δ κ h
  · rintro d ds δ κ L hL ⟨i, e, hi, h⟩
    have hlt : i < items.length := by
      have := congrArg List.length e
      simp at this
      omega
    rw [List.drop_eq_getElem_cons hlt] at e
    injection e with e1 e2
    exact hs i d δ κ L (by rw [e1]; exact List.getElem?_eq_getElem hlt) (fun δ κ q => hL δ κ ⟨i + 1, e2, hlt, q⟩) h
theorem rangeD_len {lo : Int} {n : Nat} : (rangeD lo n).length = n := by unfold rangeD; simp
theorem rangeD_get {lo : Int} {n i : Nat} {d : D} (h : (rangeD lo n)[i]? = some d) : i < n ∧ d = .int (lo + (i : Nat)) := by
  unfold rangeD at h
  rw [List.getElem?_map, Option.map_eq_some_iff] at h
  obtain ⟨j, hj, rfl⟩ := h
  obtain ⟨h1, h2⟩ := List.getElem?_eq_some_iff.mp hj
  rw [List.length_range] at h1
  rw [List.getElem_range] at h2
  subst h2
  exact ⟨h1, rfl⟩
/-! a box that is drawn from -/
/-- the box at b: three whole numbers, at most m drawn so far -/
def Bx (b m : Nat) (κ : Kap) : Prop := ∃ x y z : Int, κ b = some (.live .lst [.int x, .int y, .int z]) ∧ 0 ≤ y ∧ y < 2 ^ 31 ∧ 0 ≤ z ∧ z ≤ (m : Int)
/-- all cells but b's stay -/
def Fr (b : Nat) (κ κ' : Kap) : Prop := ∀ n c, n ≠ b → κ n = some c → κ' n = some c
theorem Fr.trans {b : Nat} {κ κ1 κ2 : Kap} (h : Fr b κ κ1) (g : Fr b κ1 κ2) : Fr b κ κ2 := fun n c hn e => g n c hn (h n c hn e)
theorem Fr.set {b n : Nat} {κ : Kap} {c : Cell} (h : κ n = none) : Fr b κ (kset κ n c) := fun m d hm e => by rw [kset_ne (kne e h)]; exact e
theorem Fr.put {b n : Nat} {κ κ' : Kap} {c : Cell} (f : Fr b κ κ') (h : κ n = none) : Fr b κ (kset κ' n c) := fun m d hm e => by rw [kset_ne (kne e h)]; exact f m d hm e
theorem Fr.box {b : Nat} {κ : Kap} {c : Cell} : Fr b κ (kset κ b c) := fun m d hm e => by rw [kset_ne hm]; exact e
theorem Bx.mono {b m m' : Nat} {κ : Kap} (h : Bx b m κ) (hm : m ≤ m') : Bx b m' κ := let ⟨x, y, z, h1, h2, h3, h4, h5⟩ := h; ⟨x, y, z, h1, h2, h3, h4, by omega⟩
theorem Bx.is {b m : Nat} {κ : Kap} (h : Bx b m κ) : ∃ k xs, κ b = some (.live k xs) := let ⟨_, _, _, h1, _⟩ := h; ⟨_, _, h1⟩
theorem Bx.ne {b m n : Nat} {κ : Kap} (h : Bx b m κ) (hn : κ n = none) : n ≠ b := fun e => by obtain ⟨_, _, q⟩ := h.is; rw [e] at hn; rw [hn] at q; cases q
theorem Bx.set {b m n : Nat} {κ : Kap} {c : Cell} (h : Bx b m κ) (hn : n ≠ b) : Bx b m (kset κ n c) := let ⟨x, y, z, h1, h2⟩ := h; ⟨x, y, z, by rw [kset_ne hn.symm]; exact h1, h2⟩
end DL
/-! DS: one step for each reading. -/
namespace DL
open PySem PySem.Spec L2
def rQ (QI : List D → (Kap → Prop) → Kap → Prop) (xs : List D) (κ : Kap) : Prop := match xs with
  | [.int j] => -(2 ^ 62) ≤ j ∧ j < 2 ^ 62 ∧ QI (rangeD 0 j.toNat) gTrue κ
  | _ => False
def sQ (QI : List D → (Kap → Prop) → Kap → Prop) (d : D) (κ : Kap) : Prop := match d with
  | .str x => QI (charsD x) gTrue κ
  | .cell n => match κ n with
    | some (.live .lst xs) => QI xs (fun κ => κ n = some (.live .lst xs)) κ
    | _ => False
  | d => match view d κ with
    | some (.lst, xs) => QI xs gTrue κ
    | some (.klst, xs) => QI xs gTrue κ
    | some (.tup, xs) => QI xs gTrue κ
    | _ => False
section
variable {δ : DEnv} {κ : Kap} {X : DX} {Q : DQ} {a b c : DE} {as r : DA} {t u : DT} {s s' : DS} {d x y : D} {f g : D2} {n : DEnv → Kap → Prop} {rt : DQ} {bk ct : DEnv → Kap → Prop} {T : DEnds} {QL : List D → Kap → Prop} {QB : Bool → Kap → Prop} {QG : DEnv → Kap → Prop} {xs ys : List D} {A B : Prop} {i j : Int} {z v : Str} {m k : Bool}
theorem s_sp {n m : Nat} {b : DS} {ds : List D} {X : Str → List D → Kap → Prop} (h : ds.length = m) (q : b (startD n ds) κ (fun _ c fs κ' => X c fs κ') ⟨fun _ κ' => Q .non κ', Q, fun _ _ => False, fun _ _ => False⟩) : spOf n m b ds κ X Q := ⟨h, q⟩
theorem s_seq (h : s δ κ X ⟨fun δ1 κ1 => s' δ1 κ1 X ⟨n, rt, bk, ct⟩, rt, bk, ct⟩) : sSeq s s' δ κ X ⟨n, rt, bk, ct⟩ := h
theorem s_nil (h : n δ κ) : sNil δ κ X ⟨n, rt, bk, ct⟩ := h
theorem s_asg {g : DG} (h : a δ κ X fun d κ1 => g d δ κ1 X n) : sAsg a g δ κ X ⟨n, rt, bk, ct⟩ := h
theorem s_exp (h : a δ κ X fun _ κ1 => n δ κ1) : sExp a δ κ X ⟨n, rt, bk, ct⟩ := h
theorem s_ret (h : a δ κ X rt) : sRet a δ κ X ⟨n, rt, bk, ct⟩ := h
theorem s_retN (h : rt .non κ) : sRetN δ κ X ⟨n, rt, bk, ct⟩ := h
theorem s_brk (h : bk δ κ) : sBrk δ κ X ⟨n, rt, bk, ct⟩ := h
theorem s_con (h : ct δ κ) : sCon δ κ X ⟨n, rt, bk, ct⟩ := h
theorem s_if (h : t δ κ X fun k κ1 => if k = true then s δ κ1 X T else s' δ κ1 X T) : sIf t s s' δ κ X T := h
theorem s_par {i j : Nat} (h : as δ κ X fun ds κ1 => ∃ x y, ds = [x, y] ∧ n ((δ.set i (some x)).set j (some y)) κ1) : sPar i j as δ κ X ⟨n, rt, bk, ct⟩ := h
theorem s_for {it : DI} {g : DG} (h : it δ κ X fun items gd κ1 => dLoop g s gd X T items δ κ1) : sFor it g s δ κ X T := h
theorem x_par {P : D → D → Prop} (h : P x y) : ∃ u v, [x, y] = [u, v] ∧ P u v := ⟨x, y, rfl, h⟩
theorem e_var {i : Nat} (e : δ[i]? = some (some d)) (h : Q d κ) : dVar i δ κ X Q := by unfold dVar; rw [e]; exact h
theorem e_c (h : Q d κ) : dC d δ κ X Q := h
theorem e_op (h : a δ κ X fun x κ1 => b δ κ1 X fun y κ2 => f x y κ2 Q) : dOp f a b δ κ X Q := h
theorem e_un {f : D1} (h : a δ κ X fun x κ1 => f x κ1 Q) : dUn f a δ κ X Q := h
theorem e_nil (h : QL [] κ) : dNil δ κ X QL := h
theorem e_cons (h : a δ κ X fun x κ1 => r δ κ1 X fun xs κ2 => QL (x :: xs) κ2) : dCons a r δ κ X QL := h
theorem e_B {f : DN} (h : as δ κ X fun xs κ1 => f xs κ1 Q) : dB f as δ κ X Q := h
theorem e_tup (h : as δ κ X fun xs κ1 => xs.length ≤ sizeLine ∧ Q (.node .tup xs) κ1) : dTup as δ κ X Q := h
theorem e_lst (h : as δ κ X fun xs κ1 => xs.length ≤ sizeLine ∧ fNew m .lst xs κ1 Q) : dLst m as δ κ X Q := h
theorem e_dct0 (h : fNew m (.dct []) [] κ Q) : dDct0 m δ κ X Q := h
theorem e_sz (h1 : xs.length ≤ sizeLine) (h : A) : xs.length ≤ sizeLine ∧ A := ⟨h1, h⟩
theorem cpow_of {i j : Int} (h0 : 0 ≤ j) (h1 : j ≤ 1000000) (h2 : i.natAbs < 2 ^ 64) : CPow i j := ⟨h0, h1, h2⟩
theorem e_nwf {k : Kd} (h : Q (.node k xs) κ) : fNew false k xs κ Q := h
theorem e_nwt {k : Kd} (h : ∀ n, κ n = none → Q (.cell n) (kset κ n (.live k xs))) : fNew true k xs κ Q := h
theorem e_and (h : a δ κ X fun x κ1 => withTruth x κ1 fun t => if t = true then b δ κ1 X Q else Q x κ1) : dAnd a b δ κ X Q := h
theorem e_or (h : a δ κ X fun x κ1 => withTruth x κ1 fun t => if t = true then Q x κ1 else b δ κ1 X Q) : dOr a b δ κ X Q := h
theorem e_not (h : a δ κ X fun x κ1 => withTruth x κ1 fun t => Q (.bl (!t)) κ1) : dNot a δ κ X Q := h
theorem e_if (h : t δ κ X fun k κ1 => if k = true then a δ κ1 X Q else b δ κ1 X Q) : dIf t a b δ κ X Q := h
theorem e_chain (h : a δ κ X fun x κ1 => b δ κ1 X fun y κ2 => f x y κ2 fun z κ3 => ∃ k, z = .bl k ∧ if k = true then c δ κ3 X (fun w κ4 => g y w κ4 Q) else Q (.bl false) κ3) : dChain f g a b c δ κ X Q := h
theorem e_sl {lo hi : DO} (h : a δ κ X fun x κ1 => lo δ κ1 X fun i κ2 => hi δ κ2 X fun j κ3 => fSl m x i j κ3 Q) : dSl m a lo hi δ κ X Q := h
theorem e_no {QO : Option Int → Kap → Prop} (h : QO none κ) : dNo δ κ X QO := h
theorem e_part {QO : Option Int → Kap → Prop} (h : a δ κ X fun x κ1 => ∃ i, x = .int i ∧ QO (some i) κ1) : dPart a δ κ X QO := h
theorem e_call {sp : DSp} (h : as δ κ X fun xs κ1 => sp xs κ1 (X δ) Q) : dCall sp [] as δ κ X Q := by
  unfold dCall
  simp only [List.append_nil]
  exact h
theorem e_m1 {f : D → D → Kap → DQ → Prop} (h : a δ κ X fun x κ1 => (∃ y, x = .str y) ∧ b δ κ1 X fun z κ2 => f x z κ2 Q) : dM1 f a b δ κ X Q := h
theorem e_m0 {f : D → Kap → DQ → Prop} (h : a δ κ X fun x κ1 => (∃ y, x = .str y) ∧ f x κ1 Q) : dM0 f a δ κ X Q := h
theorem e_lc {it : DI} {t : TN} {tt : DT} {e : DE} {vs : List Nat} (h : it δ κ X fun items gd κ1 => ∀ n, κ1 n = none →
  lcLoop n t tt e gd vs δ (fun acc κ' => κ' n = some (.live .lst acc) ∧ Q (.node .lst acc) (kset κ' n .dead)) items [] (kset κ1 n (.live .lst []))) : dLc false it t tt e vs δ κ X Q := h
theorem e_lcm {it : DI} {t : TN} {tt : DT} {e : DE} {vs : List Nat} (h : it δ κ X fun items gd κ1 => ∀ n, κ1 n = none →
  lcLoop n t tt e gd vs δ (fun acc κ' => κ' n = some (.live .lst acc) ∧ Q (.cell n) κ') items [] (kset κ1 n (.live .lst []))) : dLc true it t tt e vs δ κ X Q := h
theorem t_yes (h : QB true κ) : tYesD δ κ X QB := h
theorem t_tru (h : a δ κ X fun x κ1 => withTruth x κ1 fun t => QB t κ1) : tTru a δ κ X QB := h
theorem t_bl (h : a δ κ X fun x κ1 => ∃ k, x = .bl k ∧ QB k κ1) : tBl a δ κ X QB := h
theorem t_and (h : t δ κ X fun k κ1 => if k = true then u δ κ1 X QB else QB false κ1) : tAndD t u δ κ X QB := h
theorem t_or (h : t δ κ X fun k κ1 => if k = true then QB true κ1 else u δ κ1 X QB) : tOrD t u δ κ X QB := h
theorem t_not (h : t δ κ X fun k κ1 => QB (!k) κ1) : tNotD t δ κ X QB := h
theorem w_bl {P : Bool → Prop} (h : P k) : withTruth (.bl k) κ P := h
theorem w_non {P : Bool → Prop} (h : P false) : withTruth .non κ P := h
theorem w_int {P : Bool → Prop} (h : P (i != 0)) : withTruth (.int i) κ P := h
theorem x_bl {P : Bool → Prop} (h : P k) : ∃ q, D.bl k = D.bl q ∧ P q := ⟨k, rfl, h⟩
theorem x_int {P : Int → Prop} (h : P i) : ∃ q, D.int i = D.int q ∧ P q := ⟨i, rfl, h⟩
theorem x_str (h : A) : (∃ q, D.str z = D.str q) ∧ A := ⟨⟨z, rfl⟩, h⟩
theorem i_T (h : A) : if true = true then A else B := by rw [if_pos rfl]; exact h
theorem i_F (h : B) : if false = true then A else B := by rw [if_neg (by decide)]; exact h
theorem i_not (h : if k = true then B else A) : if (!k) = true then A else B := by cases k <;> exact h
theorem i_dT {p : Prop} [Decidable p] (hp : p) (h : A) : if decide p = true then A else B := by rw [if_pos (decide_eq_true hp)]; exact h
theorem i_dF {p : Prop} [Decidable p] (hp : ¬p) (h : B) : if decide p = true then A else B := by rw [if_neg (by rw [decide_eq_false hp]; decide)]; exact h
theorem i_d {p : Prop} [Decidable p] (h : p → A) (h' : ¬p → B) : if decide p = true then A else B := by
  by_cases hp : p
  · exact i_dT hp (h hp)
  · exact i_dF hp (h' hp)
theorem g_nil (h : QG δ κ) : gNilD [] δ κ X QG := ⟨rfl, h⟩
theorem g_cons {g : DG} {r : DGs} (h : g d δ κ X fun δ1 κ1 => r xs δ1 κ1 X QG) : gConsD g r (d :: xs) δ κ X QG := h
theorem g_tup {N : Nat} {g : DGs} (hl : xs.length = N) (h : g xs δ κ X QG) : gTupD N g (.node .tup xs) δ κ X QG := ⟨xs, rfl, hl, h⟩
theorem g_sub {f : D → D → D → Kap → (Kap → Prop) → Prop} (h : a δ κ X fun x κ1 => b δ κ1 X fun y κ2 => f x y d κ2 fun κ3 => QG δ κ3) : gSubD a b f d δ κ X QG := h
theorem dl_ix {g : DG} {gd : Kap → Prop} {items : List D} (I : Nat → DEnv → Kap → Prop) (h0 : ∀ δ κ, I items.length δ κ → gd κ ∧ n δ κ)
    (hs : ∀ i d δ κ (L : DEnv → Kap → Prop), items[i]? = some d → (∀ δ κ, I (i + 1) δ κ → L δ κ) → I i δ κ → gd κ ∧ g d δ κ X fun δ1 κ1 => s δ1 κ1 X ⟨L, rt, n, L⟩) (h : I 0 δ κ) : dLoop g s gd X ⟨n, rt, bk, ct⟩ items δ κ := dLoop_ix I h0 hs h
theorem p_nil {QP : List (D × D) → Kap → Prop} (h : QP [] κ) : dPairs [] δ κ X QP := h
theorem p_cons {l : List (DE × DE)} {QP : List (D × D) → Kap → Prop} (h : a δ κ X fun x κ1 => b δ κ1 X fun y κ2 => dPairs l δ κ2 X fun ps κ3 => QP ((x, y) :: ps) κ3) : dPairs ((a, b) :: l) δ κ X QP := h
theorem r_1 {QI : List D → (Kap → Prop) → Kap → Prop} (h : as δ κ X (rQ QI)) : iRange1 as δ κ X QI := h
theorem r_q {QI : List D → (Kap → Prop) → Kap → Prop} (h1 : -(2 ^ 62) ≤ j) (h2 : j < 2 ^ 62) (h : QI (rangeD 0 j.toNat) gTrue κ) : rQ QI [.int j] κ := ⟨h1, h2, h⟩
theorem q_seq {QI : List D → (Kap → Prop) → Kap → Prop} (h : a δ κ X (sQ QI)) : iSeq a δ κ X QI := h
theorem q_S {QI : List D → (Kap → Prop) → Kap → Prop} (h : QI (charsD z) gTrue κ) : sQ QI (.str z) κ := h
theorem q_L {QI : List D → (Kap → Prop) → Kap → Prop} (h : QI xs gTrue κ) : sQ QI (.node .lst xs) κ := h
theorem q_K {QI : List D → (Kap → Prop) → Kap → Prop} (h : QI xs gTrue κ) : sQ QI (.node .klst xs) κ := h
theorem q_T {QI : List D → (Kap → Prop) → Kap → Prop} (h : QI xs gTrue κ) : sQ QI (.node .tup xs) κ := h
/-! operators -/
theorem f_adI (h : Q (.int (i + j)) κ) : fAdd m (.int i) (.int j) κ Q := h
theorem f_adS (h1 : z.length + v.length ≤ sizeLine) (h : Q (.str (z ++ v)) κ) : fAdd m (.str z) (.str v) κ Q := ⟨h1, h⟩
theorem f_adL (h1 : xs.length + ys.length ≤ sizeLine) (h : Q (.node .lst (xs ++ ys)) κ) : fAdd false (.node .lst xs) (.node .lst ys) κ Q := ⟨h1, h⟩
theorem f_sub (h : Q (.int (i - j)) κ) : fSub (.int i) (.int j) κ Q := ⟨trivial, h⟩
theorem f_mod (h1 : j ≠ 0) (h : Q (.int (i.fmod j)) κ) : fMod (.int i) (.int j) κ Q := ⟨h1, h⟩
theorem f_div (h1 : CDivD i j) (h : Q (.int (i.fdiv j)) κ) : fDiv (.int i) (.int j) κ Q := ⟨h1, h⟩
theorem f_mul (h1 : CMulW i j) (h : Q (.int (i * j)) κ) : fMulI (.int i) (.int j) κ Q := ⟨h1, h⟩
theorem f_pow (h1 : CPow i j) (h : Q (.int (i ^ j.toNat)) κ) : fPow (.int i) (.int j) κ Q := ⟨h1, h⟩
theorem f_neg (h : Q (.int (-i)) κ) : fNeg (.int i) κ Q := h
theorem f_ltI (h : Q (.bl (decide (i < j))) κ) : fLtS (.int i) (.int j) κ Q := h
theorem f_leI (h : Q (.bl (decide (i ≤ j))) κ) : fLeS (.int i) (.int j) κ Q := h
theorem f_gtI (h : Q (.bl (decide (j < i))) κ) : fGtS (.int i) (.int j) κ Q := h
theorem f_geI (h : Q (.bl (decide (j ≤ i))) κ) : fGeS (.int i) (.int j) κ Q := h
theorem f_leS (h : Q (.bl (!decide (v.cps.toList < z.cps.toList))) κ) : fLeS (.str z) (.str v) κ Q := h
theorem f_ltS (h : Q (.bl (decide (z.cps.toList < v.cps.toList))) κ) : fLtS (.str z) (.str v) κ Q := h
theorem f_eqI (h : Q (.bl (decide (i = j))) κ) : fEq (.int i) (.int j) κ Q := by rw [eq_int]; exact h
theorem f_neI (h : Q (.bl (!decide (i = j))) κ) : fNe (.int i) (.int j) κ Q := by rw [ne_int']; exact h
theorem f_inS (h : Q (.bl (strIn z v)) κ) : fIn false (.str z) (.str v) κ Q := h
theorem f_abs (h : Q (.int (if i < 0 then -i else i)) κ) : fAbs [.int i] κ Q := h
theorem f_max (h : Q (.int (if j > i then j else i)) κ) : fMax2 [.int i, .int j] κ Q := h
theorem f_min (h : Q (.int (if j < i then j else i)) κ) : fMin2 [.int i, .int j] κ Q := h
theorem f_lnS (h1 : z.length ≤ sizeLine) (h : Q (.int (z.length : Nat)) κ) : fLen [.str z] κ Q := ⟨h1, h⟩
theorem f_lnL (h : Q (.int (xs.length : Nat)) κ) : fLen [.node .lst xs] κ Q := h
theorem f_lnK (h : Q (.int (xs.length : Nat)) κ) : fLen [.node .klst xs] κ Q := h
theorem f_lnT (h : Q (.int (xs.length : Nat)) κ) : fLen [.node .tup xs] κ Q := h
theorem f_stI (h1 : i.natAbs.log2 < 1920) (h : Q (.str (toString i)) κ) : fStr [.int i] κ Q := ⟨h1, h⟩
theorem f_slS {p q : Option Int} (h1 : z.length ≤ sizeLine) (h : Q (.str (cutS z p q)) κ) : fSl m (.str z) p q κ Q := ⟨h1, h⟩
theorem f_ix0 (h : Q d κ) : fIx (.node .lst (d :: xs)) (.int 0) κ Q := by rw [ix_lst, at_0]; exact h
theorem f_ix1 (h : Q d κ) : fIx (.node .lst (x :: d :: xs)) (.int 1) κ Q := by rw [ix_lst, at_1]; exact h
theorem f_ix2 (h : Q d κ) : fIx (.node .lst (x :: y :: d :: xs)) (.int 2) κ Q := by rw [ix_lst, at_2]; exact h
theorem f_ic0 {N : Nat} (e : κ N = some (.live .lst (d :: xs))) (h : Q d κ) : fIx (.cell N) (.int 0) κ Q := by rw [ix_cell e, at_0]; exact h
theorem f_ic1 {N : Nat} (e : κ N = some (.live .lst (x :: d :: xs))) (h : Q d κ) : fIx (.cell N) (.int 1) κ Q := by rw [ix_cell e, at_1]; exact h
theorem f_ic2 {N : Nat} (e : κ N = some (.live .lst (x :: y :: d :: xs))) (h : Q d κ) : fIx (.cell N) (.int 2) κ Q := by rw [ix_cell e, at_2]; exact h
theorem f_ik0 {N : Nat} (h : Q d (kset κ N (.live .lst (d :: xs)))) : fIx (.cell N) (.int 0) (kset κ N (.live .lst (d :: xs))) Q := f_ic0 kset_same h
theorem f_ik1 {N : Nat} (h : Q d (kset κ N (.live .lst (x :: d :: xs)))) : fIx (.cell N) (.int 1) (kset κ N (.live .lst (x :: d :: xs))) Q := f_ic1 kset_same h
theorem f_ik2 {N : Nat} (h : Q d (kset κ N (.live .lst (x :: y :: d :: xs)))) : fIx (.cell N) (.int 2) (kset κ N (.live .lst (x :: y :: d :: xs))) Q := f_ic2 kset_same h
theorem f_se0 {N : Nat} {P : Kap → Prop} (e : κ N = some (.live .lst (x :: xs))) (h : P (kset κ N (.live .lst (d :: xs)))) : fSet (.cell N) (.int 0) d κ P := by rw [se_0 e]; exact h
theorem f_se2 {N : Nat} {v w : D} {P : Kap → Prop} (e : κ N = some (.live .lst (v :: w :: x :: xs))) (h : P (kset κ N (.live .lst (v :: w :: d :: xs)))) : fSet (.cell N) (.int 2) d κ P := by rw [se_2 e]; exact h
theorem f_it0 (h : Q d κ) : fIx (.node .tup (d :: xs)) (.int 0) κ Q := by rw [ix_tup, at_0]; exact h
theorem f_it1 (h : Q d κ) : fIx (.node .tup (x :: d :: xs)) (.int 1) κ Q := by rw [ix_tup, at_1]; exact h
theorem f_it2 (h : Q d κ) : fIx (.node .tup (x :: y :: d :: xs)) (.int 2) κ Q := by rw [ix_tup, at_2]; exact h
theorem g_n0 {e0 : Option D} {l : DEnv} (h : QG (some d :: l) κ) : gN 0 d (e0 :: l) κ X QG := h
theorem g_n1 {e0 e1 : Option D} {l : DEnv} (h : QG (e0 :: some d :: l) κ) : gN 1 d (e0 :: e1 :: l) κ X QG := h
theorem g_n2 {e0 e1 e2 : Option D} {l : DEnv} (h : QG (e0 :: e1 :: some d :: l) κ) : gN 2 d (e0 :: e1 :: e2 :: l) κ X QG := h
theorem g_n3 {e0 e1 e2 e3 : Option D} {l : DEnv} (h : QG (e0 :: e1 :: e2 :: some d :: l) κ) : gN 3 d (e0 :: e1 :: e2 :: e3 :: l) κ X QG := h
theorem g_n4 {e0 e1 e2 e3 e4 : Option D} {l : DEnv} (h : QG (e0 :: e1 :: e2 :: e3 :: some d :: l) κ) : gN 4 d (e0 :: e1 :: e2 :: e3 :: e4 :: l) κ X QG := h
theorem g_n5 {e0 e1 e2 e3 e4 e5 : Option D} {l : DEnv} (h : QG (e0 :: e1 :: e2 :: e3 :: e4 :: some d :: l) κ) : gN 5 d (e0 :: e1 :: e2 :: e3 :: e4 :: e5 :: l) κ X QG := h
theorem g_n6 {e0 e1 e2 e3 e4 e5 e6 : Option D} {l : DEnv} (h : QG (e0 :: e1 :: e2 :: e3 :: e4 :: e5 :: some d :: l) κ) : gN 6 d (e0 :: e1 :: e2 :: e3 :: e4 :: e5 :: e6 :: l) κ X QG := h
theorem g_n7 {e0 e1 e2 e3 e4 e5 e6 e7 : Option D} {l : DEnv} (h : QG (e0 :: e1 :: e2 :: e3 :: e4 :: e5 :: e6 :: some d :: l) κ) : gN 7 d (e0 :: e1 :: e2 :: e3 :: e4 :: e5 :: e6 :: e7 :: l) κ X QG := h
theorem g_n8 {e0 e1 e2 e3 e4 e5 e6 e7 e8 : Option D} {l : DEnv} (h : QG (e0 :: e1 :: e2 :: e3 :: e4 :: e5 :: e6 :: e7 :: some d :: l) κ) : gN 8 d (e0 :: e1 :: e2 :: e3 :: e4 :: e5 :: e6 :: e7 :: e8 :: l) κ X QG := h
theorem g_n9 {e0 e1 e2 e3 e4 e5 e6 e7 e8 e9 : Option D} {l : DEnv} (h : QG (e0 :: e1 :: e2 :: e3 :: e4 :: e5 :: e6 :: e7 :: e8 :: some d :: l) κ) : gN 9 d (e0 :: e1 :: e2 :: e3 :: e4 :: e5 :: e6 :: e7 :: e8 :: e9 :: l) κ X QG := h
theorem g_n10 {e0 e1 e2 e3 e4 e5 e6 e7 e8 e9 e10 : Option D} {l : DEnv} (h : QG (e0 :: e1 :: e2 :: e3 :: e4 :: e5 :: e6 :: e7 :: e8 :: e9 :: some d :: l) κ) : gN 10 d (e0 :: e1 :: e2 :: e3 :: e4 :: e5 :: e6 :: e7 :: e8 :: e9 :: e10 :: l) κ X QG := h
theorem g_n11 {e0 e1 e2 e3 e4 e5 e6 e7 e8 e9 e10 e11 : Option D} {l : DEnv} (h : QG (e0 :: e1 :: e2 :: e3 :: e4 :: e5 :: e6 :: e7 :: e8 :: e9 :: e10 :: some d :: l) κ) : gN 11 d (e0 :: e1 :: e2 :: e3 :: e4 :: e5 :: e6 :: e7 :: e8 :: e9 :: e10 :: e11 :: l) κ X QG := h
end
end DL
/-! DT: texts of a bounded length, of code points. -/
namespace DL
open PySem PySem.Spec PyProof.Rows L2
def Tx (n : Nat) (x : Str) : Prop := x.length ≤ n ∧ ∀ c ∈ x.cps.toList, c < 0x110000
theorem Tx.mono {n m : Nat} {x : Str} (h : Tx n x) (hm : n ≤ m) : Tx m x := ⟨Nat.le_trans h.1 hm, h.2⟩
theorem Tx.app {n m : Nat} {x y : Str} (h : Tx n x) (h' : Tx m y) : Tx (n + m) (x ++ y) := ⟨by
    rw [len_app]
    exact Nat.add_le_add h.1 h'.1, fun c hc => by
    have e : (x ++ y).cps.toList = x.cps.toList ++ y.cps.toList := Array.toList_append
    rw [e] at hc
    rcases List.mem_append.mp hc with hc | hc
    · exact h.2 c hc
    · exact h'.2 c hc⟩
theorem Tx.cut {n : Nat} {x : Str} (h : Tx n x) (p q : Option Int) : Tx n (cutS x p q) := ⟨Nat.le_trans (len_cut x p q) h.1, fun c hc => by
    have e : (cutS x p q).cps.toList = (x.cps.toList.drop (HT.sIx x.length 0 p)).take (HT.sIx x.length x.length q - HT.sIx x.length 0 p) := rfl
    rw [e] at hc
    exact h.2 c (List.drop_subset _ _ (List.take_subset _ _ hc))⟩
theorem Tx.one {c : Nat} (h : c < 0x110000) : Tx 1 ⟨#[c]⟩ := ⟨Nat.le_refl _, fun d hd => by
    have : d ∈ [c] := hd
    rw [List.mem_singleton.mp this]
    exact h⟩
theorem Tx.of {n : Nat} (s : String) (h : (Str.ofString s).length ≤ n) : Tx n (Str.ofString s) := ⟨h, fun c hc => by
    rw [PySem.Str.ofString_eq_toList] at hc
    have hc' : c ∈ s.toList.map Char.toNat := hc
    obtain ⟨ch, _, rfl⟩ := List.mem_map.mp hc'
    rcases ch.valid with h | ⟨_, h⟩
    · exact Nat.lt_trans h (by decide)
    · exact h⟩
theorem Tx.num {i : Int} (h : i.natAbs.log2 < 1920) : Tx 1921 (toString i : String) := Tx.of _ (PyProof.Rows.int_text_len_1921 h)
theorem Tx.emp : Tx 0 (Str.ofString "") := Tx.of _ (by rw [len_emp]; exact Nat.le_refl _)
theorem Tx.join {n : Nat} : ∀ {ys : List Str}, (∀ y ∈ ys, Tx n y) → Tx (ys.length * n) (Str.join "" ys)
  | [], _ => Tx.emp.mono (Nat.zero_le _)
  | [x], h => by
    have := h x List.mem_cons_self
    exact this.mono (by simp)
  | x :: y :: r, h => by
    have h1 := h x List.mem_cons_self
    have h2 := Tx.join (ys := y :: r) fun z hz => h z (List.mem_cons_of_mem _ hz)
    have := (h1.app Tx.emp).app h2
    exact this.mono (by simp only [List.length_cons, Nat.add_mul, Nat.one_mul]; omega)
theorem Tx.joinT {n : Nat} {ys : List Str} (h : ∀ y ∈ ys, Tx n y) : Tx (ys.length * n) (Txt.join (Str.ofString "") ys) := by
  rw [TL.join_eq]
  exact Tx.join h
theorem Tx.sum {n : Nat} : ∀ {ys : List Str}, (∀ y ∈ ys, Tx n y) → (ys.map (·.length)).sum ≤ ys.length * n
  | [], _ => Nat.zero_le _
  | y :: ys, h => by
    have h1 := (h y List.mem_cons_self).1
    have h2 := Tx.sum (ys := ys) fun z hz => h z (List.mem_cons_of_mem _ hz)
    rw [List.map_cons, List.sum_cons, List.length_cons, Nat.add_mul, Nat.one_mul]
    omega
theorem Tx.shaped {n : Nat} {x : Str} (h : Tx n x) : SeqAt.shaped (.str x) = true := by
  have : PyData.strOk x = true := by
    unfold PyData.strOk
    rw [Array.all_eq_true']
    intro c hc
    exact decide_eq_true (h.2 c (Array.mem_toList_iff.mpr hc))
  show ((PyData.strOk x) && decide _) = true
  rw [this]
  rfl
/-- a sign of a text -/
theorem Tx.at {n : Nat} {x : Str} {i : Int} (h : Tx n x) (h0 : 0 ≤ i) (h1 : i < x.length) : ∃ c, atI x.cps.toList i = some c ∧ Tx 1 ⟨#[c]⟩ := by
  obtain ⟨c, e, hc⟩ := at_of (xs := x.cps.toList) h0 (by rw [Array.length_toList]; exact h1)
  exact ⟨c, e, .one (h.2 c hc)⟩
theorem f_ixS {n : Nat} {x : Str} {i : Int} {κ : Kap} {Q : DQ} (h : Tx n x) (hn : n ≤ 16777216) (h0 : 0 ≤ i) (h1 : i < x.length) (q : ∀ c, Tx 1 ⟨#[c]⟩ → Q (.str ⟨#[c]⟩) κ) : fIx (.str x) (.int i) κ Q := by
  obtain ⟨c, e, hc⟩ := h.at h0 h1
  exact ⟨Nat.le_trans h.1 hn, c, e, q c hc⟩
theorem f_adT {n m : Nat} {z v : Str} {k : Bool} {κ : Kap} {Q : DQ} (h : Tx n z) (h' : Tx m v) (hs : n + m ≤ 16777216) (q : Tx (n + m) (z ++ v) → Q (.str (z ++ v)) κ) : fAdd k (.str z) (.str v) κ Q :=
  ⟨by have h1 := h.1; have h2 := h'.1; unfold sizeLine; omega, q (h.app h')⟩
theorem f_slT {n : Nat} {z : Str} {k : Bool} {u v : Option Int} {κ : Kap} {Q : DQ} (h : Tx n z) (hs : n ≤ 16777216) (q : Tx n (cutS z u v) → Q (.str (cutS z u v)) κ) : fSl k (.str z) u v κ Q :=
  ⟨Nat.le_trans h.1 hs, q (h.cut u v)⟩
theorem f_lnTx {n : Nat} {z : Str} {κ : Kap} {Q : DQ} (h : Tx n z) (hs : n ≤ 16777216) (q : z.length ≤ n → Q (.int (z.length : Nat)) κ) : fLen [.str z] κ Q := ⟨Nat.le_trans h.1 hs, q h.1⟩
theorem f_join {n : Nat} {ys : List Str} {κ : Kap} {Q : DQ} (h : ∀ y ∈ ys, Tx n y) (hn : ys.length * n ≤ 16777216) (q : ∀ x, Tx (ys.length * n) x → Q (.str x) κ) : fJoin (.str (Str.ofString "")) (.node .lst (ys.map D.str)) κ Q :=
  ⟨ys, .inl rfl, by rw [len_emp]; have := Tx.sum h; omega, q _ (Tx.joinT h)⟩
end DL
/-! DN: numbers as tops and bases. -/
namespace DL
open PySem PySem.Spec PyProof.Rows L2
/-! texts of data -/
theorem Tx.list {n : Nat} {ts : List Str} (h : ∀ t ∈ ts, Tx n t) : Tx (ts.length * (n + 2) + 2) (listText ts) := by
  have t1 : Tx 1 (Str.ofString "[") := .of _ (by decide +kernel)
  have t2 : Tx 1 (Str.ofString "]") := .of _ (by decide +kernel)
  have t3 : Tx 2 (Str.ofString ", ") := .of _ (by decide +kernel)
  have go : ∀ (ts : List Str) (k : Nat) (acc : Str) (m : Nat), (∀ t ∈ ts, Tx n t) → Tx m acc → Tx (m + ts.length * (n + 2)) (textFrom k acc ts) := by
    intro ts
    induction ts with
    | nil => intro k acc m _ ha; exact ha.mono (by simp)
    | cons t r ih =>
      intro k acc m ht ha
      have h1 := ht t List.mem_cons_self
      have h0 : Tx 2 (Str.ofString (if k > 0 then ", " else "")) := by
        split
        · exact t3
        · exact Tx.emp.mono (by decide)
      have := ih (k + 1) _ (m + 2 + n) (fun z hz => ht z (List.mem_cons_of_mem _ hz)) ((ha.app h0).app h1)
      refine this.mono ?_
      rw [List.length_cons, Nat.add_mul]
      omega
  exact ((go ts 0 _ 1 h t1).app t2).mono (by omega)
theorem Tx.joinC {n : Nat} : ∀ {ys : List Str}, (∀ y ∈ ys, Tx n y) → Tx (ys.length * (n + 2)) (Str.join ", " ys)
  | [], _ => Tx.emp.mono (Nat.zero_le _)
  | [x], h => (h x List.mem_cons_self).mono (by simp)
  | x :: y :: r, h => by
    have t3 : Tx 2 (Str.ofString ", ") := .of _ (by decide +kernel)
    have h1 := h x List.mem_cons_self
    have h2 := Tx.joinC (ys := y :: r) fun z hz => h z (List.mem_cons_of_mem _ hz)
    have := (h1.app t3).app h2
    exact this.mono (by simp only [List.length_cons, Nat.add_mul, Nat.one_mul]; omega)
theorem Tx.tuple {n : Nat} {ts : List Str} (h : ∀ t ∈ ts, Tx n t) : Tx (ts.length * (n + 2) + 3) (tupleText ts) := by
  have t1 : Tx 1 (Str.ofString "(") := .of _ (by decide +kernel)
  have t2 : Tx 2 (Str.ofString (if ts.length == 1 then ",)" else ")")) := by
    split
    · exact .of _ (by decide +kernel)
    · exact (Tx.of (n := 1) _ (by decide +kernel)).mono (by decide)
  exact ((t1.app (Tx.joinC h)).app t2).mono (by omega)
theorem shownAll_mem : ∀ {ps : List PyData} {t : Str}, t ∈ PyData.shownAll ps → ∃ p ∈ ps, t = p.shown
  | [], _, h => absurd h List.not_mem_nil
  | p :: ps, t, h => by
    rcases List.mem_cons.mp (show t ∈ p.shown :: PyData.shownAll ps from h) with h | h
    · exact ⟨p, List.mem_cons_self, h⟩
    · obtain ⟨q, hq, e⟩ := shownAll_mem h
      exact ⟨q, List.mem_cons_of_mem _ hq, e⟩
theorem shownAll_len : ∀ {ps : List PyData}, (PyData.shownAll ps).length = ps.length
  | [] => rfl
  | p :: ps => by
    show (p.shown :: PyData.shownAll ps).length = _
    rw [List.length_cons, List.length_cons, shownAll_len]
/-- data whose text is of a bounded length -/
def Sh (n : Nat) (p : PyData) : Prop := p.showable = true ∧ Tx n p.shown
theorem Sh.mono {n m : Nat} {p : PyData} (h : Sh n p) (hm : n ≤ m) : Sh m p := ⟨h.1, h.2.mono hm⟩
theorem Sh.int {i : Int} (h : i.natAbs.log2 < 1920) : Sh 1921 (.int i) := ⟨by
  show decide _ = true
  exact decide_eq_true h, Tx.num h⟩
theorem Sh.all {n : Nat} : ∀ {ps : List PyData}, (∀ p ∈ ps, Sh n p) → PyData.showableAll ps = true
  | [], _ => rfl
  | p :: ps, h => by
    show (p.showable && PyData.showableAll ps) = true
    rw [(h p List.mem_cons_self).1, Sh.all fun q hq => h q (List.mem_cons_of_mem _ hq)]
    rfl
theorem Sh.list {n : Nat} {ps : List PyData} (h : ∀ p ∈ ps, Sh n p) : Sh (ps.length * (n + 2) + 2) (.list ps) := ⟨Sh.all h, by
  show Tx _ (listText (PyData.shownAll ps))
  rw [← shownAll_len]
  exact Tx.list fun t ht => by
    obtain ⟨p, hp, rfl⟩ := shownAll_mem ht
    exact (h p hp).2⟩
theorem Sh.tuple {n : Nat} {ps : List PyData} (h : ∀ p ∈ ps, Sh n p) : Sh (ps.length * (n + 2) + 3) (.tuple ps) := ⟨Sh.all h, by
  show Tx _ (tupleText (PyData.shownAll ps))
  rw [← shownAll_len]
  exact Tx.tuple fun t ht => by
    obtain ⟨p, hp, rfl⟩ := shownAll_mem ht
    exact (h p hp).2⟩
/-! shape of data -/
/-- data that compares: how deep at most -/
def Sp (k : Nat) (p : PyData) : Prop := p.canLay0 = true ∧ p.depth ≤ k
theorem Sp.mono {k m : Nat} {p : PyData} (h : Sp k p) (hm : k ≤ m) : Sp m p := ⟨h.1, Nat.le_trans h.2 hm⟩
theorem Sp.int {i : Int} : Sp 0 (.int i) := ⟨rfl, Nat.le_refl _⟩
theorem Sp.bool {b : Bool} : Sp 0 (.bool b) := ⟨rfl, Nat.le_refl _⟩
theorem Sp.none : Sp 0 .none := ⟨rfl, Nat.le_refl _⟩
theorem Sp.str {n : Nat} {x : Str} (h : Tx n x) : Sp 0 (.str x) := ⟨by
  show PyData.strOk x = true
  unfold PyData.strOk
  rw [Array.all_eq_true']
  intro c hc
  exact decide_eq_true (h.2 c (Array.mem_toList_iff.mpr hc)), Nat.le_refl _⟩
theorem Sp.all {k : Nat} : ∀ {ps : List PyData}, (∀ p ∈ ps, Sp k p) → PyData.canLayAll0 ps = true ∧ PyData.depthAll ps ≤ k
  | [], _ => ⟨rfl, Nat.zero_le _⟩
  | p :: ps, h => by
    obtain ⟨a, b⟩ := Sp.all fun q hq => h q (List.mem_cons_of_mem _ hq)
    obtain ⟨c, d⟩ := h p List.mem_cons_self
    refine ⟨?_, ?_⟩
    · show (p.canLay0 && PyData.canLayAll0 ps) = true
      rw [a, c]
      rfl
    · show max p.depth (PyData.depthAll ps) ≤ k
      omega
theorem Sp.list {k : Nat} {ps : List PyData} (h : ∀ p ∈ ps, Sp k p) : Sp (k + 1) (.list ps) := ⟨(Sp.all h).1, by
  show PyData.depthAll ps + 1 ≤ k + 1
  have := (Sp.all h).2
  omega⟩
theorem Sp.tuple {k : Nat} {ps : List PyData} (h : ∀ p ∈ ps, Sp k p) : Sp (k + 1) (.tuple ps) := ⟨(Sp.all h).1, by
  show PyData.depthAll ps + 1 ≤ k + 1
  have := (Sp.all h).2
  omega⟩
theorem Sp.shaped {k : Nat} {p : PyData} (h : Sp k p) (hk : k ≤ 64) : SeqAt.shaped p = true := by
  show (p.canLay0 && decide (p.depth ≤ 64)) = true
  rw [h.1, decide_eq_true (Nat.le_trans h.2 hk)]
  rfl
theorem pdataL_map {α : Type} {f : α → D} {g : α → PyData} (h : ∀ a, pdata (f a) = some (g a)) : ∀ l : List α, pdataL (l.map f) = some (l.map g)
  | [] => rfl
  | a :: l => by
    show (match pdata (f a), pdataL (l.map f) with
      | some p, some ps => some (p :: ps)
      | _, _ => none) = _
    rw [h a, pdataL_map h l]
    rfl
theorem pdata_list {xs : List D} {ps : List PyData} (h : pdataL xs = some ps) : pdata (.node .lst xs) = some (.list ps) := by
  show (match pdataL xs with
    | some ps => some (PyData.list ps)
    | none => none) = _
  rw [h]
theorem eqvAll_refl {ps : List PyData} (h : ∀ p ∈ ps, PyData.eqv p p = true) : PyData.eqvAll ps ps = true := by
  induction ps with
  | nil => rfl
  | cons p ps ih =>
    show (PyData.eqv p p && PyData.eqvAll ps ps) = true
    rw [h p List.mem_cons_self, ih fun q hq => h q (List.mem_cons_of_mem _ hq)]
    rfl
/-! the greatest common part -/
/-- the part by which a number is shortened -/
def cpt (u l : Int) : Int := if l < 0 then 0 - (Int.gcd u l : Int) else (Int.gcd u l : Int)
theorem cpt_ne {u l : Int} (h : l ≠ 0) : cpt u l ≠ 0 := by
  have := Int.gcd_pos_of_ne_zero_right u h
  unfold cpt
  split <;> omega
def rtn (u l : Int) : Int := u.fdiv (cpt u l)
def rtd (u l : Int) : Int := l.fdiv (cpt u l)
theorem cpt_dvd_l (u l : Int) : cpt u l ∣ u := by
  unfold cpt
  split
  · rw [Int.zero_sub]
    exact Int.neg_dvd.mpr (Int.gcd_dvd_left ..)
  · exact Int.gcd_dvd_left ..
theorem cpt_dvd_r (u l : Int) : cpt u l ∣ l := by
  unfold cpt
  split
  · rw [Int.zero_sub]
    exact Int.neg_dvd.mpr (Int.gcd_dvd_right ..)
  · exact Int.gcd_dvd_right ..
theorem rtn_mul (u l : Int) : rtn u l * cpt u l = u := Int.fdiv_mul_cancel (cpt_dvd_l u l)
theorem rtd_mul (u l : Int) : rtd u l * cpt u l = l := Int.fdiv_mul_cancel (cpt_dvd_r u l)
/-- in lowest terms, the base above nought -/
def NOk (a b : Int) : Prop := 0 < b ∧ Int.gcd a b = 1
theorem NOk.one (a : Int) : NOk a 1 := ⟨by decide, by rw [Int.gcd_one_right]⟩
theorem rt_ok {u l : Int} (h : l ≠ 0) : NOk (rtn u l) (rtd u l) := by
  have hp := cpt_ne (u := u) h
  have e1 := rtn_mul u l
  have e2 := rtd_mul u l
  have hg := Int.gcd_pos_of_ne_zero_right u h
  have ha : (cpt u l).natAbs = Int.gcd u l := by unfold cpt; split <;> omega
  refine ⟨?_, ?_⟩
  · by_cases hl : l < 0
    · have hc : cpt u l < 0 := by unfold cpt; rw [if_pos hl]; omega
      rcases Int.lt_trichotomy 0 (rtd u l) with h1 | h1 | h1
      · exact h1
      · rw [← h1, Int.zero_mul] at e2; omega
      · have := Int.mul_pos_of_neg_of_neg h1 hc; omega
    · have hc : 0 < cpt u l := by unfold cpt; rw [if_neg hl]; omega
      rcases Int.lt_trichotomy 0 (rtd u l) with h1 | h1 | h1
      · exact h1
      · rw [← h1, Int.zero_mul] at e2; omega
      · have := Int.mul_neg_of_neg_of_pos h1 hc; omega
  · have e : Int.gcd (rtn u l * cpt u l) (rtd u l * cpt u l) = Int.gcd (rtn u l) (rtd u l) * (cpt u l).natAbs := Int.gcd_mul_right ..
    rw [e1, e2, ha] at e
    have : 1 * Int.gcd u l = Int.gcd (rtn u l) (rtd u l) * Int.gcd u l := by rw [Nat.one_mul]; exact e
    exact (Nat.eq_of_mul_eq_mul_right hg this).symm
theorem nat_uniq {a b c d : Nat} (hb : Nat.Coprime a b) (hd : Nat.Coprime c d) (h : a * d = c * b) : b = d := by
  have h1 : b ∣ d := by
    have : b ∣ a * d := ⟨c, by rw [h, Nat.mul_comm]⟩
    exact (Nat.Coprime.symm hb).dvd_of_dvd_mul_left this
  have h2 : d ∣ b := by
    have : d ∣ c * b := ⟨a, by rw [← h, Nat.mul_comm]⟩
    exact (Nat.Coprime.symm hd).dvd_of_dvd_mul_left this
  exact Nat.dvd_antisymm h1 h2
theorem NOk.uniq {a b c d : Int} (h : NOk a b) (h' : NOk c d) (e : a * d = c * b) : a = c ∧ b = d := by
  have hb : b = d := by
    have h1 : a.natAbs * d.natAbs = c.natAbs * b.natAbs := by rw [← Int.natAbs_mul, ← Int.natAbs_mul, e]
    have := nat_uniq (show Nat.Coprime a.natAbs b.natAbs from h.2) (show Nat.Coprime c.natAbs d.natAbs from h'.2) h1
    have h2 := h.1
    have h3 := h'.1
    omega
  subst hb
  exact ⟨Int.eq_of_mul_eq_mul_right (Int.ne_of_gt h.1) e, rfl⟩
theorem rt_cross {u l : Int} : rtn u l * l = u * rtd u l := by
  have e1 := rtn_mul u l
  have e2 := rtd_mul u l
  calc rtn u l * l = rtn u l * (rtd u l * cpt u l) := by rw [e2]
    _ = rtn u l * cpt u l * rtd u l := by rw [Int.mul_comm (rtd u l), Int.mul_assoc]
    _ = u * rtd u l := by rw [e1]
/-- what is shortened to the same -/
theorem rt_is {u l a b : Int} (hl : l ≠ 0) (h : NOk a b) (e : a * l = u * b) : rtn u l = a ∧ rtd u l = b := by
  refine (rt_ok hl).uniq h ?_
  have h1 := rt_cross (u := u) (l := l)
  have h3 : (rtn u l * b) * l = (a * rtd u l) * l := by
    calc (rtn u l * b) * l = (rtn u l * l) * b := by rw [Int.mul_assoc, Int.mul_comm b l, ← Int.mul_assoc]
      _ = u * rtd u l * b := by rw [h1]
      _ = u * b * rtd u l := by rw [Int.mul_assoc, Int.mul_comm (rtd u l) b, ← Int.mul_assoc]
      _ = a * l * rtd u l := by rw [e]
      _ = (a * rtd u l) * l := by rw [Int.mul_assoc, Int.mul_comm l (rtd u l), ← Int.mul_assoc]
  exact Int.eq_of_mul_eq_mul_right hl h3
theorem abs_le_of_mul {a p u : Int} (e : a * p = u) (hp : p ≠ 0) : a.natAbs ≤ u.natAbs := by
  rw [← e, Int.natAbs_mul]
  exact Nat.le_mul_of_pos_right _ (by omega)
theorem rtn_le {u l : Int} (h : l ≠ 0) : (rtn u l).natAbs ≤ u.natAbs := abs_le_of_mul (rtn_mul u l) (cpt_ne h)
theorem rtd_le {u l : Int} (h : l ≠ 0) : (rtd u l).natAbs ≤ l.natAbs := abs_le_of_mul (rtd_mul u l) (cpt_ne h)
/-- a number, as it stands in the program -/
def nb (a b : Int) : D := if b = 1 then .int a else .node .tup [.int a, .int b]
theorem eqv_int (a b : Int) : PyData.eqv (.int a) (.int b) = decide (a = b) := by
  show (a == b) = _
  by_cases h : a = b <;> simp [h]
/-! calls by keywords -/
section
variable {δ : DEnv} {κ : Kap} {X : DX} {Q : DQ} {as kw : DA} {sp : DSp} {n m : Nat} {is : List Nat} {dds : List D}
theorem e_callC (h : as δ κ X fun xs κ1 => kw δ κ1 X fun ys κ2 => cC sp n m is dds xs ys κ2 (X δ) Q) : dCallC sp n m is dds as kw δ κ X Q := h
theorem c_C {xs ys zs : List D} {Y : Str → List D → Kap → Prop} (h1 : xs.length = n) (h2 : ys.length = m) (h3 : pick is (xs ++ (ys ++ dds)) = zs) (h : sp zs κ Y Q) : cC sp n m is dds xs ys κ Y Q := ⟨h1, h2, by rw [h3]; exact h⟩
end
end DL
namespace DL
open PySem PySem.Spec PyProof.Rows L2
/-- a number in lowest terms, of a bounded size -/
structure Nd (k : Nat) (a b : Int) : Prop where
  ok : NOk a b
  tb : a.natAbs < 2 ^ k
  bb : b.natAbs < 2 ^ k
theorem Nd.mono {k m : Nat} {a b : Int} (h : Nd k a b) (hm : k ≤ m) : Nd m a b :=
  ⟨h.ok, Nat.lt_of_lt_of_le h.tb (Nat.pow_le_pow_right (by decide) hm), Nat.lt_of_lt_of_le h.bb (Nat.pow_le_pow_right (by decide) hm)⟩
theorem Nd.rt {k : Nat} {u l : Int} (hl : l ≠ 0) (h1 : u.natAbs < 2 ^ k) (h2 : l.natAbs < 2 ^ k) : Nd k (rtn u l) (rtd u l) :=
  ⟨rt_ok hl, Nat.lt_of_le_of_lt (rtn_le hl) h1, Nat.lt_of_le_of_lt (rtd_le hl) h2⟩
theorem mul_bd {i j : Int} {a b : Nat} (h : i.natAbs < 2 ^ a) (h' : j.natAbs < 2 ^ b) : (i * j).natAbs < 2 ^ (a + b) := by
  rw [Int.natAbs_mul, Nat.pow_add]
  exact Nat.mul_lt_mul'' h h'
theorem sub_bd {i j : Int} {a : Nat} (h : i.natAbs < 2 ^ a) (h' : j.natAbs < 2 ^ a) : (i - j).natAbs < 2 ^ (a + 1) := by
  have := Int.natAbs_sub_le i j
  rw [Nat.pow_succ]
  omega
theorem bd_mono {i : Int} {a b : Nat} (h : i.natAbs < 2 ^ a) (hm : a ≤ b) : i.natAbs < 2 ^ b := Nat.lt_of_lt_of_le h (Nat.pow_le_pow_right (by decide) hm)
def oD (a b c d : Int) : Int := rtd (a * d) (b * c)
end DL
namespace DL
open PySem PySem.Spec PyProof.Rows L2
theorem f_intB {k : Bool} {κ : Kap} {Q : DQ} (h : Q (.int (if k = true then 1 else 0)) κ) : fInt [.bl k] κ Q := h
theorem f_intI {i : Int} {κ : Kap} {Q : DQ} (h : Q (.int i) κ) : fInt [.int i] κ Q := h
end DL
/-! DQ: steps: lists that grow, short loops, odd things. -/
namespace DL
open PySem PySem.Spec PyProof.Rows L2
section
variable {δ : DEnv} {κ : Kap} {X : DX} {Q : DQ} {a : DE} {as : DA} {T : String} {f : D1N} {n : Nat} {xs ds : List D} {d : D} {g : DG} {s : DS} {gd : Kap → Prop} {nx bk ct : DEnv → Kap → Prop} {rt : DQ} {A : Prop}
theorem e_bm (h : a δ κ X fun x κ1 => isSeq T x κ1 ∧ as δ κ1 X fun xs κ2 => f x xs κ2 Q) : dBM T f a as δ κ X Q := h
theorem isq_node (h : A) : isSeq "list" (.node .lst xs) κ ∧ A := ⟨⟨xs, rfl⟩, h⟩
theorem isq_cell (e : κ n = some (.live .lst xs)) (h : A) : isSeq "list" (.cell n) κ ∧ A := ⟨⟨xs, vw_cell e⟩, h⟩
theorem f_app (e : κ n = some (.live .lst xs)) (hl : xs.length < 16777216) (h : Q .non (kset κ n (.live .lst (xs ++ [d])))) : fAppend (.cell n) [d] κ Q := ⟨xs, e, hl, h⟩
theorem f_ixN {i : Nat} (hd : xs[i]? = some d) (h : Q d κ) : fIx (.node .lst xs) (.int (i : Int)) κ Q := ⟨d, at_nat hd, h⟩
theorem f_setD {ks : List Key} {i : D} {k : Key} {P : Kap → Prop} (e : κ n = some (.live (.dct ks) xs)) (hk : keyO i = some k) (hl : ks.length < 16777216) (h : P (kset κ n (.live (.dct (putKs ks k)) (putVs ks xs k d)))) : fSetD (.cell n) i d κ P := ⟨n, ks, xs, k, rfl, e, hk, hl, h⟩
theorem ty_cell {k : Kd} (e : κ n = some (.live k xs)) : tyK (.cell n) κ = kdTy k := by
  show (view (.cell n) κ).bind (fun p => kdTy p.1) = _
  rw [vw_cell e]
  rfl
end
/-! odd things: plain ones, lists and dicts that grow -/
end DL
namespace DL
open PySem PySem.Spec PyProof.Rows L2
section
variable {δ : DEnv} {κ : Kap} {X : DX} {Q : DQ} {a b : DE} {x y : D} {k : Bool}
theorem kk {m n : Nat} {c c' : Cell} (e : κ m = some c) (h : κ n = none) : kset κ n c' m = some c := by
  rw [kset_ne (kne e h)]
  exact e
theorem kp {m n : Nat} {c c' : Cell} (e : κ m = some c) (h : m ≠ n) : kset κ n c' m = some c := by
  rw [kset_ne h]
  exact e
theorem kd {m n : Nat} {c c' : Cell} (e : κ m = some c) (e' : κ n = some c') (h : c ≠ c') : m ≠ n := fun q => h (by rw [q, e'] at e; exact (Option.some.inj e).symm)
end
theorem pd_cl {κ : Kap} {n : Nat} {xs : List D} {ps : List PyData} (e : κ n = some (.live .lst xs)) (h : pdataL xs = some ps) : Pd κ (.cell n) (.list ps) := .lst (vw_cell e) (pdL_of h)
end DL
/-! DR: numbers as rational ones. -/
namespace DL
open PySem PySem.Spec PyProof.Rows L2
def Sz (k : Nat) (q : Rat) : Prop := q.num.natAbs < 2 ^ k ∧ q.den < 2 ^ k
theorem nq_ok (q : Rat) : NOk q.num q.den := ⟨by have := q.den_pos; omega, q.reduced⟩
theorem rt_q {u l : Int} (hl : l ≠ 0) : rtn u l = (Rat.divInt u l).num ∧ rtd u l = ((Rat.divInt u l).den : Int) := by
  refine rt_is hl (nq_ok _) ?_
  have h := Rat.num_divInt_den (Rat.divInt u l)
  have hd : ((Rat.divInt u l).den : Int) ≠ 0 := by have := (Rat.divInt u l).den_pos; omega
  exact (Rat.divInt_eq_divInt_iff hd hl).mp h
theorem Sz.divInt {k : Nat} {u l : Int} (hl : l ≠ 0) (h1 : u.natAbs < 2 ^ k) (h2 : l.natAbs < 2 ^ k) : Sz k (Rat.divInt u l) := by
  have n := Nd.rt hl h1 h2
  rw [(rt_q hl).1, (rt_q hl).2] at n
  exact ⟨n.tb, by have := n.bb; omega⟩
theorem Sz.mono {k m : Nat} {q : Rat} (h : Sz k q) (hm : k ≤ m) : Sz m q := ⟨Nat.lt_of_lt_of_le h.1 (Nat.pow_le_pow_right (by decide) hm), Nat.lt_of_lt_of_le h.2 (Nat.pow_le_pow_right (by decide) hm)⟩
theorem Sz.db {k : Nat} {q : Rat} (h : Sz k q) : (q.den : Int).natAbs < 2 ^ k := by have := h.2; omega
theorem Sz.d0 (q : Rat) : (q.den : Int) ≠ 0 := by have := q.den_pos; omega
theorem Sz.int {k : Nat} {i : Int} (h : i.natAbs < 2 ^ k) (hk : 1 ≤ k) : Sz k (i : Rat) := ⟨h, Nat.one_lt_two_pow (by omega)⟩
theorem q_sub (p q : Rat) : p - q = Rat.divInt (p.num * q.den - q.num * p.den) (p.den * q.den) := by
  conv => lhs; rw [← Rat.num_divInt_den p, ← Rat.num_divInt_den q]
  exact Rat.divInt_sub_divInt _ _ (Sz.d0 p) (Sz.d0 q)
section
variable {k j : Nat} {p q : Rat}
theorem Sz.dd (p q : Rat) : (p.den : Int) * q.den ≠ 0 := Int.mul_ne_zero (Sz.d0 p) (Sz.d0 q)
theorem Sz.sub (h : Sz k p) (h' : Sz j q) : Sz (k + j + 1) (p - q) := by
  rw [q_sub]
  exact .divInt (Sz.dd p q) (sub_bd (mul_bd h.1 h'.db) (by rw [Nat.add_comm]; exact mul_bd h'.1 h.db)) (bd_mono (mul_bd h.db h'.db) (by omega))
end
end DL
namespace DL
open PySem PySem.Spec PyProof.Rows L2
/-! a box of four -/
section
variable {κ : Kap} {Q : DQ} {d x y z w : D} {xs : List D}
theorem f_ic3 {N : Nat} (e : κ N = some (.live .lst (x :: y :: z :: d :: xs))) (h : Q d κ) : fIx (.cell N) (.int 3) κ Q := by rw [ix_cell e, at_3]; exact h
theorem f_ik3 {N : Nat} (h : Q d (kset κ N (.live .lst (x :: y :: z :: d :: xs)))) : fIx (.cell N) (.int 3) (kset κ N (.live .lst (x :: y :: z :: d :: xs))) Q := f_ic3 kset_same h
theorem f_se3 {N : Nat} {P : Kap → Prop} (e : κ N = some (.live .lst (x :: y :: z :: w :: xs))) (h : P (kset κ N (.live .lst (x :: y :: z :: d :: xs)))) : fSet (.cell N) (.int 3) d κ P := by rw [se_3 e]; exact h
end
def By (b m : Nat) (κ : Kap) : Prop := ∃ x y u z : Int, κ b = some (.live .lst [.int x, .int y, .int u, .int z]) ∧ (0 ≤ y ∧ y < 2 ^ 31) ∧ (0 ≤ u ∧ u < 2 ^ 31) ∧ 0 ≤ z ∧ z ≤ (m : Int)
theorem By.mono {b m m' : Nat} {κ : Kap} (h : By b m κ) (hm : m ≤ m') : By b m' κ := let ⟨x, y, u, z, h1, h2, h3, h4, h5⟩ := h; ⟨x, y, u, z, h1, h2, h3, h4, by omega⟩
theorem By.is {b m : Nat} {κ : Kap} (h : By b m κ) : ∃ k xs, κ b = some (.live k xs) := let ⟨_, _, _, _, h1, _⟩ := h; ⟨_, _, h1⟩
theorem By.ne {b m n : Nat} {κ : Kap} (h : By b m κ) (hn : κ n = none) : n ≠ b := fun e => by obtain ⟨_, _, q⟩ := h.is; rw [e] at hn; rw [hn] at q; cases q
theorem By.set {b m n : Nat} {κ : Kap} {c : Cell} (h : By b m κ) (hn : n ≠ b) : By b m (kset κ n c) := let ⟨x, y, u, z, h1, h2⟩ := h; ⟨x, y, u, z, by rw [kset_ne hn.symm]; exact h1, h2⟩
/-! multi-clause steps -/
section
variable {δ : DEnv} {κ : Kap} {X : DX} {Q : DQ} {it : DI} {t : TN} {tt : DT} {vs : List Nat} {rest : DK} {K : Kap → Prop} {a e : DE} {as : DA} {n : Nat} {gd : Kap → Prop} {items : List D} {d : D}
theorem e_lcG {r : Nat → DK} (h : it δ κ X fun items gd κ1 => ∀ n, κ1 n = none → cLoop t tt vs (r n) gd δ (fun κ' => ∃ acc, κ' n = some (.live .lst acc) ∧ Q (.node .lst acc) (kset κ' n .dead)) items (kset κ1 n (.live .lst []))) : dLcG false it t tt r vs δ κ X Q := h
theorem k_for (h : it δ κ XF fun items gd κ1 => cLoop t tt vs rest gd δ K items κ1) : cFor it t tt vs rest δ κ K := h
theorem k_elt (h : e δ κ XF fun y κ3 => ∃ acc, κ3 n = some (.live .lst acc) ∧ acc.length < sizeLine ∧ K (kset κ3 n (.live .lst (acc ++ [y])))) : cElt n e δ κ K := h
theorem i_en {QI : List D → (Kap → Prop) → Kap → Prop} (h : as δ κ X (eQ QI)) : iEnumD as δ κ X QI := h
theorem en_N {QI : List D → (Kap → Prop) → Kap → Prop} {ys : List D} (h : QI (enumD 0 ys) gTrue κ) : eQ QI [.node .lst ys] κ := h
theorem e_tupOf (h : a δ κ X fun x κ1 => fTup x κ1 Q) : dTupOf a δ κ X Q := h
theorem tp_L {ys : List D} (h : Q (.node .tup ys) κ) : fTup (.node .lst ys) κ Q := .inl ⟨ys, rfl, h⟩
theorem tp_T {ys : List D} (h : Q (.node .tup ys) κ) : fTup (.node .tup ys) κ Q := .inr ⟨ys, rfl, h⟩
theorem e_rev {m : Bool} (h : a δ κ X fun x κ1 => fRev m x κ1 Q) : dRev m a δ κ X Q := h
theorem rv_N {ys : List D} (h : Q (.node .lst ys.reverse) κ) : fRev false (.node .lst ys) κ Q := ⟨ys, rfl, h⟩
theorem sl_N {m : Bool} {ys : List D} {lo hi : Option Int} (h : fNew m .lst (cutD ys lo hi) κ Q) : fSl m (.node .lst ys) lo hi κ Q := h
theorem s_aug {i : Nat} {f : D2} {x : D} {nx : DEnv → Kap → Prop} {rt : DQ} {bk ct : DEnv → Kap → Prop} (e0 : δ[i]? = some (some x)) (h : a δ κ X fun y κ1 => f x y κ1 fun z κ2 => nx (δ.set i (some z)) κ2) : sAug i f a δ κ X ⟨nx, rt, bk, ct⟩ := ⟨x, e0, h⟩
theorem f_adII {i j : Int} (h : Q (.int (i + j)) κ) : fAddI (.int i) (.int j) κ Q := ⟨i, j, rfl, rfl, h⟩
end
end DL
namespace DL
open PySem PySem.Spec PyProof.Rows L2
/-! what can be walked -/
def Fa (κ κ' : Kap) : Prop := ∀ n c, κ n = some c → κ' n = some c
theorem Fa.trans {κ κ1 κ2 : Kap} (h : Fa κ κ1) (g : Fa κ1 κ2) : Fa κ κ2 := fun n c e => g n c (h n c e)
theorem Fa.put {κ κ' : Kap} {n : Nat} {c : Cell} (f : Fa κ κ') (h : κ n = none) : Fa κ (kset κ' n c) := fun m d e => by rw [kset_ne (kne e h)]; exact f m d e
inductive Wk (κ : Kap) : D → List D → Prop
  | lst {xs : List D} : Wk κ (.node .lst xs) xs
  | tup {xs : List D} : Wk κ (.node .tup xs) xs
  | cell {n : Nat} {xs : List D} (h : κ n = some (.live .lst xs)) : Wk κ (.cell n) xs
theorem Wk.mono {κ κ' : Kap} {d : D} {xs : List D} (h : Wk κ d xs) (f : Fa κ κ') : Wk κ' d xs := by
  cases h with
  | lst => exact .lst
  | tup => exact .tup
  | cell e => exact .cell (f _ _ e)
end DL
namespace DL
open PySem PySem.Spec PyProof.Rows L2
end DL
namespace DL
open PySem PySem.Spec PyProof.Rows L2
end DL
namespace DL
open PySem PySem.Spec PyProof.Rows L2
end DL
namespace DL
open PySem PySem.Spec PyProof.Rows L2
/-! areas of rounds -/
end DL
namespace DL
open PySem PySem.Spec PyProof.Rows L2
/-! signs -/
end DL
/-! DOl: own exceptions over LookupError, KeyError, ZeroDivisionError as well as ValueError, made as values. -/
namespace GX
open PySem PySem.Builtin PySem.Builtin.ObjectAttr PySem.HandSPX
/-- own classes, then tl -/
def ownThen (tl : List Value) : List Value → Bool
  | .ref _ :: r => ownThen tl r
  | l => l == tl
theorem ownThen_cases {tl : List Value} : ∀ l : List Value, ownThen tl l = true → (∃ c r, l = .ref c :: r ∧ ownThen tl r = true) ∨ l = tl := by
  intro l h
  unfold ownThen at h
  split at h
  · exact .inl ⟨_, _, rfl, h⟩
  · exact .inr (beq_iff_eq.mp h)
theorem ownThen_has {tl : List Value} (Y : String) : ∀ l : List Value, ownThen tl l = true → l.contains (.type Y) = tl.contains (.type Y)
  | [], e => by
    rcases ownThen_cases _ e with ⟨c, r, q, _⟩ | q
    · cases q
    · rw [q]
  | a :: l, e => by
    rcases ownThen_cases _ e with ⟨c, r, q, h⟩ | q
    · cases q
      rw [List.contains_cons, ownThen_has Y l h]
      rfl
    · rw [q]
/-- what is known of a built-in class of exceptions: ni makes, ii is its __init__, tl its line -/
structure BX (ni ii : String) (tl : List Value) : Prop where
  nw : ∃ B i0 bm0, ExcBaseFacts B ni i0 bm0 ∧ tl.contains (.type B) = true
  na : tl.contains (.type "AttributeError") = false
  nn : tl.contains (.type "NameError") = false
  ob : tl.contains (.type "object") = true
  ps : ∀ self, refuseLoop self "__setattr__" tl = pure ()
  ne : tl.isEmpty = false
  ini : ∃ T, plainId ii = true ∧ splitId ii = some (T, "__init__") ∧ tl.contains (.type T) = true ∧ Manifest.signature? ii = some ⟨.positional, "*", T, .self, [⟨"args", .varPos, false⟩]⟩ ∧ (T != "*") = true
  ie : entryFor table ii = some Builtin.«BaseException.__init__»
  ik : builtinKind ii = some .slot
theorem ownThen_pass {ni ii : String} {tl : List Value} (X : BX ni ii tl) (self : Value) : ∀ l : List Value, ownThen tl l = true → refuseLoop self "__setattr__" l = pure ()
  | [], e => by
    rcases ownThen_cases _ e with ⟨c, r, q, _⟩ | q
    · cases q
    · rw [q]; exact X.ps self
  | a :: l, e => by
    rcases ownThen_cases _ e with ⟨c, r, q, h⟩ | q
    · cases q
      rw [refuseLoop_ref]
      exact ownThen_pass X self l h
    · rw [q]; exact X.ps self
theorem ownThen_some {ni ii : String} {tl : List Value} (X : BX ni ii tl) {l : List Value} (e : ownThen tl l = true) : l.isEmpty = false := by
  cases l with
  | cons => rfl
  | nil =>
    rcases ownThen_cases _ e with ⟨c, r, q, _⟩ | q
    · cases q
    · rw [q]; exact X.ne
theorem bx_ValueError : BX "ValueError.__new__" "ValueError.__init__" [.type "ValueError", .type "Exception", .type "BaseException", .type "object"] :=
  ⟨⟨_, _, _, F.excBase_ValueError, rfl⟩, rfl, rfl, rfl, F.store_ValueError.passes, rfl, ⟨_, F.excBase_ValueError.init.plain, F.excBase_ValueError.initSplit, rfl, F.excBase_ValueError.initRow, F.excBase_ValueError.noStar⟩, F.excBase_ValueError.initEntry, F.excBase_ValueError.initKind⟩
theorem bx_LookupError : BX "LookupError.__new__" "LookupError.__init__" [.type "LookupError", .type "Exception", .type "BaseException", .type "object"] :=
  ⟨⟨_, _, _, F.excBase_LookupError, rfl⟩, rfl, rfl, rfl, F.store_LookupError.passes, rfl, ⟨_, F.excBase_LookupError.init.plain, F.excBase_LookupError.initSplit, rfl, F.excBase_LookupError.initRow, F.excBase_LookupError.noStar⟩, F.excBase_LookupError.initEntry, F.excBase_LookupError.initKind⟩
theorem bx_ZeroDivisionError : BX "ZeroDivisionError.__new__" "ZeroDivisionError.__init__" [.type "ZeroDivisionError", .type "ArithmeticError", .type "Exception", .type "BaseException", .type "object"] :=
  ⟨⟨_, _, _, F.excBase_ZeroDivisionError, rfl⟩, rfl, rfl, rfl, F.store_ZeroDivisionError.passes, rfl, ⟨_, F.excBase_ZeroDivisionError.init.plain, F.excBase_ZeroDivisionError.initSplit, rfl, F.excBase_ZeroDivisionError.initRow, F.excBase_ZeroDivisionError.noStar⟩, F.excBase_ZeroDivisionError.initEntry, F.excBase_ZeroDivisionError.initKind⟩
theorem bx_KeyError : BX "LookupError.__new__" "KeyError.__init__" [.type "KeyError", .type "LookupError", .type "Exception", .type "BaseException", .type "object"] :=
  ⟨⟨_, _, _, F.excBase_LookupError, rfl⟩, rfl, rfl, rfl, fun self => by kernel_rfl, rfl, ⟨"KeyError", by decide +kernel, by kernel_rfl, rfl, by kernel_rfl, by decide +kernel⟩,
    entryFor_alias (id' := "BaseException.__init__") (by rw [fastTable_eq_tree]; kernel_rfl) (by first | rfl | decide +kernel) (by decide +kernel) (by rw [fastTable_eq_tree]; kernel_rfl), by kernel_rfl⟩
abbrev excAt (C t : Addr) : Obj := { cls := .ref C, data := .fields #[.ref t, .none, .none, .none, .bool false, .none] }
section
variable {prog : Program} {w : World} {A : Around} {E : Value → Shared → Prop} {R : Result → Shared → Prop} {hp : Heap} {g : Array GenState} {d : Drawn} {t : Nat} {os : OsState}
variable {nm q : Str} {C N : Addr} {bs bm tl : List Value} {hdct : Bool} {sn : List Str} {sub : List Value} {ab : Bool} {col : Option Bool} {dd : Option Addr} {k0 k1 k2 k3 k5 : Option Value} {ni ii : String}
/-- the maker, called with the class -/
theorem new_run (X : BX ni ii tl) (ho : ownThen tl bm = true) {us : List Value} {kw : List (Str × Value)} (hC : hp.get? C = some (excClassObj nm q C N bs bm hdct sn sub ab col dd k0 k1 k2 k3 k5 ni)) (hz : us.length ≤ sizeLine)
    (hq : R (.ok (.ret (.ref (hp.objs.size + 1)))) ⟨(hp.push (W.kdv_tup us)).push (excAt C hp.objs.size), g, d, t, os⟩) :
    codeAny (model prog w) A (.call (.builtin ni) ⟨.ref C :: us, kw⟩) R ⟨hp, g, d, t, os⟩ := by
  obtain ⟨B, i0, bm0, F, hB⟩ := X.nw
  have cB : (Value.ref C :: bm).contains (.type B) = true := by rw [List.contains_cons, ownThen_has B _ ho, hB, Bool.or_true]
  have cA : (Value.ref C :: bm).contains (.type "AttributeError") = false := by rw [List.contains_cons, ownThen_has _ _ ho, X.na]; rfl
  have cN : (Value.ref C :: bm).contains (.type "NameError") = false := by rw [List.contains_cons, ownThen_has _ _ ho, X.nn]; rfl
  refine codeAny_call_builtin_code (Code.quiet_builtin _ F.quiet) ?_ 
  have hstar := F.noStar
  simp only [checkBuiltinCall, F.newKind, F.newSplit, F.newRow]
  repeat (first | refine wpAny_loadPart_at hC ?_ | (refine wpAny_isSubtype_exc hC ?_; rw [cB]) | refine wpAny_staticBase_exc hC ?_ | refine wpAny_madeBy_exc hC ?_ | simp only [bne_self_eq_false, Bool.false_eq_true, if_false] | wp_step)
  have hends := F.ends
  refine codeAny_builtinAt F.entry ?_
  unfold Builtin.«BaseException.__new__»
  refine wpAt_bind ?_
  show wpAt _ _ _ (stack >>= _) _ _ _
  refine wpAt_bind (wpAt_stack fun p below => wpAt_of_wpAny ?_)
  wp_walk
  refine wpAt_of_wpAny ?_
  rw [F.owner]
  repeat (first | with_reducible refine wpAny_madeHere_exc F.canon hC ?_ | with_reducible refine wpAny_loadPart_at hC ?_ | (with_reducible refine wpAny_isSubtype_exc hC ?_; first | rw [cB] | rw [cA] | rw [cN]) | wp_step)
  show R _ _
  rw [Heap.size_push]
  exact hq
theorem tc_run {us : List Value} {kw : List (Str × Value)} {Q : Unit → Shared → Prop} (hC : hp.get? C = some (excClassObj nm q C N bs bm hdct sn sub ab col dd k0 k1 k2 k3 k5 ni))
    (hq : Q () ⟨hp, g, d, t, os⟩) : wpAny (model prog w) A (checkBuiltinCall "type.__call__" ⟨.ref C :: us, kw⟩) Q E ⟨hp, g, d, t, os⟩ := by
  have f3 := tc_sub
  have hT : (⟨hp, g, d, t, os⟩ : Shared).TypeIs (.ref C) "type" := ⟨_, hC, rfl⟩
  simp only [checkBuiltinCall, tc_kind, tc_split]
  repeat (any_goals (first | assumption | with_reducible refine wpAny_loadPart_at hC ?_ | with_reducible refine wpAny_onRaise ?_ | with_reducible refine wpAny_map ?_ | wp_step))
theorem tcall_run (X : BX ni ii tl) (ho : ownThen tl bm = true) {us : List Value} {kw : List (Str × Value)} {fI : Addr} {Q : Fin → Shared → Prop} (hC : hp.get? C = some (excClassObj nm q C N bs bm hdct sn sub ab col dd k0 k1 k2 k3 k5 ni))
    (hi : W.Looks (model prog w) hp (typeLookup (.ref C) "__init__") (some (.ref fI))) (hb : ∀ self, W.Looks (model prog w) hp (bindSpecial (.ref fI) self) (.ref fI, [self])) (hz : us.length ≤ sizeLine)
    (hq : codeAny (model prog w) A (.call (.ref fI) ⟨.ref (hp.objs.size + 1) :: us, kw⟩)
      (fun r s' => match r with | .ok (.ret v) => v = .none ∧ Q (.done (.ret (.ref (hp.objs.size + 1)))) s' | .ok _ => False | .error e => E e s')
      ⟨(hp.push (W.kdv_tup us)).push (excAt C hp.objs.size), g, d, t, os⟩) :
    wpAny (model prog w) A (Builtin.«type.__call__» ⟨.ref C :: us, kw⟩) Q E ⟨hp, g, d, t, os⟩ := by
  repeat (first | with_reducible refine wpAny_loadPart_at hC ?_ | with_reducible refine wpAny_madeBy_exc hC ?_ | wp_step)
  refine new_run X ho hC hz ?_
  show wpAny _ _ _ _ _ _
  have k : ∀ b o, hp.get? b = some o → ((hp.push (W.kdv_tup us)).push (excAt C hp.objs.size)).get? b = some o := fun b o e => Heap.get?_push_of_some _ (Heap.get?_push_of_some _ e)
  have hC1 := k _ _ hC
  have hx : ((hp.push (W.kdv_tup us)).push (excAt C hp.objs.size)).get? (hp.objs.size + 1) = some (excAt C hp.objs.size) := by heap_get
  have cC : (Value.ref C :: bm).contains (.ref C) = true := by simp
  have i1 := hi.keeps k
  have b1 := (hb (.ref (hp.objs.size + 1))).keeps k
  unfold isInstance
  repeat (first | with_reducible refine wpAny_loadPart_at hx ?_ | (with_reducible refine wpAny_isSubtype_exc hC1 ?_; rw [cC]) | wp_step)
  show wpAny _ _ (typeLookup (.ref C) _) _ _ _
  refine i1.at ?_
  refine wpAny_holding (wpAny_bind (b1.at ?_))
  refine wpAny_bind (wpAny_call (codeAny_mono hq fun r s' z => ?_))
  rcases r with e | (v | _ | _ | _) <;> first | exact z | exact z.elim | skip
  obtain ⟨rfl, z⟩ := z
  first
    | exact wpAny_pure (wpAny_pure z)
    | (wp_walk; exact z)
/-- C(us): made, then C's own __init__ -/
theorem own_run (X : BX ni ii tl) (ho : ownThen tl bm = true) {us : List Value} {kw : List (Str × Value)} {fI : Addr} (hC : hp.get? C = some (excClassObj nm q C N bs bm hdct sn sub ab col dd k0 k1 k2 k3 k5 ni))
    (hi : W.Looks (model prog w) hp (typeLookup (.ref C) "__init__") (some (.ref fI))) (hb : ∀ self, W.Looks (model prog w) hp (bindSpecial (.ref fI) self) (.ref fI, [self])) (hz : us.length ≤ sizeLine)
    (hq : codeAny (model prog w) (A.under (.builtin "type.__call__" ⟨.ref C :: us, kw⟩)) (.call (.ref fI) ⟨.ref (hp.objs.size + 1) :: us, kw⟩) (W.InitBack (hp.objs.size + 1) R)
      ⟨(hp.push (W.kdv_tup us)).push (excAt C hp.objs.size), g, d, t, os⟩) :
    codeAny (model prog w) A (.call (.ref C) ⟨us, kw⟩) R ⟨hp, g, d, t, os⟩ := by
  have f1 := tc_lookup
  have f2 := tc_bind (.ref C)
  have hTy : (⟨hp, g, d, t, os⟩ : Shared).TypeIs (.ref C) "type" := ⟨_, hC, rfl⟩
  refine codeAny_of_tree ?_
  show wpAny _ _ (callAny (.ref C) _) _ _ _
  repeat (any_goals (first | assumption | with_reducible refine wpAny_loadPart_at hC ?_ | wp_step))
  refine ⟨rfl, ?_⟩
  refine codeAny_call_builtin_at (Code.quiet_builtin _ (by decide +kernel)) entry_typeCall (tc_run hC (tcall_run X ho hC hi hb hz ?_))
  refine codeAny_mono hq fun r s' z => ?_
  rcases r with e | (v | _ | _ | _) <;> exact z
/-- ii(e, ..): its args are laid anew -/
theorem ini_run (X : BX ni ii tl) (ho : ownThen tl bm = true) {e t0 : Addr} {us : List Value} (hC : hp.get? C = some (excClassObj nm q C N bs bm hdct sn sub ab col dd k0 k1 k2 k3 k5 ni)) (he : hp.get? e = some (excAt C t0)) (hz : us.length ≤ sizeLine)
    (hq : ∀ h' t1, (∀ b o, b ≠ e → hp.get? b = some o → h'.get? b = some o) → h'.get? e = some (excAt C t1) → R (.ok (.ret .none)) ⟨h', g, d, t, os⟩) :
    codeAny (model prog w) A (.call (.builtin ii) ⟨.ref e :: us, []⟩) R ⟨hp, g, d, t, os⟩ := by
  obtain ⟨T, i1, i2, i3, i4, i5⟩ := X.ini
  have cT : (Value.ref C :: bm).contains (.type T) = true := by rw [List.contains_cons, ownThen_has T _ ho, i3, Bool.or_true]
  refine codeAny_call_builtin i1 X.ie ?_
  · simp only [checkBuiltinCall, X.ik, i2, i4]
    repeat (first | with_reducible refine wpAny_loadPart_at he ?_ | with_reducible refine wpAny_loadPart_at hC ?_ | (with_reducible refine wpAny_isSubtype_exc hC ?_; rw [cT]) | wp_step)
    refine wpAny_onRaise ?_
    rw [show ∀ (a b : String) (n : Nat), Bind.check ⟨.positional, "*", T, .self, [⟨"args", .varPos, false⟩]⟩ a b n (List.map (fun x => x.fst) ({ pos := Value.ref e :: us } : Args).kw) = pure () from
      fun a b n => check_star_args _ _ _ _ _ _]
    refine wpAny_pure ?_
    wp_walk
    refine hq _ hp.objs.size (fun b o hb ho => ?_) ?_
    · rw [Heap.get?_update_other _ _ (Ne.symm hb)]
      exact Heap.get?_push_of_some _ ho
    · rw [Heap.get?_update_self _ (Heap.get?_push_of_some _ he) rfl]
      rfl
/-- a field is laid: down to the own dict -/
theorem lay_run {K : W.Frag} (Y : BX ni ii tl) {name : Str} {tk : Tok} {v : Value} {x : Addr} {ox : Obj} {od : Option Obj} {cd : ClassData} (X : K.In hp) (I : W.InstAt hp x ox C od) (hcd : W.clsIn K C = some cd) (hm : ownThen tl cd.mro = true)
    (ha : W.findIn K (.ref C) name = some none) (hq : wpAny (model prog w) A.in1 (storeInOwnDict (.ref x) (.ref C) (.str name tk) name v false) (GQ.FinOf prog w A R) (fun e s' => R (.error e) s') ⟨hp, g, d, t, os⟩) :
    codeAny (model prog w) A (.call (.builtin "object.__setattr__") ⟨[.ref x, .str name tk, v], []⟩) R ⟨hp, g, d, t, os⟩ := by
  have SF := F.store_object
  have ne := ownThen_some Y hm
  have hob : cd.mro.contains (.type "object") = true := (ownThen_has "object" _ hm).trans Y.ob
  have sub : W.Looks (model prog w) hp (isInstance (.ref x) (.type "object")) true := I.type.andThen (W.looks_mroIn X (by unfold W.mroIn; rw [hcd, Option.bind_some, if_neg (by rw [ne]; decide), hob]))
  have hmr : W.Looks (model prog w) hp (mroOf (.ref C)) cd.mro := (W.looks_clsIn X hcd).andThen .now
  have L3 : W.Looks (model prog w) hp (storeTaker? none) none := .now
  refine codeAny_call_builtin SF.slot.plain SF.entry (@W.check_slot (model prog w) _ _ ⟨hp, g, d, t, os⟩ "object.__setattr__" "object" "__setattr__" (.ref x) [.str name tk, v] [] _ SF.kind SF.split sub (SF.args (.ref x) (.str name tk) v) ?_)
  rw [W.osa_eq, refuse_eq]
  refine wpAny_bind (wpAny_bind (I.type.at (wpAny_bind (hmr.at ?_))))
  rw [ownThen_pass Y _ _ hm]
  refine wpAny_pure (wpAny_bind (I.type.at (wpAny_bind ((W.looks_findIn X ha).at (wpAny_bind (L3.at ?_))))))
  exact hq
theorem lay_new {K : W.Frag} (Y : BX ni ii tl) {name : Str} {tk : Tok} {v : Value} {x : Addr} {fv : Array Value} {cd : ClassData} (X : K.In hp) (hx : hp.get? x = some { cls := .ref C, data := .fields fv }) (hcd : W.clsIn K C = some cd) (hm : ownThen tl cd.mro = true) (hh : cd.hasDict = true)
    (ha : W.findIn K (.ref C) name = some none)
    (hq : ∀ h' tk' dx, (∀ b o, b ≠ x → hp.get? b = some o → h'.get? b = some o) → hp.objs.size ≤ dx → dx ≠ x → h'.get? x = some { cls := .ref C, dict := some dx, data := .fields fv } →
      h'.Ns1 dx (fun y => if y = name then some v else none) → R (.ok (.ret .none)) ⟨h', g, d, tk', os⟩) :
    codeAny (model prog w) A (.call (.builtin "object.__setattr__") ⟨[.ref x, .str name tk, v], []⟩) R ⟨hp, g, d, t, os⟩ := by
  have lt : x ≠ hp.objs.size := Nat.ne_of_lt (Heap.lt_size hx)
  refine lay_run Y X (od := none) ⟨hx, rfl, rfl, trivial⟩ hcd hm ha ?_
  have hcls : W.Looks (model prog w) hp (classData C) cd := W.looks_clsIn X hcd
  obtain ⟨nm, bs, mro, ns, qn, hd, sn, sb, ab, col, del⟩ := cd
  dsimp only at hh
  subst hh
  unfold storeInOwnDict ownDictForStores
  repeat (first | with_reducible refine store_in_new ?_ ?_ | with_reducible refine wpAny_loadPart_at hx ?_ | with_reducible refine hcls.at ?_ | wp_step)
  · exact ⟨_, #[], _, (Heap.get?_update_ne _ _ _ _ lt.symm).trans (Heap.get?_push_at rfl rfl), rfl, fun e he => absurd he (by simp), fun _ => rfl⟩
  · intro h' tk' n1 sb1
    have p1 : (hp.push { cls := .type "dict", data := .dict #[] }).get? x = some { cls := .ref C, data := .fields fv } := Heap.get?_push_of_some _ hx
    exact hq h' tk' hp.objs.size (fun b o nb hb => (sb1.2 b (Nat.ne_of_lt (Heap.lt_size hb))).trans ((Heap.get?_update_ne _ _ _ _ nb).trans (Heap.get?_push_of_some _ hb))) (Nat.le_refl _) lt.symm ((sb1.2 x lt).trans (Heap.get?_update_self _ p1 rfl)) n1
theorem lay_old {K : W.Frag} (Y : BX ni ii tl) {name : Str} {tk : Tok} {v : Value} {x dx : Addr} {fv : Array Value} {cd : ClassData} {m0 : Str → Option Value} {nl : List Str} (X : K.In hp) (hx : hp.get? x = some { cls := .ref C, dict := some dx, data := .fields fv }) (hns : hp.Ns1 dx m0) (hw : Within m0 nl) (hz : nl.length ≤ 1000) (hcd : W.clsIn K C = some cd) (hm : ownThen tl cd.mro = true) (hh : cd.hasDict = true)
    (ha : W.findIn K (.ref C) name = some none)
    (hq : ∀ h' tk', (∀ b o, b ≠ dx → hp.get? b = some o → h'.get? b = some o) → h'.Ns1 dx (fun y => if y = name then some v else m0 y) → R (.ok (.ret .none)) ⟨h', g, d, tk', os⟩) :
    codeAny (model prog w) A (.call (.builtin "object.__setattr__") ⟨[.ref x, .str name tk, v], []⟩) R ⟨hp, g, d, t, os⟩ := by
  obtain ⟨oD, _, _, hoD, _, _⟩ := hns.count hw
  refine lay_run Y X (od := some oD) ⟨hx, rfl, rfl, hoD⟩ hcd hm ha ?_
  have hcls : W.Looks (model prog w) hp (classData C) cd := W.looks_clsIn X hcd
  obtain ⟨nm, bs, mro, ns, qn, hd, sn, sb, ab, col, del⟩ := cd
  dsimp only at hh
  subst hh
  unfold storeInOwnDict ownDictForStores
  repeat (first | with_reducible refine PySem.OEX.store_in_old hns hw hz ?_ | with_reducible refine wpAny_loadPart_at hx ?_ | with_reducible refine hcls.at ?_ | wp_step)
  intro h' tk' n1 sb1
  exact hq h' tk' (fun b o nb hb => (sb1.2 b nb).trans hb) n1
end
end GX
namespace DL
open PySem PySem.Spec PyProof.Rows L2 GX
/-- what the written part says of an own class over the built-in one whose __init__ is ii -/
structure OxG (K : PySem.W.Frag) (ii : String) (C : Addr) : Prop where
  cls : ∃ ni tl nm q N bs bm sn sub ab col dd k0 k1 k2 k3 k5, BX ni ii tl ∧ K.lookup C = some (excClassObj nm q C N bs bm true sn sub ab col dd k0 k1 k2 k3 k5 ni) ∧ ownThen tl bm = true
  sa : PySem.W.findIn K (.ref C) "__setattr__" = some (some (.builtin "object.__setattr__"))
  kC : PySem.W.keepIn K (.ref C) = true
section
variable {X : Cx} {pins : List (Addr × Obj)} {σ : L2.St} {H : Hp} {s : Shared} {a C dx : Addr} {ii : String} {f : Str} {y : V} {u : Value} {fs : List (Str × V)} {Q : Unit → Shared → Prop} {E : Value → Shared → Prop} {A : Around}
/-- self.f = y, the first -/
theorem gst_new (T : OxG X.K ii C) (I : L2.Inv X pins σ H s) (e : H a = some (exo a C none)) (hno : PySem.W.findIn X.K (.ref C) f = some none) (ry : RelV y u)
    (h : ∀ dx s', H dx = none → dx ≠ a → L2.Inv X pins σ (upd (upd H dx (exd dx [(f, y)])) a (exo a C (some dx))) s' → Q () s') : wpAny (model X.prog X.w) A (setAttr (.ref a) f u) Q E s := by
  obtain ⟨ni, tl, nm, q, N, bs, bm, sn, sub, ab, col, dd, k0, k1, k2, k3, k5, BB, hC, ho⟩ := T.cls
  have hcl : PySem.W.clsIn X.K C = some { name := nm, bases := bs, mro := .ref C :: bm, ns := N, qualname := q, hasDict := true, slotNames := sn, subclasses := sub, abstract := ab, collection := col, hasDel := false } := by unfold PySem.W.clsIn; rw [hC] <;> rfl
  obtain ⟨t1, hx⟩ := exo_at I.hok e
  obtain ⟨hp, g, d, t, os⟩ := s
  refine PySem.W.set_plain I.kIn (ox := { cls := .ref C, dict := none, data := .fields #[.ref t1, .none, .none, .none, .bool false, .none] }) (od := none) ⟨hx, rfl, rfl, trivial⟩ T.sa ?_
  refine lay_new BB I.kIn hx hcl (show ownThen tl (.ref C :: bm) = true from ho) rfl hno fun h' tk' dx k dn dne hx' hn => ?_
  have nil : H dx = none := I.hok.fresh dn
  have old : ∀ {b : Addr} {o : Obj}, hp.get? b = some o → b ≠ dx := fun z => Nat.ne_of_lt (Nat.lt_of_lt_of_le (Heap.lt_size z) dn)
  have off : ∀ {b : Addr}, H b = none → b ≠ a := fun n z => by rw [z, e] at n; cases n
  have two : ∀ {b : Addr}, b ≠ a → b ≠ dx → upd (upd H dx (exd dx [(f, y)])) a (exo a C (some dx)) b = H b := fun h1 h2 => by rw [upd_ne h1, upd_ne h2]
  have stay : ∀ {b : Addr} {o : HO}, H b = some o → exo a C none ≠ o → upd (upd H dx (exd dx [(f, y)])) a (exo a C (some dx)) b = some o := fun z dz => by rw [two (at_ne e z dz) (ne_of_none z nil)]; exact z
  refine h dx _ nil dne (I.un (t' := tk') {
    keep := fun b o z n _ _ => k b o (off n) z
    slot := fun b o z n _ _ => ⟨o.slots, k b o (off n) z⟩
    free := fun b o z n _ => by rw [two (off n) (old z)]; exact n
    there := fun b o z _ => if hb : b = a then ⟨_, hb ▸ hx'⟩ else ⟨o, k b o hb z⟩
    tups := fun b xs z => stay z exo_tup
    frzs := fun b o v z => stay z exo_frz
    tbls := fun b ps z => ⟨#[], by rw [stay z exo_tbl]; simp⟩ } fun b o z => ?_)
  by_cases hb : b = a
  · rw [hb, upd_same] at z
    cases z
    rw [hb]
    exact exo_ok hx'
  · rw [upd_ne hb] at z
    by_cases hd : b = dx
    · rw [hd, upd_same] at z
      cases z
      rw [hd]
      exact exd_ok hn (relO_put (fs := []) ry fun g => True.intro)
    · rw [upd_ne hd] at z
      refine (I.hok b o z).stay (fun c v hc w => k c v ?_ w) (fun c hc => stay hc exo_own) (fun c xs hc => stay hc exo_tup)
      rcases hc with hc | hc
      · rw [hc]; exact hb
      · exact at_ne e hc exo_own
/-- .. a further one -/
theorem gst_old (T : OxG X.K ii C) (I : L2.Inv X pins σ H s) (e : H a = some (exo a C (some dx))) (ed : H dx = some (exd dx fs)) (hl : fs.length ≤ 900) (hno : PySem.W.findIn X.K (.ref C) f = some none) (ry : RelV y u)
    (h : ∀ s', L2.Inv X pins σ (upd H dx (exd dx ((f, y) :: fs))) s' → Q () s') : wpAny (model X.prog X.w) A (setAttr (.ref a) f u) Q E s := by
  obtain ⟨ni, tl, nm, q, N, bs, bm, sn, sub, ab, col, dd, k0, k1, k2, k3, k5, BB, hC, ho⟩ := T.cls
  have hcl : PySem.W.clsIn X.K C = some { name := nm, bases := bs, mro := .ref C :: bm, ns := N, qualname := q, hasDict := true, slotNames := sn, subclasses := sub, abstract := ab, collection := col, hasDel := false } := by unfold PySem.W.clsIn; rw [hC] <;> rfl
  obtain ⟨t1, hx⟩ := exo_at I.hok e
  obtain ⟨mA, hns, rel⟩ := exd_at I.hok ed
  have hw := within_of rel
  obtain ⟨hp, g, d, t, os⟩ := s
  obtain ⟨oD, _, _, hoD, _, _⟩ := hns.count hw
  refine PySem.W.set_plain I.kIn (ox := { cls := .ref C, dict := some dx, data := .fields #[.ref t1, .none, .none, .none, .bool false, .none] }) (od := some oD) ⟨hx, rfl, rfl, hoD⟩ T.sa ?_
  refine lay_old BB I.kIn hx hns hw (by rw [List.length_map]; omega) hcl (show ownThen tl (.ref C :: bm) = true from ho) rfl hno fun h' tk' k hn => ?_
  exact h _ (I.write (t' := tk') (x := dx) (e := dx) (o := exd dx ((f, y) :: fs)) (by rw [ed]; exact True.intro) (.inl rfl) k (let ⟨o, _, _, z, _⟩ := hn; ⟨o, z⟩) (exd_ok hn (relO_put ry rel)))
/-- ii(self, ..): nothing of it is told -/
theorem gini_ok {us : List Value} {Q : Value → Shared → Prop} (T : OxG X.K ii C) (I : L2.Inv X pins σ H s) (e : H a = some (exo a C none)) (hl : us.length ≤ sizeLine) (h : ∀ s', L2.Inv X pins σ H s' → Q .none s') :
    wpAny (model X.prog X.w) A (call (.builtin ii) (.ref a :: us)) Q E s := by
  obtain ⟨ni, tl, nm, q, N, bs, bm, sn, sub, ab, col, dd, k0, k1, k2, k3, k5, BB, hC, ho⟩ := T.cls
  obtain ⟨t1, hx⟩ := exo_at I.hok e
  obtain ⟨hp, g, d, t, os⟩ := s
  refine wpAny_call (ini_run BB ho (I.kIn _ _ hC) hx hl fun h' t2 k hx' => ?_)
  have J := I.write (t' := t) (x := a) (e := a) (o := exo a C none) (by rw [e]; exact True.intro) (.inl rfl) k ⟨_, hx'⟩ (exo_ok hx')
  have same : upd H a (exo a C none) = H := funext fun b => if hb : b = a then by rw [hb, upd_same, e] else by rw [upd_ne hb]
  rw [same] at J
  exact h _ J
end
end DL
/-! DOm: own exceptions over any built-in class of DOl: their __init__, how they are made (by places, by names, of nothing), their fields. -/
namespace DL
open PySem PySem.Spec PyProof.Rows L2 GX
/-! ### __init__ -/
def tGI (K : PySem.W.Frag) (ii : String) (ta : TA) : TE := fun σ H Q => ta σ H fun vs H1 => ∃ (a C : Addr) (ws : List V), vs = .ref a :: ws ∧ ws.length ≤ 1000 ∧ OxG K ii C ∧ H1 a = some (exo a C none) ∧ Q .non H1
def tGst (K : PySem.W.Frag) (ii : String) (f : Str) (to te : TE) : TS := fun D σ H => te σ H fun y H1 => to σ H1 fun x H2 => ∃ a C : Addr, x = .ref a ∧ OxG K ii C ∧ PySem.W.findIn K (.ref C) f = some none ∧
  ((H2 a = some (exo a C none) ∧ ∀ dx, H2 dx = none → dx ≠ a → D.nx σ (upd (upd H2 dx (exd dx [(f, y)])) a (exo a C (some dx)))) ∨
    ∃ (dx : Addr) (fs : List (Str × V)), H2 a = some (exo a C (some dx)) ∧ H2 dx = some (exd dx fs) ∧ fs.length ≤ 900 ∧ D.nx σ (upd H2 dx (exd dx ((f, y) :: fs))))
/-- an own class without an __init__ of its own, above which ii stands -/
structure BaseG (K : PySem.W.Frag) (mg : Str → Option Value) (x : Str) (ca : Addr) (ii : String) : Prop where
  m : mg x = some (.ref ca)
  ga : PySem.W.specialIn K (.ref ca) "__getattribute__" = some (some (.builtin "type.__getattribute__"))
  rd : PySem.W.readsIn K ca (.type "type") = true
  fi : PySem.W.findCls K (.ref ca) (.type "type") "__init__" = some (.val (.builtin ii))
section
variable {X : Cx} {o e : Expr} {es : List Expr} {to te : TE} {ta : TA} {x f : Str} {ii : String} {ca : Addr} {p p' p1 p2 pos : Pos}
theorem ginit_end (G : OxG X.K ii ca → True) {pins : List (Addr × Obj)} {σ : L2.St} {H1 : Hp} {s1 : Shared} {us : List Value} {vs : List V} {Q : VK} (I1 : L2.Inv X pins σ H1 s1) (r1 : Vals vs us)
    (h : ∃ (a C : Addr) (ws : List V), vs = .ref a :: ws ∧ ws.length ≤ 1000 ∧ OxG X.K ii C ∧ H1 a = some (exo a C none) ∧ Q .non H1) : wpAny (model X.prog X.w) X.A (call (.builtin ii) us) (EP X pins σ Q) X.xe s1 := by
  obtain ⟨a, C, ws, rfl, hl, T, ea, q⟩ := h
  cases r1 with
  | @cons _ u0 _ ur ra rw' =>
    cases (show u0 = Value.ref a from ra)
    exact gini_ok T I1 ea (by rw [← Paired.length rw', sizeLine_eq]; omega) fun s' J => ⟨.non, H1, J, rfl, q⟩
theorem pe_ginit {pl : Sem Bool} (B : BaseG X.K X.mg x ca ii) (hd : PySem.W.handedIn (.builtin ii) = true) (ha : PA X (e :: es) ta) (hg : Gl X x := by rfl) (hdb : (x == ("__debug__" : Str)) = false := by decide)
    (hc : eval (.Call (.Attribute (.Name x p1) "__init__" p2) (e :: es) [] pos) X.env = (do
      let ov ← eval (.Name x p1) X.env
      standAt p2.atName
      let (f, first) ← holding [ov] (getMethod ov "__init__" pl)
      callWith pos f first (backTo pos (starEach (e :: es) X.env)) (backToKw pos (keywordEach [] X.env))) := by rfl)
    (he : starEach (e :: es) X.env = (false, eval e X.env) :: starEach es X.env := by rfl) (hpl : (backTo pos (starEach es X.env)).any (·.1) = false := by rfl) :
    PE X (.Call (.Attribute (.Name x p1) "__init__" p2) (e :: es) [] pos) (tGI X.K ii ta) := by
  refine ⟨fun pins s σ H Q I h => PySem.W.methodCall_KW (ld_glob I hg B.m ?_ hdb) hc⟩
  refine PySem.W.method_cls I.kIn B.ga (PySem.W.cls_value I.kIn B.rd B.fi hd ?_)
  exact PyProof.Rows.callWith_method1 (thn (ha.run pos pins _ σ H _ (I.tok _) h) fun us s1 ⟨vs, H1, I1, r1, q⟩ => ginit_end (ca := ca) (fun _ => trivial) I1 r1 q) he hpl
theorem typ_ZD : typeOf (.type "ZeroDivisionError") = pure (.type "type") := by kernel_rfl
/-- ZeroDivisionError.__init__(self, ..) -/
theorem pe_ginitZ {pl : Sem Bool} (hm : X.mg "ZeroDivisionError" = none) (vV : PySem.W.findCls X.K (.type "ZeroDivisionError") (.type "type") "__init__" = some (.val (.builtin "ZeroDivisionError.__init__"))) (ha : PA X (e :: es) ta) (hg : Gl X "ZeroDivisionError" := by rfl)
    (hc : eval (.Call (.Attribute (.Name "ZeroDivisionError" p1) "__init__" p2) (e :: es) [] pos) X.env = (do
      let ov ← eval (.Name "ZeroDivisionError" p1) X.env
      standAt p2.atName
      let (f, first) ← holding [ov] (getMethod ov "__init__" pl)
      callWith pos f first (backTo pos (starEach (e :: es) X.env)) (backToKw pos (keywordEach [] X.env))) := by rfl)
    (he : starEach (e :: es) X.env = (false, eval e X.env) :: starEach es X.env := by rfl) (hpl : (backTo pos (starEach es X.env)).any (·.1) = false := by rfl) :
    PE X (.Call (.Attribute (.Name "ZeroDivisionError" p1) "__init__" p2) (e :: es) [] pos) (tGI X.K "ZeroDivisionError.__init__" ta) := by
  refine ⟨fun pins s σ H Q I h => PySem.W.methodCall_KW (ld_blt I hg hm PyProof.Rows.Boot.«ZeroDivisionError» ?_ (by decide) (by decide)) hc⟩
  obtain ⟨m, fr⟩ := I.fr
  refine PySem.W.method_type fr I.ok.mod.kin typ_ZD (by decide +kernel) vV (by decide +kernel) ?_
  show wpAny _ _ (callWith pos (Value.builtin "ZeroDivisionError.__init__") [] (backTo pos (starEach (e :: es) X.env)) []) _ _ _
  exact PyProof.Rows.callWith_method1 (thn (ha.run pos pins _ σ H _ (I.tok _) h) fun us s1 ⟨vs, H1, I1, r1, q⟩ => ginit_end (ca := 0) (fun _ => trivial) I1 r1 q) he hpl
theorem ps_gst (ho : PE X o to) (he : PE X e te) (hs : swapsWith e (some (.Attribute o f p')) pos.line X.env = pure false := by rfl) : PS X (.Assign [.Attribute o f p'] e pos) (tGst X.K ii f to te) := by
  refine ⟨fun pins s σ H D I h => plainObj_wpAny_Assign_Attribute (thn (he.run pins s σ H _ I h) fun v s1 ⟨y, H1, I1, r1, q1⟩ => thn (ho.run pins s1 σ H1 _ I1 q1) fun u s2 ⟨x, H2, I2, r2, a, C, ex, T, hno, q⟩ => ?_) hs⟩
  subst ex
  obtain rfl : u = Value.ref a := r2
  rcases q with ⟨ea, q⟩ | ⟨dx, fs, ea, ed, hl, q⟩
  · exact gst_new T I2 ea hno r1 fun dx s' n ne J => ⟨σ, _, J, q dx n ne⟩
  · exact gst_old T I2 ea ed hl hno r1 fun s' J => ⟨σ, _, J, q⟩
end
/-- an __init__ that lays the fields fs (the last one first) -/
def spGx (K : PySem.W.Frag) (ii : String) (ns : List Str) : L2.Sp := fun vs H Q _ => ∃ (a C : Addr) (ys : List V), vs = .ref a :: ys ∧ ys.length = ns.length ∧ OxG K ii C ∧ (∀ f ∈ ns, PySem.W.findIn K (.ref C) f = some none) ∧ H a = some (exo a C none) ∧
  (ns = [] → Q .non H) ∧ (ns ≠ [] → ∀ dx, H dx = none → dx ≠ a → Q .non (upd (upd H dx (exd dx (ns.zip ys.reverse))) a (exo a C (some dx))))
section
variable {P : Program} {w : World} {K : PySem.W.Frag} {mg : Str → Option Value} {base : Heap} {ii : String}
abbrev HeadG (P : Program) (w : World) (K : PySem.W.Frag) (mg : Str → Option Value) (base : Heap) (ii : String) (N : List Str) (qual : Str) (st s1 : Stmt) (f : Addr) : Prop :=
  ∀ (cdv : Value) (A : Around) (outer : List Env) (s : Shared) (H : Hp) (E : XK), ∃ t : Str, PS (cxOf CX0 P w K mg base N qual (defScope st) f cdv A outer s H E).nox s1 (tDrop (tGI K ii (tCons (tVar 0) (tCons (tC (.str t)) tNil))))
theorem gx0_ok {qual : Str} {st s1 : Stmt} {f : Addr} {fd : FuncData} (F : Fun K "__init__" qual st f fd) (hi : HeadG P w K mg base ii ["self"] qual st s1 f) (hb : defBody st = [s1]) (S : FnScope ["self"] ["self"] (defScope st)) :
    FnOk P w K mg base CX0 1 f fd ["self"] (spGx K ii []) := by
  refine F.ok S (fun vs H Q E h => ?_) (fun cdv A outer s H vs Q E hr h => ?_)
  · obtain ⟨a, C, ys, rfl, hl, _⟩ := h
    rw [List.length_cons, hl] <;> rfl
  · obtain ⟨a, C, ys, rfl, hl, hC, _, ha, q, _⟩ := h
    cases List.eq_nil_of_length_eq_zero (hl.trans rfl)
    rw [hb]
    obtain ⟨t, ht⟩ := hi cdv A outer s H E
    exact ⟨_, pss_one ht, _, rfl, a, C, _, rfl, (by simp), hC, ha, q rfl⟩
theorem gx1_ok {qual : Str} {st s1 : Stmt} {f : Addr} {fd : FuncData} {par fl : Str} {p7 p8 p9 p10 : Pos} (F : Fun K "__init__" qual st f fd) (hi : HeadG P w K mg base ii ["self", par] qual st s1 f)
    (hb : defBody st = [s1, .Assign [.Attribute (.Name "self" p7) fl p8] (.Name par p9) p10])
    (S : FnScope ["self", par] ["self", par] (defScope st)) (h2 : (defScope st).names.lookup (Str.ofString "self") = some NameKind.local) (h3 : (defScope st).names.lookup par = some NameKind.local)
    (hdp : (par == ("__debug__" : Str)) = false) (hdc : (par == ("__classdict__" : Str)) = false) :
    FnOk P w K mg base CX0 1 f fd ["self", par] (spGx K ii [fl]) := by
  refine F.ok S (fun vs H Q E h => ?_) (fun cdv A outer s H vs Q E hr h => ?_)
  · obtain ⟨a, C, ys, rfl, hl, _⟩ := h
    rw [List.length_cons, hl] <;> rfl
  · obtain ⟨a, C, ys, rfl, hl, hC, hf, ha, _, q⟩ := h
    match ys, hl with
    | [y], _ =>
      rw [hb]
      obtain ⟨t, ht⟩ := hi cdv A outer s H E
      refine ⟨_, pss_cons ht (pss_one (ps_gst (ii := ii) (pe_var (i := 0) rfl (.inl h2)) (pe_var (i := 1) rfl (.inl h3) hdp hdc))), ?_⟩
      refine ⟨_, rfl, a, C, _, rfl, (by simp), hC, ha, ?_⟩
      exact ⟨_, rfl, _, rfl, a, C, rfl, hC, hf fl (by simp), .inl ⟨ha, fun dx h1 h2 => q (by simp) dx h1 h2⟩⟩
theorem gx2_ok {qual : Str} {st s1 : Stmt} {f : Addr} {fd : FuncData} {par par2 fl fl2 : Str} {p7 p8 p9 p10 p11 p12 p13 p14 : Pos} (F : Fun K "__init__" qual st f fd) (hi : HeadG P w K mg base ii ["self", par, par2] qual st s1 f)
    (hb : defBody st = [s1, .Assign [.Attribute (.Name "self" p7) fl p8] (.Name par p9) p10, .Assign [.Attribute (.Name "self" p11) fl2 p12] (.Name par2 p13) p14])
    (S : FnScope ["self", par, par2] ["self", par, par2] (defScope st)) (h2 : (defScope st).names.lookup (Str.ofString "self") = some NameKind.local) (h3 : (defScope st).names.lookup par = some NameKind.local) (h4 : (defScope st).names.lookup par2 = some NameKind.local)
    (hdp : (par == ("__debug__" : Str)) = false) (hdc : (par == ("__classdict__" : Str)) = false) (hdp2 : (par2 == ("__debug__" : Str)) = false) (hdc2 : (par2 == ("__classdict__" : Str)) = false) :
    FnOk P w K mg base CX0 1 f fd ["self", par, par2] (spGx K ii [fl2, fl]) := by
  refine F.ok S (fun vs H Q E h => ?_) (fun cdv A outer s H vs Q E hr h => ?_)
  · obtain ⟨a, C, ys, rfl, hl, _⟩ := h
    rw [List.length_cons, hl] <;> rfl
  · obtain ⟨a, C, ys, rfl, hl, hC, hf, ha, _, q⟩ := h
    match ys, hl with
    | [y, z], _ =>
      rw [hb]
      obtain ⟨t, ht⟩ := hi cdv A outer s H E
      refine ⟨_, pss_cons ht (pss_cons (ps_gst (ii := ii) (pe_var (i := 0) rfl (.inl h2)) (pe_var (i := 1) rfl (.inl h3) hdp hdc)) (pss_one (ps_gst (ii := ii) (pe_var (i := 0) rfl (.inl h2)) (pe_var (i := 2) rfl (.inl h4) hdp2 hdc2)))), ?_⟩
      refine ⟨_, rfl, a, C, _, rfl, (by simp), hC, ha, ?_⟩
      refine ⟨_, rfl, _, rfl, a, C, rfl, hC, hf fl (by simp), .inl ⟨ha, fun dx h1 h2 => ?_⟩⟩
      refine ⟨_, rfl, _, rfl, a, C, rfl, hC, hf fl2 (by simp), .inr ⟨dx, _, upd_same, (by rw [upd_ne h2]; exact upd_same), by simp, ?_⟩⟩
      have e : upd (upd (upd H dx (exd dx [(fl, y)])) a (exo a C (some dx))) dx (exd dx [(fl2, z), (fl, y)]) = upd (upd H dx (exd dx [(fl2, z), (fl, y)])) a (exo a C (some dx)) := by
        funext b'
        by_cases e1 : b' = dx <;> by_cases e2 : b' = a <;> simp [upd, e1, e2, h2, Ne.symm h2]
      show Q .non _
      rw [e]
      exact q (by simp) dx h1 h2
end
/-! ### made -/
/-- c(..): n by places, then by the names ks; is: how the fields are picked of them; ns: its fields, the last one first -/
def OxkG (P : Program) (w : World) (K : PySem.W.Frag) (mg : Str → Option Value) (base : Heap) (c : Str) (ns : List Str) (n : Nat) (ks : List Str) (is : List Nat) : Prop :=
  ∃ ca ii fI fd ps, mg c = some (.ref ca) ∧ OxG K ii ca ∧ PySem.W.findIn K (.ref ca) "__init__" = some (some (.ref fI)) ∧ PySem.W.typeIn K (.ref fI) = some (.type "function") ∧
    FnOk P w K mg base CX0 1 fI fd ps (spGx K ii ns) ∧ (∀ f ∈ ns, PySem.W.findIn K (.ref ca) f = some none) ∧
    (∀ (s : Shared) (a : Addr) (us ws : List Value), K.In s.heap → us.length = n → ws.length = ks.length → BindsTo s fd ⟨.ref a :: us, ks.zip ws⟩ (ps.zip (.ref a :: pick is (us ++ ws))))
/-- an exception, with its address or without -/
def exK (b : Bool) (c : Str) (ns : List Str) (a : Addr) : Kd := match b with
  | true => .exa c ns a
  | false => .exc c ns
def mkEnd (b : Bool) (c : Str) (ns : List Str) (ds : List D) (κ : Kap) (Q : DQ) : Prop := match b with
  | true => ∀ a, Q (.node (.exa c ns a) ds) κ
  | false => Q (.node (.exc c ns) ds) κ
theorem mkEnd.at {b : Bool} {c : Str} {ns : List Str} {ds : List D} {κ : Kap} {Q : DQ} (h : mkEnd b c ns ds κ Q) (a : Addr) : Q (.node (exK b c ns a) ds) κ := by
  cases b
  · exact h
  · exact h a
def cMk (b : Bool) (c : Str) (ns : List Str) (n m : Nat) (is : List Nat) (xs ys : List D) (κ : Kap) (Q : DQ) : Prop := xs.length = n ∧ ys.length = m ∧ n + m ≤ 100 ∧ (pick is (xs ++ ys)).length = ns.length ∧ mkEnd b c ns (pick is (xs ++ ys)).reverse κ Q
def dMkG (b : Bool) (c : Str) (ns : List Str) (n m : Nat) (is : List Nat) (as kw : DA) : DE := fun δ κ X Q => as δ κ X fun xs κ1 => kw δ κ1 X fun ys κ2 => cMk b c ns n m is xs ys κ2 Q
section
variable {X : Cx} {W : WX} {k n m : Nat} {b : Bool} {c : Str} {ns ks : List Str} {is : List Nat} {e : Expr} {es : List Expr} {kws : List Keyword} {as kw : DA} {p pos : Pos}
theorem run_mkG {pins : List (Addr × Obj)} {σ : L2.St} {H : Hp} {s : Shared} {Q : VK} {us ws : List Value} {vs zs : List V} {xs ys : List D} {F : Hp} {ρ : Loc0} {κ : Kap} {QD : DQ} (G : Good (k + 2) X W) (I : L2.Inv X pins σ H s) {ca fI : Addr} {ii : String} {fd : FuncData} {ps : List Str}
    (hmg : X.mg c = some (.ref ca)) (OX : OxG X.K ii ca) (hini : PySem.W.findIn X.K (.ref ca) "__init__" = some (some (.ref fI))) (hty : PySem.W.typeIn X.K (.ref fI) = some (.type "function")) (hfn : FnOk X.prog X.w X.K X.mg X.base CX0 1 fI fd ps (spGx X.K ii ns)) (hf : ∀ f ∈ ns, PySem.W.findIn X.K (.ref ca) f = some none)
    (hbd : ∀ (s : Shared) (a : Addr) (us ws : List Value), X.K.In s.heap → us.length = n → ws.length = ks.length → BindsTo s fd ⟨.ref a :: us, ks.zip ws⟩ (ps.zip (.ref a :: pick is (us ++ ws))))
    (r : Vals vs us) (rz : Vals zs ws) (S : StR (CtxOf X) F ρ κ H) (rr : RepL (CtxOf X) F ρ xs vs) (rq : RepL (CtxOf X) F ρ ys zs) (h : cMk b c ns n m is xs ys κ QD) (hm : ks.length = m) (P : Post (CtxOf X) F ρ QD Q) :
    wpAny (model X.prog X.w) X.A (call (.ref ca) us (ks.zip ws)) (EP X pins σ Q) X.xe s := by
  obtain ⟨h1, h2, h3, h4, h5⟩ := h
  have l1 : us.length = n := by rw [← Paired.length r, ← rr.length, h1]
  have l2 : ws.length = ks.length := by rw [← Paired.length rz, ← rq.length, h2, hm]
  have rep : RepL (CtxOf X) F ρ (pick is (xs ++ ys)) (pick is (vs ++ zs)) := RepL.pick (rr.append rq)
  have rvs : Vals (pick is (vs ++ zs)) (pick is (us ++ ws)) := vals_pick (r.append rz)
  generalize hds : pick is (xs ++ ys) = ds at rep h4 h5
  generalize hvv : pick is (vs ++ zs) = vv at rep rvs
  have lv : vv.length = ns.length := by rw [← rep.length, h4]
  obtain ⟨ni, tl, nm, q, N, bs, bm, sn, sub, ab, col, dd, k0, k1, k2, k3, k5, BB, hC, ho⟩ := OX.cls
  obtain ⟨hp, g, dr, tk, os⟩ := s
  have hsz : hp.objs.size ≤ hp.objs.size + 1 := Nat.le_succ _
  have nil : H (hp.objs.size + 1) = none := I.hok.fresh hsz
  have kk : ∀ b o, hp.get? b = some o → ((hp.push (PySem.W.kdv_tup us)).push (excAt ca hp.objs.size)).get? b = some o := fun b o e => Heap.get?_push_of_some _ (Heap.get?_push_of_some _ e)
  have hget : ((hp.push (PySem.W.kdv_tup us)).push (excAt ca hp.objs.size)).get? (hp.objs.size + 1) = some (excAt ca hp.objs.size) := by heap_get
  generalize hA : hp.objs.size + 1 = a at hsz nil hget
  have I2 : L2.Inv X pins σ (upd H a (exo a ca none)) ⟨(hp.push (PySem.W.kdv_tup us)).push (excAt ca hp.objs.size), g, dr, tk, os⟩ := I.laid (t' := tk) (o := exo a ca none) kk hsz (exo_ok hget)
  have hq : spGx X.K ii ns (.ref a :: vv) (upd H a (exo a ca none)) (fun v H2 => v = .non ∧ Q (.ref a) H2) E0 := by
    refine ⟨a, ca, vv, rfl, lv, OX, hf, upd_same, fun hn => ⟨rfl, ?_⟩, fun hne dx hdx hda => ⟨rfl, ?_⟩⟩
    · subst hn
      cases vv with
      | cons => simp at lv
      | nil =>
        cases rep
        obtain ⟨ex, S2⟩ := S.laid (o := exo a ca none) nil
        refine P _ _ _ _ _ _ ex S2 (.node (k := exK b c [] a) ?_ .nil) (h5.at a)
        have z : HoldK (CtxOf X) (upd F a (exo a ca none)) (.exc c []) a [] := ⟨ca, hmg, .inl ⟨rfl, rfl, upd_same⟩⟩
        cases b
        · exact z
        · exact ⟨rfl, z⟩
    · rw [exo_heap hda]
      have hdx' : H dx = none := by rw [upd_ne hda] at hdx; exact hdx
      obtain ⟨z1, z2⟩ := zip_parts lv
      obtain ⟨ex, S2⟩ := S.laid (o := exd dx (ns.zip vv.reverse)) hdx'
      obtain ⟨ex2, S3⟩ := S2.laid (p := a) (o := exo a ca (some dx)) (by rw [upd_ne hda.symm]; exact nil)
      refine P _ _ _ _ _ _ (ex.trans ex2) S3 (.node (k := exK b c ns a) ?_ ((rep.ext (ex.trans ex2)).reverse)) (h5.at a)
      have z : HoldK (CtxOf X) (upd (upd F dx (exd dx (ns.zip vv.reverse))) a (exo a ca (some dx))) (.exc c ns) a vv.reverse := ⟨ca, hmg, .inr ⟨dx, _, upd_same, by rw [upd_ne hda]; exact upd_same, z1, z2⟩⟩
      cases b
      · exact z
      · exact ⟨rfl, z⟩
  have few : us.length ≤ sizeLine := by rw [l1, sizeLine_eq]; omega
  have bound := hbd ⟨(hp.push (PySem.W.kdv_tup us)).push (excAt ca hp.objs.size), g, dr, tk, os⟩ a us ws I2.kIn l1 l2
  have walked := hfn.run _ X.stack _ _ ⟨Value.ref a :: us, ks.zip ws⟩ (Value.ref a :: pick is (us ++ ws)) (V.ref a :: vv) _ E0 ((G.rm.mono (by omega : 2 ≤ k + 2)).make ca us (ks.zip ws)) (I2.env0.make ca us (ks.zip ws)) bound (.cons rfl rvs) hq
  subst hA
  refine wpAny_call (own_run BB ho (I.kIn _ _ hC) (PySem.W.looks_findIn I.kIn hini) (fun self => PySem.W.bind_fn I.kIn self hty) few (codeAny_mono walked fun r s' hq' => ?_))
  cases r with
  | error er => exact hq'.elim
  | ok fl =>
    cases fl with
    | ret u =>
      obtain ⟨v, H', J, rv, ev, q2⟩ := I2.after (X := X) (pins := pins) (σ := σ) hq'
      subst ev
      exact ⟨rv, .ref (hp.objs.size + 1), H', J, rfl, q2⟩
    | next => exact False.elim hq'
    | brk => exact False.elim hq'
    | cont => exact False.elim hq'
theorem pd_mkGC (G : Good (k + 2) X W) (O : OxkG X.prog X.w X.K X.mg X.base c ns n [] is) (ha : PAD X W (e :: es) as) (hg : Gl X c := by rfl) (hdb : (c == ("__debug__" : Str)) = false := by decide)
    (he : starEach (e :: es) X.env = (false, eval e X.env) :: starEach es X.env := by rfl) (hpl : (backTo pos (starEach es X.env)).any (·.1) = false := by rfl) : PED X W (.Call (.Name c p) (e :: es) [] pos) (dMkG b c ns n 0 is as dNil) := by
  obtain ⟨ca, ii, fI, fd, ps, hm, OX, hini, hty, hfn, hf, hbd⟩ := O
  refine ⟨fun pins s σ H Q I ⟨F, ρ, κ, δ, XD, QD, S, R, h, P, PX⟩ => ?_⟩
  refine wpAny_Call_Name_kw (ld_glob I hg hm ?_ hdb)
  refine PySem.W.callWith_K (h₀ := X.base) I.ok.mod.kin OX.kC (thn (ha.run pos pins s σ H (fun vs H1 => ∃ F1 ρ1 κ1 xs, Ext F ρ F1 ρ1 ∧ StR (CtxOf X) F1 ρ1 κ1 H1 ∧ RepL (CtxOf X) F1 ρ1 xs vs ∧ cMk b c ns n 0 is xs [] κ1 QD) I
    ⟨F, ρ, κ, δ, XD, _, S, R, h, fun F1 ρ1 κ1 H1 xs vs e1 S1 R1 h1 => ⟨F1, ρ1, κ1, xs, e1, S1, R1, h1⟩, PX⟩) fun us s1 ⟨vs, H1, I1, r1, F2, ρ1, κ1, xs, e1, S1, R1, h1⟩ => ⟨I1.kIn, ?_⟩) he hpl
  exact run_mkG G I1 hm OX hini hty hfn hf hbd r1 .nil S1 R1 .nil h1 rfl (P.ext e1)
theorem pd_mkGK (G : Good (k + 2) X W) (O : OxkG X.prog X.w X.K X.mg X.base c ns 0 ks is) (hkw : PKD X W kws kw) (hg : Gl X c := by rfl) (hdb : (c == ("__debug__" : Str)) = false := by decide)
    (hall : (backToKw pos (keywordEach kws X.env)).all (·.1.isSome) = true := by rfl) (hks : (backToKw pos (keywordEach kws X.env)).filterMap (·.1) = ks := by rfl)
    (hpl : ((backTo pos (starEach [] X.env)).any (·.1) || (backToKw pos (keywordEach kws X.env)).any (·.1.isNone)) = false := by rfl) : PED X W (.Call (.Name c p) [] kws pos) (dMkG b c ns 0 ks.length is dNil kw) := by
  obtain ⟨ca, ii, fI, fd, ps, hm, OX, hini, hty, hfn, hf, hbd⟩ := O
  refine ⟨fun pins s σ H Q I ⟨F, ρ, κ, δ, XD, QD, S, R, h, P, PX⟩ => ?_⟩
  refine wpAny_Call_Name_kw (ld_glob I hg hm ?_ hdb)
  refine PySem.W.callWith_KW0 (h₀ := X.base) I.ok.mod.kin OX.kC hall (thn (hkw.run pos pins s σ H (fun zs H2 => ∃ F3 ρ3 κ3 ys, Ext F ρ F3 ρ3 ∧ StR (CtxOf X) F3 ρ3 κ3 H2 ∧ RepL (CtxOf X) F3 ρ3 ys zs ∧ cMk b c ns 0 ks.length is [] ys κ3 QD) I
    ⟨F, ρ, κ, δ, XD, _, S, R, h, fun F3 ρ3 κ3 H3 ys zs e3 S3 R3 h3 => ⟨F3, ρ3, κ3, ys, e3, S3, R3, h3⟩, PX⟩) fun ws s2 ⟨zs, H2, I2, rz, F3, ρ3, κ3, ys, e3, S3, R3, h3⟩ => ⟨I2.kIn, ?_⟩) hpl
  rw [hks]
  exact run_mkG G I2 hm OX hini hty hfn hf hbd .nil rz S3 .nil R3 h3 rfl (P.ext e3)
theorem pd_mkG0 (G : Good (k + 2) X W) (O : OxkG X.prog X.w X.K X.mg X.base c ns 0 [] is) (hg : Gl X c := by rfl) (hdb : (c == ("__debug__" : Str)) = false := by decide) : PED X W (.Call (.Name c p) [] [] pos) (dMkG b c ns 0 0 is dNil dNil) := by
  obtain ⟨ca, ii, fI, fd, ps, hm, OX, hini, hty, hfn, hf, hbd⟩ := O
  refine ⟨fun pins s σ H Q I ⟨F, ρ, κ, δ, XD, QD, S, R, h, P, PX⟩ => ?_⟩
  refine wpAny_Call_Name_kw (ld_glob I hg hm ?_ hdb)
  exact PySem.W.callWith_K0 I.kIn OX.kC (run_mkG (ws := []) G I hm OX hini hty hfn hf hbd .nil .nil S .nil .nil h rfl P)
end
end DL
/-! DOn: a field of an exception that is held as a value; == and != of one thing with itself (a dict, an exception). -/
namespace L2
open PySem PySem.Spec PyProof.Rows
def tXv (K : PySem.W.Frag) (n : Str) (te : TE) : TE := fun σ H Q => te σ H fun x H1 => ∃ (p C d : Addr) (fs : List (Str × V)) (v : V), x = .ref p ∧ XfC K C ∧ PySem.W.findIn K (.ref C) n = some none ∧ H1 p = some (exo p C (some d)) ∧ H1 d = some (exd d fs) ∧ fs.lookup n = some v ∧ Q v H1
theorem pe_xv {X : Cx} {e : Expr} {te : TE} {pos : Pos} {n : Str} (he : PE X e te) (hb : attributeBase e n X.env (eval e X.env) = eval e X.env := by rfl) : PE X (.Attribute e n pos) (tXv X.K n te) := by
  refine ⟨fun pins s σ H Q I h => attr_of hb (thn (he.run pins s σ H _ I h) fun u s1 ⟨x, H1, I1, rx, p, C, d, fs, v, ex, T, hno, hp, hd, l, q⟩ => ?_)⟩
  subst ex
  obtain rfl : u = Value.ref p := rx
  obtain ⟨t1, ho⟩ := exo_at I1.hok hp
  obtain ⟨mA, hns, hr⟩ := exd_at I1.hok hd
  obtain ⟨od, hod, hl⟩ := lookIn_ns hns
  obtain ⟨u, hu, ru⟩ := RelO.some_of (v := v) (o := mA n) (by rw [← l]; exact hr n)
  exact HandSPX.exc_get I1.kIn ⟨ho, rfl, rfl, hod⟩ T.ga T.gg T.exC (PySem.W.findObj_own T.hdC hno rfl (by rw [hl, hu])) (handed_of ru) ⟨v, H1, I1.tok _, ru, q⟩
/-- what an own class must have for its instances to be compared by object's own rules -/
structure NeC (K : PySem.W.Frag) (C : Addr) : Prop where
  hm : PySem.W.mroIn K C (.type "object") = some true
  hq : PySem.W.findIn K (.ref C) "__eq__" = some (some (.builtin "object.__eq__"))
  hn : PySem.W.findIn K (.ref C) "__ne__" = some (some (.builtin "object.__ne__"))
section
variable {M : Model} {prog : Program} {w : World} {A : Around} {E : Value → Shared → Prop} {s : Shared} {K : PySem.W.Frag} {x C : Addr} {ox : Obj} {od : Option Obj}
theorem ifBound_b {name : Str} {id : String} {args : List Value} {Q : Option Value → Shared → Prop} (X : K.In s.heap) (I : PySem.W.InstAt s.heap x ox C od) (hs : PySem.W.findIn K (.ref C) name = some (some (.builtin id))) (hb : ∀ self, bindSpecial (.builtin id) self = pure (.builtin id, [self]))
    (h : wpAny M A (call (.builtin id) (.ref x :: args)) (fun v => Q (some v)) E s) : wpAny M A (callSpecialIfBound? (.ref x) name args) Q E s := by
  simp only [callSpecialIfBound?, bindSpecialIfBound?]
  refine wpAny_holding (wpAny_bind (wpAny_bind (wpAny_bind (I.type.here ((PySem.W.looks_findIn X hs).here ?_)))))
  refine wpAny_bind (wpAny_askSetting (wpAny_ite ?_))
  have fin : wpAny M A (call (.builtin id) ([.ref x] ++ args) >>= fun v => pure (some v)) Q E s := wpAny_bind (wpAny_mono h (fun v s' h' => wpAny_pure h') fun _ _ h' => h')
  split
  · exact wpAny_bind (wpAny_of_eq (hb _) (wpAny_pure (by exact fin)))
  · exact wpAny_tryCatch (wpAny_bind (wpAny_of_eq (hb _) (wpAny_pure (by exact fin))))
theorem call_eqSelf {Q : Value → Shared → Prop} (X : K.In s.heap) (I : PySem.W.InstAt s.heap x ox C od) (hm : PySem.W.mroIn K C (.type "object") = some true) (hq : Q (.bool true) s) :
    wpAny (model prog w) A (call (.builtin "object.__eq__") [.ref x, .ref x]) Q E s :=
  wpAny_call (codeAny_call_builtin F.cmp_object.eq.plain F.cmpEntry_eq (PySem.W.check_slot F.cmpKind_eq F.cmpSplit_eq (I.type.andThen (PySem.W.looks_mroIn X hm)) (F.cmpArgs_eq _ _) (objEq_entry_same hq)))
theorem call_neSelf {Q : Value → Shared → Prop} (hu : A.units + 1 < cLine) (X : K.In s.heap) (I : PySem.W.InstAt s.heap x ox C od) (T : NeC K C) (hq : Q (.bool false) s) :
    wpAny (model prog w) A (call (.builtin "object.__ne__") [.ref x, .ref x]) Q E s := by
  refine wpAny_call (codeAny_call_builtin F.cmp_object.ne.plain F.cmpEntry_ne (PySem.W.check_slot F.cmpKind_ne F.cmpSplit_ne (I.type.andThen (PySem.W.looks_mroIn X T.hm)) (F.cmpArgs_ne _ _) ?_))
  unfold Builtin.«object.__ne__»
  have hu' : A.in1.units < cLine := hu
  repeat (first | with_reducible refine wpAny_cRoomFor hu' ?_ | with_reducible refine ifBound_b X I T.hq F.cmp_object.eq.bind (call_eqSelf X I T.hm ?_) | wp_step)
  exact hq
theorem rc_self (op : CmpOp) (r : Bool) (ho : (op = .Eq ∧ r = true) ∨ (op = .NotEq ∧ r = false)) {Q : Value → Shared → Prop} (hu : A.units + 1 < cLine) (X : K.In s.heap) (I : PySem.W.InstAt s.heap x ox C od) (T : NeC K C) (h : Q (.bool r) s) :
    wpAny (model prog w) A (richCompare op (.ref x) (.ref x)) Q E s := by
  have hu0 : A.units < cLine := Nat.lt_of_succ_lt hu
  have one : wpAny (model prog w) A (tryCompare (.ref x) (cmpInfo op).2.1 (.ref x)) (fun q s' => q = some (.bool r) ∧ s' = s) E s := by
    unfold tryCompare
    rcases ho with ⟨e1, e2⟩ | ⟨e1, e2⟩
    · subst e1 e2
      exact wpAny_bind (ifBound_b X I T.hq F.cmp_object.eq.bind (call_eqSelf X I T.hm (wpAny_pure ⟨rfl, rfl⟩)))
    · subst e1 e2
      exact wpAny_bind (ifBound_b X I T.hn F.cmp_object.ne.bind (call_neSelf hu X I T (wpAny_pure ⟨rfl, rfl⟩)))
  unfold richCompare
  simp only [oneThing_ref]
  refine wpAny_holding (wpAny_bind (wpAny_cRoomFor hu0 ?_))
  refine wpAny_bind (I.type.here (wpAny_bind (I.type.here ?_)))
  rw [if_neg (by simp)]
  refine wpAny_bind (wpAny_pure ?_)
  simp only [Bool.false_eq_true, if_false]
  refine wpAny_bind (wpAny_mono one (fun q s' z => ?_) fun _ _ e => e)
  obtain ⟨z1, z2⟩ := z
  subst z1 z2
  exact wpAny_pure h
theorem hits_self {Ky : Type} [DecidableEq Ky] {kb : List (Ky × Value)} (hn : (kb.map (·.1)).Nodup) : ∀ (n : Nat) (r : List (Ky × Value)), r = kb.drop n → PySem.W.KeqHits A s kb r true
  | n, [], _ => .nil
  | n, (k, v) :: r, e => by
    have hx : kb[n]? = some (k, v) := by
      have z : (kb.drop n)[0]? = some (k, v) := by rw [← e]; rfl
      rw [List.getElem?_drop] at z
      exact z
    have hr : r = kb.drop (n + 1) := by rw [← List.tail_drop, ← e]; rfl
    have z := PySem.W.KeqHits.hit (A := A) (s := s) (valueAt_of_get hn hx) (SeqAt.EqAt.same v) (hits_self hn (n + 1) r hr)
    exact z
end
/-- one thing, twice: a dict | an exception -/
def rSelf (K : PySem.W.Frag) (b : Bool) : R2 := fun x y H Q => ∃ a, x = .ref a ∧ y = .ref a ∧ ((∃ kvs, H a = some (.dK kvs)) ∨ (∃ C od, H a = some (exo a C od) ∧ NeC K C ∧ ∀ d, od = some d → ∃ fs, H d = some (exd d fs))) ∧ Q (.bl b) H
section
variable {X : Cx} {k : Nat}
theorem self_inst {pins : List (Addr × Obj)} {σ : L2.St} {H : Hp} {s : Shared} {a C : Addr} {od : Option Addr} (I : L2.Inv X pins σ H s) (h : H a = some (exo a C od)) (hd : ∀ d, od = some d → ∃ fs, H d = some (exd d fs)) : ∃ ox oo, PySem.W.InstAt s.heap a ox C oo := by
  obtain ⟨t1, ho⟩ := exo_at I.hok h
  cases od with
  | none => exact ⟨_, none, ho, rfl, rfl, trivial⟩
  | some d =>
    obtain ⟨fs, e⟩ := hd d rfl
    obtain ⟨mA, hns, _⟩ := exd_at I.hok e
    obtain ⟨od, hod, _⟩ := lookIn_ns hns
    exact ⟨_, some od, ho, rfl, rfl, hod⟩
theorem op_neSelf (hr : Room k X.A) : OpR X (compareOp .NotEq) (rSelf X.K false) := by
  intro pins s σ H x y v u Q I rx ry ⟨a, ex, ey, h, q⟩
  subst ex ey
  cases rx
  cases ry
  have hu : X.A.units + 64 < cLine := hr.units
  rcases h with ⟨kvs, h⟩ | ⟨C, od, h, T, hd⟩
  · obtain ⟨_, hs, vs, _, hD⟩ := dk_of I.hok h
    obtain ⟨o, es, ep, h1, h2, h3, h4, h5, hn⟩ := id hD
    refine PySem.W.keq_ne hs hs hD hD (by omega) (fun _ => hits_self hn 0 vs rfl) ?_
    rw [show (!(vs.length == vs.length && true)) = false by simp]
    exact ⟨.bl _, H, I, rfl, q⟩
  · obtain ⟨ox, oo, J⟩ := self_inst I h hd
    exact rc_self .NotEq false (.inr ⟨rfl, rfl⟩) (by omega) I.kIn J T ⟨.bl _, H, I, rfl, q⟩
end
end L2
namespace DL
open PySem PySem.Spec PyProof.Rows L2
/-! ### a field -/
def exPart : D → Option (Str × List Str × List D)
  | .node (.exc c ns) xs => some (c, ns, xs)
  | .node (.exa c ns _) xs => some (c, ns, xs)
  | _ => none
def dXv (xf : Str → Str → Bool) (f : Str) (a : DE) : DE := fun δ κ X Q => a δ κ X fun y κ1 => ∃ c ns xs d, exPart y = some (c, ns, xs) ∧ xf c f = true ∧ lookN ns xs f = some d ∧ Q d κ1
/-- an exception's place -/
theorem exPart_at {C : Ctx} {F : Hp} {ρ : Loc0} {κ : Kap} {H : Hp} {y : D} {v : V} {c : Str} {ns : List Str} {xs : List D} (S : StR C F ρ κ H) (r : Rep C F ρ y v) (h : exPart y = some (c, ns, xs)) :
    ∃ p vs ca, v = .ref p ∧ C.mg c = some (.ref ca) ∧ RepL C F ρ xs vs ∧ ((ns = [] ∧ vs = [] ∧ F p = some (exo p ca none)) ∨ ∃ (d : Addr) (fs : List (Str × V)), F p = some (exo p ca (some d)) ∧ F d = some (exd d fs) ∧ fs.map (·.1) = ns ∧ fs.map (·.2) = vs) := by
  cases y with
  | node k ys =>
    cases k with
    | exc c1 ns1 =>
      cases h
      cases r with
      | node hk rl =>
        obtain ⟨ca, h1, h2⟩ := hk
        exact ⟨_, _, ca, rfl, h1, rl, h2⟩
    | exa c1 ns1 a1 =>
      cases h
      cases r with
      | node hk rl =>
        obtain ⟨h0, ca, h1, h2⟩ := hk
        exact ⟨_, _, ca, rfl, h1, rl, h2⟩
    | _ => cases h
  | _ => cases h
section
variable {X : Cx} {W : WX} {f : Str} {e : Expr} {a : DE} {pos : Pos} {xf : Str → Str → Bool}
theorem pd_xv (T : XfOk X.K X.mg xf) (ha : PED X W e a) (hb : attributeBase e f X.env (eval e X.env) = eval e X.env := by rfl) : PED X W (.Attribute e f pos) (dXv xf f a) :=
  pe_weak (pe_xv ha hb) fun σ H Q ⟨F, ρ, κ, δ, XD, QD, S, R, h, P, PX⟩ => by
  refine ⟨F, ρ, κ, δ, XD, _, S, R, h, fun F1 ρ1 κ1 H1 x w e1 S1 r1 ⟨c, ns, xs, d, h1, h2, h3, h4⟩ => ?_, PX⟩
  obtain ⟨p, vs, ca, ew, hm, rl, hc⟩ := exPart_at S1 r1 h1
  subst ew
  obtain ⟨C', q1, q2, q3⟩ := T c f h2
  rw [show (CtxOf X).mg c = X.mg c from rfl, q1] at hm
  cases hm
  rcases hc with ⟨z1, z2, _⟩ | ⟨dd, fs, z1, z2, z3, z4⟩
  · subst z1
    cases xs <;> cases h3
  · subst z3 z4
    obtain ⟨u, l1, l2⟩ := lookN_at rl h3
    exact ⟨p, _, dd, fs, u, rfl, q2, q3, S1.sub _ _ z1, S1.sub _ _ z2, l1, P _ _ _ _ _ _ e1 S1 l2 h4⟩
end
/-! ### one thing with itself -/
/-- the one thing is a dict's cell, or an exception whose place is told -/
def selfD (nx : Str → Bool) (x : D) (κ : Kap) : Prop := match x with
  | .cell n => ∃ ks xs, κ n = some (.live (.dct ks) xs)
  | .node (.exa c _ _) _ => nx c = true
  | _ => False
def fNeX (nx : Str → Bool) : D2 := fun x y κ Q => fNe x y κ Q ∨ (x = y ∧ selfD nx x κ ∧ Q (.bl false) κ)
def NxOk (K : PySem.W.Frag) (mg : Str → Option Value) (nx : Str → Bool) : Prop := ∀ c, nx c = true → ∃ C, mg c = some (.ref C) ∧ NeC K C
section
variable {X : Cx} {W : WX} {k : Nat} {e1 e2 : Expr} {a b : DE} {pos : Pos} {nx : Str → Bool}
theorem selfD_at (T : NxOk X.K X.mg nx) {F : Hp} {ρ : Loc0} {κ : Kap} {H : Hp} {x : D} {v u : V} {t : Bool} {QD : DQ} {Q : VK} (S : StR (CtxOf X) F ρ κ H) (r1 : Rep (CtxOf X) F ρ x v) (r2 : Rep (CtxOf X) F ρ x u) (h : selfD nx x κ) (q : QD (.bl t) κ) (P : Post (CtxOf X) F ρ QD Q) : rSelf X.K t v u H Q := by
  cases x with
  | cell n =>
    obtain ⟨ks, xs, hn⟩ := h
    obtain ⟨p, vs, e1, _, ⟨kvs, h1, _⟩, _⟩ := cell_at S r1 hn
    cases r1 with
    | cell z1 =>
      cases r2 with
      | cell z2 =>
        rw [z1] at z2
        cases z2
        cases e1
        exact ⟨_, rfl, rfl, .inl ⟨kvs, h1⟩, P _ _ _ _ _ _ (Ext.refl _ _) S (.bl _) q⟩
  | node kd xs =>
    cases kd with
    | exa c ns a1 =>
      cases r1 with
      | node k1 l1 =>
        cases r2 with
        | node k2 l2 =>
          obtain ⟨z1, ca, z2, z3⟩ := k1
          obtain ⟨z4, _⟩ := k2
          subst z1
          subst z4
          obtain ⟨C, m1, m2⟩ := T c h
          rw [show (CtxOf X).mg c = X.mg c from rfl, m1] at z2
          cases z2
          refine ⟨_, rfl, rfl, .inr ?_, P _ _ _ _ _ _ (Ext.refl _ _) S (.bl _) q⟩
          rcases z3 with ⟨_, _, z⟩ | ⟨d, fs, y1, y2, _⟩
          · exact ⟨_, none, S.sub _ _ z, m2, fun d e => by cases e⟩
          · exact ⟨_, some d, S.sub _ _ y1, m2, fun d' e => by cases e; exact ⟨fs, S.sub _ _ y2⟩⟩
    | _ => exact h.elim
  | _ => exact h.elim
theorem sim_neX (T : NxOk X.K X.mg nx) : Sim2 (CtxOf X) (fNeX nx) (fun v u H Q => rDat (CtxOf X) (fun p q => !PyData.eqv p q) v u H Q ∨ rSelf X.K false v u H Q) := fun F ρ κ H x y v u QD Q S rx ry h P => by
  rcases h with h | ⟨e, h, q⟩
  · exact .inl (sim_dat F ρ κ H x y v u QD Q S rx ry h P)
  · subst e
    exact .inr (selfD_at T S rx ry h q P)
theorem pt_neX (g : Good k X W) (T : NxOk X.K X.mg nx) (ha : PED X W e1 a) (hb : PED X W e2 b) : PTD X W (.Compare e1 [.NotEq] [e2] pos) (tBl (dOp (fNeX nx) a b)) := pt_cmpD (OpR.or (op_neDat g) (op_neSelf g.rm)) (sim_neX T) ha hb
end
end DL
/-! DOp: isinstance of own exceptions by a table of lines: which own classes and which built-in ones stand above each. -/
namespace DL
open PySem PySem.Spec PyProof.Rows L2 GX
/-- an own class of exceptions: the own ones above it, the built-in ones above these -/
structure XRow where
  c : Str
  up : List Str
  tl : List String
def ktX (rows : List XRow) (own : List Str) (bts : List String) : KTab := fun t u => match t with
  | .e c => match rows.find? fun r => decide (r.c = c) with
    | none => none
    | some r => match u with
      | .c d => if d ∈ own then some (decide (d = r.c ∨ d ∈ r.up)) else none
      | .b n => if n ∈ bts then some (decide (n ∈ r.tl)) else none
  | _ => none
def ktJ (a b : KTab) : KTab := fun t u => match a t u with
  | some v => some v
  | none => b t u
theorem kitJ {K : PySem.W.Frag} {mg : Str → Option Value} {a b : KTab} (A : KitT K mg a) (B : KitT K mg b) : KitT K mg (ktJ a b) := by
  have cut : ∀ {t : TyK} {u : CK} {v : Bool}, ktJ a b t u = some v → a t u = some v ∨ b t u = some v := fun {t u v} h => by
    unfold ktJ at h
    split at h
    · rename_i w e
      exact .inl (e.trans h)
    · exact .inr h
  exact ⟨fun t u v h => (cut h).elim (A.ok t u v) (B.ok t u v), fun c u v h => (cut h).elim (A.obj c u v) (B.obj c u v), fun c u v h => (cut h).elim (A.exc c u v) (B.exc c u v)⟩
theorem inj_nodup : ∀ {l : List (Str × Addr)}, (l.map (·.2)).Nodup → ∀ p ∈ l, ∀ q ∈ l, p.2 = q.2 → p = q
  | [], _, p, hp, _, _, _ => nomatch hp
  | x :: l, h, p, hp, q, hq, e => by
    rw [List.map_cons, List.nodup_cons] at h
    rcases List.mem_cons.mp hp with a | a <;> rcases List.mem_cons.mp hq with b | b
    · rw [a, b]
    · subst a
      exact absurd (List.mem_map.mpr ⟨q, b, e.symm⟩) h.1
    · subst b
      exact absurd (List.mem_map.mpr ⟨p, a, e⟩) h.1
    · exact inj_nodup h.2 p a q b e
/-- a row, told rightly -/
structure XRowOk (K : PySem.W.Frag) (mg : Str → Option Value) (own : List (Str × Addr)) (r : XRow) : Prop where
  ex : ∃ (C : Addr) (ups : List (Str × Addr)) (nm q : Str) (N : Addr) (bs : List Value) (sn : List Str) (sub : List Value) (ab : Bool) (col : Option Bool) (dd : Option Addr) (k0 k1 k2 k3 k5 : Option Value) (ni : String),
    (r.c, C) ∈ own ∧ (∀ p ∈ ups, p ∈ own) ∧ r.up = ups.map (·.1) ∧
    K.lookup C = some (excClassObj nm q C N bs (ups.map (fun p => Value.ref p.2) ++ r.tl.map Value.type) true sn sub ab col dd k0 k1 k2 k3 k5 ni) ∧ L2.ExcC K C
section
variable {K : PySem.W.Frag} {mg : Str → Option Value} {own : List (Str × Addr)} {rows : List XRow} {bts : List String}
theorem kitX_of (hm : ∀ p ∈ own, mg p.1 = some (.ref p.2) ∧ (PySem.W.clsIn K p.2).isSome = true ∧ PySem.W.typeIn K (.ref p.2) = some (.type "type")) (hn : (own.map (·.2)).Nodup) (hb : ∀ n ∈ bts, PySem.W.kitMeta n = true) (hr : ∀ r ∈ rows, XRowOk K mg own r) :
    KitT K mg (ktX rows (own.map (·.1)) bts) := by
  have row : ∀ {t : TyK} {u : CK} {v : Bool}, ktX rows (own.map (·.1)) bts t u = some v → ∃ r ∈ rows, t = .e r.c ∧ ((∃ d, u = .c d ∧ d ∈ own.map (·.1) ∧ v = decide (d = r.c ∨ d ∈ r.up)) ∨ ∃ n, u = .b n ∧ n ∈ bts ∧ v = decide (n ∈ r.tl)) := by
    intro t u v h
    cases t with
    | e c =>
      unfold ktX at h
      dsimp only at h
      cases ef : rows.find? fun r => decide (r.c = c) with
      | none => rw [ef] at h; cases h
      | some r =>
        rw [ef] at h
        have h1 := List.mem_of_find?_eq_some ef
        have h2' := List.find?_some ef
        have h2 : r.c = c := of_decide_eq_true h2'
        subst h2
        refine ⟨r, h1, rfl, ?_⟩
        cases u with
        | c d =>
          dsimp only at h
          split at h
          · rename_i z
            cases h
            exact .inl ⟨d, rfl, z, rfl⟩
          · cases h
        | b n =>
          dsimp only at h
          split at h
          · rename_i z
            cases h
            exact .inr ⟨n, rfl, z, rfl⟩
          · cases h
    | _ => cases h
  refine ⟨fun t u v h tv uv h1 h2 => ?_, fun c u v h => ?_, fun c u v h ca hc => ?_⟩
  · obtain ⟨r, hrm, et, hu⟩ := row h
    subst et
    obtain ⟨C, ups, nm, q, N, bs, sn, sub, ab, col, dd, k0, k1, k2, k3, k5, ni, x1, x2, x3, x4, x5⟩ := (hr r hrm).ex
    obtain ⟨ca, y1, y2⟩ := h1
    rw [(hm _ x1).1] at y1
    cases y1
    subst y2
    have hcl : PySem.W.clsIn K C = some { name := nm, bases := bs, mro := .ref C :: (ups.map (fun p => Value.ref p.2) ++ r.tl.map Value.type), ns := N, qualname := q, hasDict := true, slotNames := sn, subclasses := sub, abstract := ab, collection := col, hasDel := false } := by unfold PySem.W.clsIn; rw [x4] <;> rfl
    have hsub : ∀ b : Value, PySem.W.subIn K (.ref C) b = some ((Value.ref C :: (ups.map (fun p => Value.ref p.2) ++ r.tl.map Value.type)).contains b) := fun b => by
      show PySem.W.mroIn K C b = _
      unfold PySem.W.mroIn
      rw [hcl]
      rfl
    rcases hu with ⟨d, eu, hd, ev⟩ | ⟨n, eu, hn', ev⟩
    · subst eu
      obtain ⟨da, y3, y4⟩ := h2
      obtain ⟨p, hp, ep⟩ := List.mem_map.mp hd
      subst ep
      rw [(hm p hp).1] at y3
      cases y3
      subst y4
      have key : (Value.ref C :: (ups.map (fun p => Value.ref p.2) ++ r.tl.map Value.type)).contains (.ref p.2) = decide (p.1 = r.c ∨ p.1 ∈ r.up) := by
        rw [Bool.eq_iff_iff, List.contains_iff_mem, decide_eq_true_iff, List.mem_cons, List.mem_append, List.mem_map, List.mem_map, x3, List.mem_map]
        constructor
        · rintro (e | ⟨z, hz, e⟩ | ⟨z, _, e⟩)
          · cases e
            exact .inl (congrArg Prod.fst (inj_nodup hn p hp _ x1 rfl))
          · injection e with e
            exact .inr ⟨z, hz, congrArg Prod.fst (inj_nodup hn z (x2 z hz) p hp e)⟩
          · cases e
        · rintro (e | ⟨z, hz, e⟩)
          · have q1 := (hm p hp).1
            rw [e, (hm _ x1).1] at q1
            injection q1 with q1
            exact .inl q1.symm
          · have q1 := (hm z (x2 z hz)).1
            rw [e, (hm p hp).1] at q1
            injection q1 with q1
            exact .inr (.inl ⟨z, hz, q1.symm⟩)
      unfold PySem.W.kitOne
      split
      · rename_i e
        have e' := eq_of_beq e
        cases e'
        rw [ev, ← key]
        simp
      · unfold PySem.W.kitCls
        dsimp only
        rw [if_pos (by rw [(hm p hp).2.1, (hm p hp).2.2]; rfl), hsub, key, ev]
    · subst eu
      have h2' : uv = .type n := h2
      subst h2'
      have key : (Value.ref C :: (ups.map (fun p => Value.ref p.2) ++ r.tl.map Value.type)).contains (.type n) = decide (n ∈ r.tl) := by
        rw [Bool.eq_iff_iff, List.contains_iff_mem, decide_eq_true_iff, List.mem_cons, List.mem_append, List.mem_map, List.mem_map]
        constructor
        · rintro (e | ⟨z, hz, e⟩ | ⟨z, hz, e⟩)
          · cases e
          · cases e
          · cases e
            exact hz
        · intro e
          exact .inr (.inr ⟨n, e, rfl⟩)
      unfold PySem.W.kitOne
      rw [if_neg (by intro z; cases eq_of_beq z)]
      unfold PySem.W.kitCls
      dsimp only
      rw [if_pos (hb n hn'), hsub, key, ev]
  · obtain ⟨r, _, et, _⟩ := row h
    cases et
  · obtain ⟨r, hrm, et, _⟩ := row h
    cases et
    obtain ⟨C, ups, nm, q, N, bs, sn, sub, ab, col, dd, k0, k1, k2, k3, k5, ni, x1, x2, x3, x4, x5⟩ := (hr r hrm).ex
    rw [(hm _ x1).1] at hc
    cases hc
    exact x5
end
/-! ### what the top has left -/
section
variable {K : PySem.W.Frag} {mg : Str → Option Value} {h : Heap}
theorem oxG_of {ni ii : String} {tl : List Value} {C : Addr} {nm q : Str} {N : Addr} {bs bm : List Value} {sn : List Str} {sub : List Value} {ab : Bool} {col : Option Bool} {dd : Option Addr} {m0 m1 m2 m3 m5 : Option Value} (B : BX ni ii tl)
    (xL : K.lookup C = some (excClassObj nm q C N bs bm true sn sub ab col dd m0 m1 m2 m3 m5 ni)) (hb : ownThen tl bm = true) (sa : PySem.W.findIn K (.ref C) "__setattr__" = some (some (.builtin "object.__setattr__"))) (k : PySem.W.keepIn K (.ref C) = true) : OxG K ii C :=
  ⟨⟨ni, tl, nm, q, N, bs, bm, sn, sub, ab, col, dd, m0, m1, m2, m3, m5, B, xL, hb⟩, sa, k⟩
theorem baseG_of {ii : String} {x : Str} {ca : Addr} (X : K.In h) (G : h.Ns mainGlobals mg) (a : PySem.W.nsIn K mainGlobals x = some (some (.ref ca))) (ga : PySem.W.specialIn K (.ref ca) "__getattribute__" = some (some (.builtin "type.__getattribute__")))
    (rd : PySem.W.readsIn K ca (.type "type") = true) (fi : PySem.W.findCls K (.ref ca) (.type "type") "__init__" = some (.val (.builtin ii))) : BaseG K mg x ca ii := ⟨PySem.W.mg_of X G a, ga, rd, fi⟩
theorem oxkG_of {P : Program} {w : World} {base : Heap} {c : Str} {ns ks ps : List Str} {n : Nat} {is : List Nat} {ca fI : Addr} {ii : String} {qual : Str} {st : Stmt} {fd : FuncData} (m : mg c = some (.ref ca)) (O : OxG K ii ca) (i1 : PySem.W.findIn K (.ref ca) "__init__" = some (some (.ref fI)))
    (i2 : PySem.W.typeIn K (.ref fI) = some (.type "function")) (F : Fun K "__init__" qual st fI fd) (hfn : FnOk P w K mg base CX0 1 fI fd ps (spGx K ii ns)) (hf : ∀ f ∈ ns, PySem.W.findIn K (.ref ca) f = some none)
    (hbind : ∀ (kV doc pm : Value) (an : Option Addr) (cdv ct : Value) (a : Addr) (us ws : List Value), us.length = n → ws.length = ks.length → bindArgs (PySem.W.fnOf "__init__" qual (defArgs st) (defBody st) (defScope st) .none kV doc pm an cdv ct) ⟨.ref a :: us, ks.zip ws⟩ = pure (ps.zip (.ref a :: pick is (us ++ ws)))) :
    OxkG P w K mg base c ns n ks is := by
  obtain ⟨oc, od, kV, doc, pm, an, cdv, ct, osl, rfl, lk, hcd⟩ := F.ex
  exact ⟨ca, ii, fI, _, ps, m, O, i1, i2, hfn, hf, fun s a us ws _ l1 l2 => .of_eq (hbind kV doc pm an cdv ct a us ws l1 l2)⟩
theorem xrow_of {c : Str} {tl : List String} {ups own : List (Str × Addr)} {C : Addr} {nm q : Str} {N : Addr} {bs : List Value} {sn : List Str} {sub : List Value} {ab : Bool} {col : Option Bool} {dd : Option Addr} {m0 m1 m2 m3 m5 : Option Value} {ni : String}
    (xL : K.lookup C = some (excClassObj nm q C N bs (ups.map (fun p => Value.ref p.2) ++ tl.map Value.type) true sn sub ab col dd m0 m1 m2 m3 m5 ni)) (ho : (c, C) ∈ own) (hu : ∀ p ∈ ups, p ∈ own) (e : L2.ExcC K C) : XRowOk K mg own ⟨c, ups.map (·.1), tl⟩ :=
  ⟨⟨C, ups, nm, q, N, bs, sn, sub, ab, col, dd, m0, m1, m2, m3, m5, ni, ho, hu, rfl, xL, e⟩⟩
theorem neC_of {C : Addr} (a : PySem.W.mroIn K C (.type "object") = some true) (b : PySem.W.findIn K (.ref C) "__eq__" = some (some (.builtin "object.__eq__"))) (c : PySem.W.findIn K (.ref C) "__ne__" = some (some (.builtin "object.__ne__"))) : NeC K C := ⟨a, b, c⟩
theorem nxOk_of {ns : List Str} (h : ∀ c ∈ ns, ∃ C, mg c = some (.ref C) ∧ NeC K C) : NxOk K mg (fun c => decide (c ∈ ns)) := fun c hc => h c (of_decide_eq_true hc)
end
end DL
namespace DL
open PySem PySem.Spec PyProof.Rows L2
section
variable {K : PySem.W.Frag} {C : Addr} {nm q : Str} {N : Addr} {bs bm : List Value} {sn : List Str} {sub : List Value} {ab : Bool} {col : Option Bool} {dd : Option Addr} {m0 m1 m2 m3 m5 : Option Value} {ni : String}
theorem xl_cls (xL : K.lookup C = some (excClassObj nm q C N bs bm true sn sub ab col dd m0 m1 m2 m3 m5 ni)) : PySem.W.clsIn K C = some { name := nm, bases := bs, mro := .ref C :: bm, ns := N, qualname := q, hasDict := true, slotNames := sn, subclasses := sub, abstract := ab, collection := col, hasDel := false } := by
  unfold PySem.W.clsIn; rw [xL] <;> rfl
theorem xl_mro (xL : K.lookup C = some (excClassObj nm q C N bs bm true sn sub ab col dd m0 m1 m2 m3 m5 ni)) {b : Value} (h : bm.contains b = true) : PySem.W.mroIn K C b = some true := by
  unfold PySem.W.mroIn
  rw [xl_cls xL]
  show some ((Value.ref C :: bm).contains b) = some true
  rw [List.contains_cons, h, Bool.or_true]
theorem xl_dict (xL : K.lookup C = some (excClassObj nm q C N bs bm true sn sub ab col dd m0 m1 m2 m3 m5 ni)) : PySem.W.hasDictIn K C = true := by
  unfold PySem.W.hasDictIn
  rw [xl_cls xL] <;> rfl
theorem xl_own (xL : K.lookup C = some (excClassObj nm q C N bs bm true sn sub ab col dd m0 m1 m2 m3 m5 ni)) : (PySem.W.clsIn K C).isSome = true ∧ PySem.W.typeIn K (.ref C) = some (.type "type") := by
  refine ⟨by rw [xl_cls xL]; rfl, ?_⟩
  show (K.lookup C).map (·.cls) = _
  rw [xL] <;> rfl
theorem cls_some {C : Addr} (h : PySem.W.hasDictIn K C = true) : (PySem.W.clsIn K C).isSome = true := by
  obtain ⟨cd, h1, _⟩ := PySem.W.any_some h
  rw [h1]
  rfl
end
/-! ### facts of a class, at once -/
section
variable {K : PySem.W.Frag} {C I : Addr} {cd : Value} {q : Str} {fs : List Str}
def excF (K : PySem.W.Frag) (C : Addr) : Bool :=
  decide (PySem.W.findIn K (.ref C) "__setattr__" = some (some (.builtin "object.__setattr__"))) && (decide (PySem.W.findIn K (.ref C) "__getattribute__" = some (some (.builtin "BaseException.__getattribute__"))) &&
    (decide (PySem.W.findIn K (.ref C) "__getattr__" = some none) && (decide (PySem.W.findIn K (.ref C) "__class__" = some (some (.builtin "object.__class__"))) && PySem.W.keepIn K (.ref C))))
theorem excF_all (h : excF K C = true) : PySem.W.findIn K (.ref C) "__setattr__" = some (some (.builtin "object.__setattr__")) ∧ PySem.W.findIn K (.ref C) "__getattribute__" = some (some (.builtin "BaseException.__getattribute__")) ∧
    PySem.W.findIn K (.ref C) "__getattr__" = some none ∧ PySem.W.findIn K (.ref C) "__class__" = some (some (.builtin "object.__class__")) ∧ PySem.W.keepIn K (.ref C) = true := by
  unfold excF at h
  rw [Bool.and_eq_true, Bool.and_eq_true, Bool.and_eq_true, Bool.and_eq_true] at h
  exact ⟨of_decide_eq_true h.1, of_decide_eq_true h.2.1, of_decide_eq_true h.2.2.1, of_decide_eq_true h.2.2.2.1, h.2.2.2.2⟩
theorem excF_s (h : excF K C = true) : PySem.W.findIn K (.ref C) "__setattr__" = some (some (.builtin "object.__setattr__")) := (excF_all h).1
theorem excF_g (h : excF K C = true) : PySem.W.findIn K (.ref C) "__getattribute__" = some (some (.builtin "BaseException.__getattribute__")) := (excF_all h).2.1
theorem excF_a (h : excF K C = true) : PySem.W.findIn K (.ref C) "__getattr__" = some none := (excF_all h).2.2.1
theorem excF_c (h : excF K C = true) : PySem.W.findIn K (.ref C) "__class__" = some (some (.builtin "object.__class__")) := (excF_all h).2.2.2.1
theorem excF_k (h : excF K C = true) : PySem.W.keepIn K (.ref C) = true := (excF_all h).2.2.2.2
def iniF (K : PySem.W.Frag) (C I : Addr) (cd : Value) (q : Str) (fs : List Str) : Bool :=
  decide (PySem.W.typeIn K (.ref I) = some (.type "function")) && (PySem.W.codeIn K cd q && (PySem.W.keepIn K (.ref I) && fs.all fun f => decide (PySem.W.findIn K (.ref C) f = some none)))
theorem iniF_all (h : iniF K C I cd q fs = true) : PySem.W.typeIn K (.ref I) = some (.type "function") ∧ PySem.W.codeIn K cd q = true ∧ PySem.W.keepIn K (.ref I) = true ∧ ∀ f, f ∈ fs → PySem.W.findIn K (.ref C) f = some none := by
  unfold iniF at h
  rw [Bool.and_eq_true, Bool.and_eq_true, Bool.and_eq_true] at h
  exact ⟨of_decide_eq_true h.1, h.2.1, h.2.2.1, fun f hf => of_decide_eq_true (List.all_eq_true.mp h.2.2.2 f hf)⟩
theorem iniF_t (h : iniF K C I cd q fs = true) : PySem.W.typeIn K (.ref I) = some (.type "function") := (iniF_all h).1
theorem iniF_c (h : iniF K C I cd q fs = true) : PySem.W.codeIn K cd q = true := (iniF_all h).2.1
theorem iniF_k (h : iniF K C I cd q fs = true) : PySem.W.keepIn K (.ref I) = true := (iniF_all h).2.2.1
theorem iniF_f (h : iniF K C I cd q fs = true) (f : Str) (hf : f ∈ fs) : PySem.W.findIn K (.ref C) f = some none := (iniF_all h).2.2.2 f hf
end
end DL
namespace L_k13
open PySem PySem.Spec PyProof.Rows L2 DL
def topS (i : Nat) : Stmt := PySem.Challenge.pw_hintedpoints_k13_refusals_by_names.main.body.getD i (.Pass ⟨0, 0, 0, 0⟩)
def ktab : List KRow := []
def xrowsT : List XRow := [XRow.mk "Crossed" (["FontError"] : List Str) (["ValueError", "Exception", "BaseException", "object"] : List String), XRow.mk "Deep" (["FontError"] : List Str) (["ValueError", "Exception", "BaseException", "object"] : List String), XRow.mk "Fault" (["FontError"] : List Str) (["ValueError", "Exception", "BaseException", "object"] : List String), XRow.mk "NoBase" ([] : List Str) (["ZeroDivisionError", "ArithmeticError", "Exception", "BaseException", "object"] : List String), XRow.mk "NoCells" (["FontError"] : List Str) (["ValueError", "Exception", "BaseException", "object"] : List String), XRow.mk "NoChoices" (["FontError"] : List Str) (["ValueError", "Exception", "BaseException", "object"] : List String), XRow.mk "NoDefinition" (["Unknown"] : List Str) (["KeyError", "LookupError", "Exception", "BaseException", "object"] : List String), XRow.mk "NoEntry" (["Missing"] : List Str) (["LookupError", "Exception", "BaseException", "object"] : List String), XRow.mk "NoFont" (["FontError"] : List Str) (["ValueError", "Exception", "BaseException", "object"] : List String), XRow.mk "NoLetter" (["FontError"] : List Str) (["ValueError", "Exception", "BaseException", "object"] : List String), XRow.mk "NoLimit" (["FontError"] : List Str) (["ValueError", "Exception", "BaseException", "object"] : List String), XRow.mk "NoLine" (["FontError"] : List Str) (["ValueError", "Exception", "BaseException", "object"] : List String), XRow.mk "NoName" (["FontError"] : List Str) (["ValueError", "Exception", "BaseException", "object"] : List String), XRow.mk "NoNumber" (["FontError"] : List Str) (["ValueError", "Exception", "BaseException", "object"] : List String), XRow.mk "NoOutline" (["FontError"] : List Str) (["ValueError", "Exception", "BaseException", "object"] : List String), XRow.mk "NoParts" (["FontError"] : List Str) (["ValueError", "Exception", "BaseException", "object"] : List String), XRow.mk "NoPlace" (["FontError"] : List Str) (["ValueError", "Exception", "BaseException", "object"] : List String), XRow.mk "NoPoint" (["FontError"] : List Str) (["ValueError", "Exception", "BaseException", "object"] : List String), XRow.mk "NoProgram" (["FontError"] : List Str) (["ValueError", "Exception", "BaseException", "object"] : List String), XRow.mk "NoRound" (["FontError"] : List Str) (["ValueError", "Exception", "BaseException", "object"] : List String), XRow.mk "NoRow" (["FontError"] : List Str) (["ValueError", "Exception", "BaseException", "object"] : List String), XRow.mk "NoSize" (["FontError"] : List Str) (["ValueError", "Exception", "BaseException", "object"] : List String), XRow.mk "NoSuch" (["Unknown"] : List Str) (["KeyError", "LookupError", "Exception", "BaseException", "object"] : List String), XRow.mk "NoText" (["FontError"] : List Str) (["ValueError", "Exception", "BaseException", "object"] : List String), XRow.mk "NoWay" (["FontError"] : List Str) (["ValueError", "Exception", "BaseException", "object"] : List String), XRow.mk "NoWord" (["FontError"] : List Str) (["ValueError", "Exception", "BaseException", "object"] : List String), XRow.mk "NoWorths" (["FontError"] : List Str) (["ValueError", "Exception", "BaseException", "object"] : List String), XRow.mk "NoZone" (["FontError"] : List Str) (["ValueError", "Exception", "BaseException", "object"] : List String), XRow.mk "TooMany" (["FontError"] : List Str) (["ValueError", "Exception", "BaseException", "object"] : List String), XRow.mk "Unready" (["Missing"] : List Str) (["LookupError", "Exception", "BaseException", "object"] : List String)]
def xown : List Str := [("Crossed" : Str), ("Deep" : Str), ("Fault" : Str), ("FontError" : Str), ("Missing" : Str), ("NoBase" : Str), ("NoCells" : Str), ("NoChoices" : Str), ("NoDefinition" : Str), ("NoEntry" : Str), ("NoFont" : Str), ("NoLetter" : Str), ("NoLimit" : Str), ("NoLine" : Str), ("NoName" : Str), ("NoNumber" : Str), ("NoOutline" : Str), ("NoParts" : Str), ("NoPlace" : Str), ("NoPoint" : Str), ("NoProgram" : Str), ("NoRound" : Str), ("NoRow" : Str), ("NoSize" : Str), ("NoSuch" : Str), ("NoText" : Str), ("NoWay" : Str), ("NoWord" : Str), ("NoWorths" : Str), ("NoZone" : Str), ("TooMany" : Str), ("Unknown" : Str), ("Unready" : Str)]
def xbts : List String := ["list", "tuple", "dict"]
def kt : KTab := ktJ (ktX xrowsT xown xbts) (ktOf ktab)
def nx : Str → Bool := fun c => decide (c ∈ (["NoName"] : List Str))
def xftab : List (Str × Str) := [("Crossed", "one"), ("Crossed", "other"), ("Deep", "at"), ("Fault", "done"), ("Fault", "why"), ("NoBase", "found"), ("NoCells", "found"), ("NoChoices", "found"), ("NoDefinition", "found"), ("NoEntry", "found"), ("NoFont", "found"), ("NoLetter", "found"), ("NoLimit", "found"), ("NoLine", "found"), ("NoName", "found"), ("NoNumber", "found"), ("NoOutline", "found"), ("NoParts", "found"), ("NoPlace", "found"), ("NoPoint", "found"), ("NoProgram", "found"), ("NoRound", "found"), ("NoRow", "at"), ("NoSize", "found"), ("NoSuch", "found"), ("NoText", "found"), ("NoWay", "found"), ("NoWord", "found"), ("NoWorths", "found"), ("NoZone", "found"), ("TooMany", "many")]
def xf : Str → Str → Bool := xfOf xftab
structure Tz (K : PySem.W.Frag) (mg : Str → Option Value) : Prop where
  kit : KitT K mg kt
  xf : XfOk K mg xf
  nx : NxOk K mg nx
  z_dict : mg "dict" = none
  z_isinstance : mg "isinstance" = none
  z_len : mg "len" = none
  z_list : mg "list" = none
  z_max : mg "max" = none
  z_min : mg "min" = none
  z_range : mg "range" = none
  z_tuple : mg "tuple" = none
  c_Crossed : ∃ ca, mg "Crossed" = some (.ref ca)
  c_Deep : ∃ ca, mg "Deep" = some (.ref ca)
  c_Fault : ∃ ca, mg "Fault" = some (.ref ca)
  c_NoBase : ∃ ca, mg "NoBase" = some (.ref ca)
  c_NoCells : ∃ ca, mg "NoCells" = some (.ref ca)
  c_NoChoices : ∃ ca, mg "NoChoices" = some (.ref ca)
  c_NoDefinition : ∃ ca, mg "NoDefinition" = some (.ref ca)
  c_NoEntry : ∃ ca, mg "NoEntry" = some (.ref ca)
  c_NoFont : ∃ ca, mg "NoFont" = some (.ref ca)
  c_NoLetter : ∃ ca, mg "NoLetter" = some (.ref ca)
  c_NoLimit : ∃ ca, mg "NoLimit" = some (.ref ca)
  c_NoLine : ∃ ca, mg "NoLine" = some (.ref ca)
  c_NoName : ∃ ca, mg "NoName" = some (.ref ca)
  c_NoNumber : ∃ ca, mg "NoNumber" = some (.ref ca)
  c_NoOutline : ∃ ca, mg "NoOutline" = some (.ref ca)
  c_NoParts : ∃ ca, mg "NoParts" = some (.ref ca)
  c_NoPlace : ∃ ca, mg "NoPlace" = some (.ref ca)
  c_NoPoint : ∃ ca, mg "NoPoint" = some (.ref ca)
  c_NoProgram : ∃ ca, mg "NoProgram" = some (.ref ca)
  c_NoRound : ∃ ca, mg "NoRound" = some (.ref ca)
  c_NoRow : ∃ ca, mg "NoRow" = some (.ref ca)
  c_NoSize : ∃ ca, mg "NoSize" = some (.ref ca)
  c_NoSuch : ∃ ca, mg "NoSuch" = some (.ref ca)
  c_NoText : ∃ ca, mg "NoText" = some (.ref ca)
  c_NoWay : ∃ ca, mg "NoWay" = some (.ref ca)
  c_NoWord : ∃ ca, mg "NoWord" = some (.ref ca)
  c_NoWorths : ∃ ca, mg "NoWorths" = some (.ref ca)
  c_NoZone : ∃ ca, mg "NoZone" = some (.ref ca)
  c_TooMany : ∃ ca, mg "TooMany" = some (.ref ca)
  c_Unready : ∃ ca, mg "Unready" = some (.ref ca)
/-! _law_cell -/
abbrev s__law_cell : Stmt := topS 35
theorem sc__law_cell : FnScope ["_law_script", "_law_k"] ["_law_script", "_law_k"] (defScope s__law_cell) := ⟨rfl, rfl, rfl, by decide +kernel, rfl, by decide +kernel, by decide +kernel⟩
def b__law_cell : DS := (sSeq (sIf (tBl (dOp fLtS (dVar 1) (dB fLen (dCons (dVar 0) dNil)))) (sRet (dOp fIx (dVar 0) (dVar 1))) sNil) (sRet (dOp (fAdd false) (dOp fMulI (dC (.int 15486277)) (dVar 1)) (dC (.int 41)))))
def sp__law_cell : DSp := spOf 2 2 b__law_cell
theorem fn__law_cell {P : Program} {w : World} {K : PySem.W.Frag} {mg : Str → Option Value} {base : Heap} {f : Addr} {fd : FuncData} (T : Tz K mg) (D : DefAt K mg "_law_cell" s__law_cell f fd) (sm : ∃ o, base.get? sysModules = some o)  : FnG P w K mg base 1 f fd ["_law_script", "_law_k"] sp__law_cell :=
  Fn_ok (k := 0) (b := b__law_cell) D.F sc__law_cell sm fun cdv A outer s H E G => (sd_cons (sd_if (pt_lt (pd_var 1) (pd_callB call_len sim_len T.z_len (pa_consD (pd_var 0) pa_nilD))) (sd_one (sd_ret (pd_ix (pd_var 0) (pd_var 1)))) sd_nil) (sd_one (sd_ret (pd_add false (pd_mulI pd_int (pd_var 1)) pd_int))))
theorem ok__law_cell {P : Program} {w : World} {K : PySem.W.Frag} {mg : Str → Option Value} {base : Heap} {f : Addr} {fd : FuncData} (T : Tz K mg) (D : DefAt K mg "_law_cell" s__law_cell f fd) (sm : ∃ o, base.get? sysModules = some o)  : Ok P w K mg base 1 "_law_cell" ["_law_script", "_law_k"] sp__law_cell := ok_mk D (fn__law_cell T D sm ) (fun _ _ _ _ _ _ us hl => match us, hl with | [_, _], _ => rfl)
/-! _law_box -/
abbrev s__law_box : Stmt := topS 36
theorem sc__law_box : FnScope ["_law_cell_here"] ["_law_cell_here"] (defScope s__law_box) := ⟨rfl, rfl, rfl, by decide +kernel, rfl, by decide +kernel, by decide +kernel⟩
def b__law_box : DS := (sRet (dLst true (dCons (dB fMax2 (dCons (dC (.int 0)) (dCons (dOp fSub (dVar 0) (dOp fPow (dC (.int 10)) (dC (.int 18)))) dNil))) (dCons (dOp fMod (dVar 0) (dC (.int 2147483629))) (dCons (dC (.int 0)) dNil)))))
def sp__law_box : DSp := spOf 1 1 b__law_box
theorem fn__law_box {P : Program} {w : World} {K : PySem.W.Frag} {mg : Str → Option Value} {base : Heap} {f : Addr} {fd : FuncData} (T : Tz K mg) (D : DefAt K mg "_law_box" s__law_box f fd) (sm : ∃ o, base.get? sysModules = some o)  : FnG P w K mg base 1 f fd ["_law_cell_here"] sp__law_box :=
  Fn_ok (k := 0) (b := b__law_box) D.F sc__law_box sm fun cdv A outer s H E G => (sd_one (sd_ret (pd_lst true (pa_consD (pd_callB (call_max2 G.calm) sim_max2 T.z_max (pa_consD pd_int (pa_consD (pd_sub (pd_var 0) (pd_pow pd_int pd_int)) pa_nilD))) (pa_consD (pd_mod (pd_var 0) pd_int) (pa_consD pd_int pa_nilD))))))
theorem ok__law_box {P : Program} {w : World} {K : PySem.W.Frag} {mg : Str → Option Value} {base : Heap} {f : Addr} {fd : FuncData} (T : Tz K mg) (D : DefAt K mg "_law_box" s__law_box f fd) (sm : ∃ o, base.get? sysModules = some o)  : Ok P w K mg base 1 "_law_box" ["_law_cell_here"] sp__law_box := ok_mk D (fn__law_box T D sm ) (fun _ _ _ _ _ _ us hl => match us, hl with | [_], _ => rfl)
/-! _law_take -/
abbrev s__law_take : Stmt := topS 37
theorem sc__law_take : FnScope ["_law_box_here", "_law_wide", "_law_digit", "_law_number"] ["_law_box_here", "_law_wide"] (defScope s__law_take) := ⟨rfl, rfl, rfl, by decide +kernel, rfl, by decide +kernel, by decide +kernel⟩
def b__law_take : DS := (sSeq (sIf (tBl (dOp fGtS (dOp fIx (dVar 0) (dC (.int 0))) (dC (.int 0)))) (sSeq (sAsg (dOp fMod (dOp fIx (dVar 0) (dC (.int 0))) (dVar 1)) (gN 2)) (sSeq (sAsg (dOp fDiv (dOp fIx (dVar 0) (dC (.int 0))) (dVar 1)) (gSubD (dVar 0) (dC (.int 0)) fSet)) (sRet (dVar 2)))) sNil) (sSeq (sAsg (dOp (fAdd false) (dOp fIx (dVar 0) (dC (.int 2))) (dC (.int 1))) (gSubD (dVar 0) (dC (.int 2)) fSet)) (sSeq (sAsg (dOp fMod (dOp fPow (dOp (fAdd false) (dOp (fAdd false) (dOp fIx (dVar 0) (dC (.int 1))) (dOp fMulI (dC (.int 5779)) (dOp fIx (dVar 0) (dC (.int 2))))) (dC (.int 23))) (dC (.int 5))) (dC (.int 2147483647))) (gN 3)) (sSeq (sAsg (dOp fMod (dOp fPow (dOp (fAdd false) (dVar 3) (dOp fMulI (dC (.int 92800)) (dOp fIx (dVar 0) (dC (.int 2))))) (dC (.int 3))) (dC (.int 2147483587))) (gN 3)) (sRet (dOp fMod (dOp fDiv (dVar 3) (dC (.int 16))) (dVar 1)))))))
def sp__law_take : DSp := spOf 4 2 b__law_take
theorem fn__law_take {P : Program} {w : World} {K : PySem.W.Frag} {mg : Str → Option Value} {base : Heap} {f : Addr} {fd : FuncData} (T : Tz K mg) (D : DefAt K mg "_law_take" s__law_take f fd) (sm : ∃ o, base.get? sysModules = some o)  : FnG P w K mg base 1 f fd ["_law_box_here", "_law_wide"] sp__law_take :=
  Fn_ok (k := 0) (b := b__law_take) D.F sc__law_take sm fun cdv A outer s H E G => (sd_cons (sd_if (pt_gt (pd_ix (pd_var 0) pd_int) pd_int) (sd_cons (sd_set 2 G.nd (pd_mod (pd_ix (pd_var 0) pd_int) (pd_var 1))) (sd_cons (sd_asg (pd_fdiv (pd_ix (pd_var 0) pd_int) (pd_var 1)) (pg_subD (pd_var 0) pd_int)) (sd_one (sd_ret (pd_var 2))))) sd_nil) (sd_cons (sd_asg (pd_add false (pd_ix (pd_var 0) pd_int) pd_int) (pg_subD (pd_var 0) pd_int)) (sd_cons (sd_set 3 G.nd (pd_mod (pd_pow (pd_add false (pd_add false (pd_ix (pd_var 0) pd_int) (pd_mulI pd_int (pd_ix (pd_var 0) pd_int))) pd_int) pd_int) pd_int)) (sd_cons (sd_set 3 G.nd (pd_mod (pd_pow (pd_add false (pd_var 3) (pd_mulI pd_int (pd_ix (pd_var 0) pd_int))) pd_int) pd_int)) (sd_one (sd_ret (pd_mod (pd_fdiv (pd_var 3) pd_int) (pd_var 1))))))))
theorem ok__law_take {P : Program} {w : World} {K : PySem.W.Frag} {mg : Str → Option Value} {base : Heap} {f : Addr} {fd : FuncData} (T : Tz K mg) (D : DefAt K mg "_law_take" s__law_take f fd) (sm : ∃ o, base.get? sysModules = some o)  : Ok P w K mg base 1 "_law_take" ["_law_box_here", "_law_wide"] sp__law_take := ok_mk D (fn__law_take T D sm ) (fun _ _ _ _ _ _ us hl => match us, hl with | [_, _], _ => rfl)
/-! _law_kinds -/
abbrev s__law_kinds : Stmt := topS 38
theorem sc__law_kinds : FnScope ["_law_e", "_law_rows"] ["_law_e"] (defScope s__law_kinds) := ⟨rfl, rfl, rfl, by decide +kernel, rfl, by decide +kernel, by decide +kernel⟩
def b__law_kinds : DS := (sSeq (sAsg (dLst false (dCons (dB (fIsi kt) (dCons (dVar 0) (dCons (dC (.glb "NoNumber")) dNil))) (dCons (dB (fIsi kt) (dCons (dVar 0) (dCons (dC (.glb "NoName")) dNil))) (dCons (dB (fIsi kt) (dCons (dVar 0) (dCons (dC (.glb "NoText")) dNil))) dNil)))) (gN 1)) (sSeq (sAsg (dOp (fAdd false) (dVar 1) (dLst false (dCons (dB (fIsi kt) (dCons (dVar 0) (dCons (dC (.glb "NoPlace")) dNil))) (dCons (dB (fIsi kt) (dCons (dVar 0) (dCons (dC (.glb "NoWay")) dNil))) (dCons (dB (fIsi kt) (dCons (dVar 0) (dCons (dC (.glb "NoRound")) dNil))) dNil))))) (gN 1)) (sSeq (sAsg (dOp (fAdd false) (dVar 1) (dLst false (dCons (dB (fIsi kt) (dCons (dVar 0) (dCons (dC (.glb "NoOutline")) dNil))) (dCons (dB (fIsi kt) (dCons (dVar 0) (dCons (dC (.glb "NoPoint")) dNil))) (dCons (dB (fIsi kt) (dCons (dVar 0) (dCons (dC (.glb "NoProgram")) dNil))) dNil))))) (gN 1)) (sSeq (sAsg (dOp (fAdd false) (dVar 1) (dLst false (dCons (dB (fIsi kt) (dCons (dVar 0) (dCons (dC (.glb "NoWord")) dNil))) (dCons (dB (fIsi kt) (dCons (dVar 0) (dCons (dC (.glb "NoFont")) dNil))) (dCons (dB (fIsi kt) (dCons (dVar 0) (dCons (dC (.glb "NoWorths")) dNil))) dNil))))) (gN 1)) (sSeq (sAsg (dOp (fAdd false) (dVar 1) (dLst false (dCons (dB (fIsi kt) (dCons (dVar 0) (dCons (dC (.glb "NoLetter")) dNil))) (dCons (dB (fIsi kt) (dCons (dVar 0) (dCons (dC (.glb "NoParts")) dNil))) (dCons (dB (fIsi kt) (dCons (dVar 0) (dCons (dC (.glb "NoSize")) dNil))) dNil))))) (gN 1)) (sSeq (sAsg (dOp (fAdd false) (dVar 1) (dLst false (dCons (dB (fIsi kt) (dCons (dVar 0) (dCons (dC (.glb "NoZone")) dNil))) (dCons (dB (fIsi kt) (dCons (dVar 0) (dCons (dC (.glb "NoCells")) dNil))) (dCons (dB (fIsi kt) (dCons (dVar 0) (dCons (dC (.glb "NoChoices")) dNil))) dNil))))) (gN 1)) (sSeq (sAsg (dOp (fAdd false) (dVar 1) (dLst false (dCons (dB (fIsi kt) (dCons (dVar 0) (dCons (dC (.glb "NoLine")) dNil))) (dCons (dB (fIsi kt) (dCons (dVar 0) (dCons (dC (.glb "NoLimit")) dNil))) (dCons (dB (fIsi kt) (dCons (dVar 0) (dCons (dC (.glb "Crossed")) dNil))) dNil))))) (gN 1)) (sSeq (sAsg (dOp (fAdd false) (dVar 1) (dLst false (dCons (dB (fIsi kt) (dCons (dVar 0) (dCons (dC (.glb "TooMany")) dNil))) (dCons (dB (fIsi kt) (dCons (dVar 0) (dCons (dC (.glb "Deep")) dNil))) (dCons (dB (fIsi kt) (dCons (dVar 0) (dCons (dC (.glb "NoRow")) dNil))) dNil))))) (gN 1)) (sSeq (sAsg (dOp (fAdd false) (dVar 1) (dLst false (dCons (dB (fIsi kt) (dCons (dVar 0) (dCons (dC (.glb "Fault")) dNil))) (dCons (dB (fIsi kt) (dCons (dVar 0) (dCons (dC (.glb "NoEntry")) dNil))) (dCons (dB (fIsi kt) (dCons (dVar 0) (dCons (dC (.glb "Unready")) dNil))) dNil))))) (gN 1)) (sSeq (sAsg (dOp (fAdd false) (dVar 1) (dLst false (dCons (dB (fIsi kt) (dCons (dVar 0) (dCons (dC (.glb "NoDefinition")) dNil))) (dCons (dB (fIsi kt) (dCons (dVar 0) (dCons (dC (.glb "NoSuch")) dNil))) (dCons (dB (fIsi kt) (dCons (dVar 0) (dCons (dC (.glb "NoBase")) dNil))) dNil))))) (gN 1)) (sRet (dVar 1))))))))))))
def sp__law_kinds : DSp := spOf 2 1 b__law_kinds
theorem fn__law_kinds {P : Program} {w : World} {K : PySem.W.Frag} {mg : Str → Option Value} {base : Heap} {f : Addr} {fd : FuncData} (T : Tz K mg) (D : DefAt K mg "_law_kinds" s__law_kinds f fd) (sm : ∃ o, base.get? sysModules = some o)  : FnG P w K mg base 1 f fd ["_law_e"] sp__law_kinds :=
  Fn_ok (k := 0) (b := b__law_kinds) D.F sc__law_kinds sm fun cdv A outer s H E G => (sd_cons (sd_set 1 G.nd (pd_lst false (pa_consD (pd_callB (call_isiD T.kit) sim_isi T.z_isinstance (pa_consD (pd_var 0) (pa_consD (pd_glbRefE T.c_NoNumber) pa_nilD))) (pa_consD (pd_callB (call_isiD T.kit) sim_isi T.z_isinstance (pa_consD (pd_var 0) (pa_consD (pd_glbRefE T.c_NoName) pa_nilD))) (pa_consD (pd_callB (call_isiD T.kit) sim_isi T.z_isinstance (pa_consD (pd_var 0) (pa_consD (pd_glbRefE T.c_NoText) pa_nilD))) pa_nilD))))) (sd_cons (sd_set 1 G.nd (pd_add false (pd_var 1) (pd_lst false (pa_consD (pd_callB (call_isiD T.kit) sim_isi T.z_isinstance (pa_consD (pd_var 0) (pa_consD (pd_glbRefE T.c_NoPlace) pa_nilD))) (pa_consD (pd_callB (call_isiD T.kit) sim_isi T.z_isinstance (pa_consD (pd_var 0) (pa_consD (pd_glbRefE T.c_NoWay) pa_nilD))) (pa_consD (pd_callB (call_isiD T.kit) sim_isi T.z_isinstance (pa_consD (pd_var 0) (pa_consD (pd_glbRefE T.c_NoRound) pa_nilD))) pa_nilD)))))) (sd_cons (sd_set 1 G.nd (pd_add false (pd_var 1) (pd_lst false (pa_consD (pd_callB (call_isiD T.kit) sim_isi T.z_isinstance (pa_consD (pd_var 0) (pa_consD (pd_glbRefE T.c_NoOutline) pa_nilD))) (pa_consD (pd_callB (call_isiD T.kit) sim_isi T.z_isinstance (pa_consD (pd_var 0) (pa_consD (pd_glbRefE T.c_NoPoint) pa_nilD))) (pa_consD (pd_callB (call_isiD T.kit) sim_isi T.z_isinstance (pa_consD (pd_var 0) (pa_consD (pd_glbRefE T.c_NoProgram) pa_nilD))) pa_nilD)))))) (sd_cons (sd_set 1 G.nd (pd_add false (pd_var 1) (pd_lst false (pa_consD (pd_callB (call_isiD T.kit) sim_isi T.z_isinstance (pa_consD (pd_var 0) (pa_consD (pd_glbRefE T.c_NoWord) pa_nilD))) (pa_consD (pd_callB (call_isiD T.kit) sim_isi T.z_isinstance (pa_consD (pd_var 0) (pa_consD (pd_glbRefE T.c_NoFont) pa_nilD))) (pa_consD (pd_callB (call_isiD T.kit) sim_isi T.z_isinstance (pa_consD (pd_var 0) (pa_consD (pd_glbRefE T.c_NoWorths) pa_nilD))) pa_nilD)))))) (sd_cons (sd_set 1 G.nd (pd_add false (pd_var 1) (pd_lst false (pa_consD (pd_callB (call_isiD T.kit) sim_isi T.z_isinstance (pa_consD (pd_var 0) (pa_consD (pd_glbRefE T.c_NoLetter) pa_nilD))) (pa_consD (pd_callB (call_isiD T.kit) sim_isi T.z_isinstance (pa_consD (pd_var 0) (pa_consD (pd_glbRefE T.c_NoParts) pa_nilD))) (pa_consD (pd_callB (call_isiD T.kit) sim_isi T.z_isinstance (pa_consD (pd_var 0) (pa_consD (pd_glbRefE T.c_NoSize) pa_nilD))) pa_nilD)))))) (sd_cons (sd_set 1 G.nd (pd_add false (pd_var 1) (pd_lst false (pa_consD (pd_callB (call_isiD T.kit) sim_isi T.z_isinstance (pa_consD (pd_var 0) (pa_consD (pd_glbRefE T.c_NoZone) pa_nilD))) (pa_consD (pd_callB (call_isiD T.kit) sim_isi T.z_isinstance (pa_consD (pd_var 0) (pa_consD (pd_glbRefE T.c_NoCells) pa_nilD))) (pa_consD (pd_callB (call_isiD T.kit) sim_isi T.z_isinstance (pa_consD (pd_var 0) (pa_consD (pd_glbRefE T.c_NoChoices) pa_nilD))) pa_nilD)))))) (sd_cons (sd_set 1 G.nd (pd_add false (pd_var 1) (pd_lst false (pa_consD (pd_callB (call_isiD T.kit) sim_isi T.z_isinstance (pa_consD (pd_var 0) (pa_consD (pd_glbRefE T.c_NoLine) pa_nilD))) (pa_consD (pd_callB (call_isiD T.kit) sim_isi T.z_isinstance (pa_consD (pd_var 0) (pa_consD (pd_glbRefE T.c_NoLimit) pa_nilD))) (pa_consD (pd_callB (call_isiD T.kit) sim_isi T.z_isinstance (pa_consD (pd_var 0) (pa_consD (pd_glbRefE T.c_Crossed) pa_nilD))) pa_nilD)))))) (sd_cons (sd_set 1 G.nd (pd_add false (pd_var 1) (pd_lst false (pa_consD (pd_callB (call_isiD T.kit) sim_isi T.z_isinstance (pa_consD (pd_var 0) (pa_consD (pd_glbRefE T.c_TooMany) pa_nilD))) (pa_consD (pd_callB (call_isiD T.kit) sim_isi T.z_isinstance (pa_consD (pd_var 0) (pa_consD (pd_glbRefE T.c_Deep) pa_nilD))) (pa_consD (pd_callB (call_isiD T.kit) sim_isi T.z_isinstance (pa_consD (pd_var 0) (pa_consD (pd_glbRefE T.c_NoRow) pa_nilD))) pa_nilD)))))) (sd_cons (sd_set 1 G.nd (pd_add false (pd_var 1) (pd_lst false (pa_consD (pd_callB (call_isiD T.kit) sim_isi T.z_isinstance (pa_consD (pd_var 0) (pa_consD (pd_glbRefE T.c_Fault) pa_nilD))) (pa_consD (pd_callB (call_isiD T.kit) sim_isi T.z_isinstance (pa_consD (pd_var 0) (pa_consD (pd_glbRefE T.c_NoEntry) pa_nilD))) (pa_consD (pd_callB (call_isiD T.kit) sim_isi T.z_isinstance (pa_consD (pd_var 0) (pa_consD (pd_glbRefE T.c_Unready) pa_nilD))) pa_nilD)))))) (sd_cons (sd_set 1 G.nd (pd_add false (pd_var 1) (pd_lst false (pa_consD (pd_callB (call_isiD T.kit) sim_isi T.z_isinstance (pa_consD (pd_var 0) (pa_consD (pd_glbRefE T.c_NoDefinition) pa_nilD))) (pa_consD (pd_callB (call_isiD T.kit) sim_isi T.z_isinstance (pa_consD (pd_var 0) (pa_consD (pd_glbRefE T.c_NoSuch) pa_nilD))) (pa_consD (pd_callB (call_isiD T.kit) sim_isi T.z_isinstance (pa_consD (pd_var 0) (pa_consD (pd_glbRefE T.c_NoBase) pa_nilD))) pa_nilD)))))) (sd_one (sd_ret (pd_var 1)))))))))))))
theorem ok__law_kinds {P : Program} {w : World} {K : PySem.W.Frag} {mg : Str → Option Value} {base : Heap} {f : Addr} {fd : FuncData} (T : Tz K mg) (D : DefAt K mg "_law_kinds" s__law_kinds f fd) (sm : ∃ o, base.get? sysModules = some o)  : Ok P w K mg base 1 "_law_kinds" ["_law_e"] sp__law_kinds := ok_mk D (fn__law_kinds T D sm ) (fun _ _ _ _ _ _ us hl => match us, hl with | [_], _ => rfl)
/-! _law_made -/
abbrev s__law_made : Stmt := topS 39
theorem sc__law_made : FnScope ["_law_thing_here", "_law_more", "_law_rows"] ["_law_thing_here", "_law_more"] (defScope s__law_made) := ⟨rfl, rfl, rfl, by decide +kernel, rfl, by decide +kernel, by decide +kernel⟩
def b__law_made : DS := (sSeq (sAsg (dLst false (dCons (dMkG false "NoNumber" ["found"] 1 0 [0] (dCons (dVar 0) dNil) dNil) (dCons (dMkG false "NoName" ["found"] 1 0 [0] (dCons (dVar 0) dNil) dNil) (dCons (dMkG false "NoText" ["found"] 1 0 [0] (dCons (dVar 0) dNil) dNil) (dCons (dMkG false "NoPlace" ["found"] 1 0 [0] (dCons (dVar 0) dNil) dNil) (dCons (dMkG false "NoWay" ["found"] 1 0 [0] (dCons (dVar 0) dNil) dNil) dNil)))))) (gN 2)) (sSeq (sAsg (dOp (fAdd false) (dVar 2) (dLst false (dCons (dMkG false "NoRound" ["found"] 1 0 [0] (dCons (dVar 0) dNil) dNil) (dCons (dMkG false "NoOutline" ["found"] 1 0 [0] (dCons (dVar 0) dNil) dNil) (dCons (dMkG false "NoPoint" ["found"] 1 0 [0] (dCons (dVar 0) dNil) dNil) (dCons (dMkG false "NoProgram" ["found"] 1 0 [0] (dCons (dVar 0) dNil) dNil) (dCons (dMkG false "NoWord" ["found"] 1 0 [0] (dCons (dVar 0) dNil) dNil) dNil))))))) (gN 2)) (sSeq (sAsg (dOp (fAdd false) (dVar 2) (dLst false (dCons (dMkG false "NoFont" ["found"] 1 0 [0] (dCons (dVar 0) dNil) dNil) (dCons (dMkG false "NoWorths" ["found"] 1 0 [0] (dCons (dVar 0) dNil) dNil) (dCons (dMkG false "NoLetter" ["found"] 1 0 [0] (dCons (dVar 0) dNil) dNil) (dCons (dMkG false "NoParts" ["found"] 1 0 [0] (dCons (dVar 0) dNil) dNil) (dCons (dMkG false "NoSize" ["found"] 1 0 [0] (dCons (dVar 0) dNil) dNil) dNil))))))) (gN 2)) (sSeq (sAsg (dOp (fAdd false) (dVar 2) (dLst false (dCons (dMkG false "NoZone" ["found"] 1 0 [0] (dCons (dVar 0) dNil) dNil) (dCons (dMkG false "NoCells" ["found"] 1 0 [0] (dCons (dVar 0) dNil) dNil) (dCons (dMkG false "NoChoices" ["found"] 1 0 [0] (dCons (dVar 0) dNil) dNil) (dCons (dMkG false "NoLine" ["found"] 1 0 [0] (dCons (dVar 0) dNil) dNil) (dCons (dMkG false "NoLimit" ["found"] 1 0 [0] (dCons (dVar 0) dNil) dNil) dNil))))))) (gN 2)) (sSeq (sAsg (dOp (fAdd false) (dVar 2) (dLst false (dCons (dMkG false "Crossed" ["other", "one"] 2 0 [0, 1] (dCons (dVar 0) (dCons (dVar 1) dNil)) dNil) (dCons (dMkG false "TooMany" ["many"] 1 0 [0] (dCons (dVar 0) dNil) dNil) (dCons (dMkG false "Deep" ["at"] 1 0 [0] (dCons (dVar 0) dNil) dNil) (dCons (dMkG false "NoRow" ["at"] 1 0 [0] (dCons (dVar 0) dNil) dNil) (dCons (dMkG false "Fault" ["why", "done"] 2 0 [0, 1] (dCons (dVar 0) (dCons (dVar 1) dNil)) dNil) dNil))))))) (gN 2)) (sSeq (sAsg (dOp (fAdd false) (dVar 2) (dLst false (dCons (dMkG false "NoEntry" ["found"] 1 0 [0] (dCons (dVar 0) dNil) dNil) (dCons (dMkG false "Unready" [] 0 0 [] dNil dNil) (dCons (dMkG false "NoDefinition" ["found"] 1 0 [0] (dCons (dVar 0) dNil) dNil) (dCons (dMkG false "NoSuch" ["found"] 1 0 [0] (dCons (dVar 0) dNil) dNil) (dCons (dMkG false "NoBase" ["found"] 1 0 [0] (dCons (dVar 0) dNil) dNil) dNil))))))) (gN 2)) (sRet (dVar 2))))))))
def sp__law_made : DSp := spOf 3 2 b__law_made
theorem fn__law_made {P : Program} {w : World} {K : PySem.W.Frag} {mg : Str → Option Value} {base : Heap} {f : Addr} {fd : FuncData} (T : Tz K mg) (D : DefAt K mg "_law_made" s__law_made f fd) (sm : ∃ o, base.get? sysModules = some o) (Q_Crossed_p2 : OxkG P w K mg base "Crossed" ["other", "one"] 2 [] [0, 1]) (Q_Deep_p1 : OxkG P w K mg base "Deep" ["at"] 1 [] [0]) (Q_Fault_p2 : OxkG P w K mg base "Fault" ["why", "done"] 2 [] [0, 1]) (Q_NoBase_p1 : OxkG P w K mg base "NoBase" ["found"] 1 [] [0]) (Q_NoCells_p1 : OxkG P w K mg base "NoCells" ["found"] 1 [] [0]) (Q_NoChoices_p1 : OxkG P w K mg base "NoChoices" ["found"] 1 [] [0]) (Q_NoDefinition_p1 : OxkG P w K mg base "NoDefinition" ["found"] 1 [] [0]) (Q_NoEntry_p1 : OxkG P w K mg base "NoEntry" ["found"] 1 [] [0]) (Q_NoFont_p1 : OxkG P w K mg base "NoFont" ["found"] 1 [] [0]) (Q_NoLetter_p1 : OxkG P w K mg base "NoLetter" ["found"] 1 [] [0]) (Q_NoLimit_p1 : OxkG P w K mg base "NoLimit" ["found"] 1 [] [0]) (Q_NoLine_p1 : OxkG P w K mg base "NoLine" ["found"] 1 [] [0]) (Q_NoName_p1 : OxkG P w K mg base "NoName" ["found"] 1 [] [0]) (Q_NoNumber_p1 : OxkG P w K mg base "NoNumber" ["found"] 1 [] [0]) (Q_NoOutline_p1 : OxkG P w K mg base "NoOutline" ["found"] 1 [] [0]) (Q_NoParts_p1 : OxkG P w K mg base "NoParts" ["found"] 1 [] [0]) (Q_NoPlace_p1 : OxkG P w K mg base "NoPlace" ["found"] 1 [] [0]) (Q_NoPoint_p1 : OxkG P w K mg base "NoPoint" ["found"] 1 [] [0]) (Q_NoProgram_p1 : OxkG P w K mg base "NoProgram" ["found"] 1 [] [0]) (Q_NoRound_p1 : OxkG P w K mg base "NoRound" ["found"] 1 [] [0]) (Q_NoRow_p1 : OxkG P w K mg base "NoRow" ["at"] 1 [] [0]) (Q_NoSize_p1 : OxkG P w K mg base "NoSize" ["found"] 1 [] [0]) (Q_NoSuch_p1 : OxkG P w K mg base "NoSuch" ["found"] 1 [] [0]) (Q_NoText_p1 : OxkG P w K mg base "NoText" ["found"] 1 [] [0]) (Q_NoWay_p1 : OxkG P w K mg base "NoWay" ["found"] 1 [] [0]) (Q_NoWord_p1 : OxkG P w K mg base "NoWord" ["found"] 1 [] [0]) (Q_NoWorths_p1 : OxkG P w K mg base "NoWorths" ["found"] 1 [] [0]) (Q_NoZone_p1 : OxkG P w K mg base "NoZone" ["found"] 1 [] [0]) (Q_TooMany_p1 : OxkG P w K mg base "TooMany" ["many"] 1 [] [0]) (Q_Unready_p0 : OxkG P w K mg base "Unready" [] 0 [] []) : FnG P w K mg base 3 f fd ["_law_thing_here", "_law_more"] sp__law_made :=
  Fn_ok (k := 2) (b := b__law_made) D.F sc__law_made sm fun cdv A outer s H E G => (sd_cons (sd_set 2 G.nd (pd_lst false (pa_consD (pd_mkGC (G.mono (j := 2) (by decide)) Q_NoNumber_p1 (pa_consD (pd_var 0) pa_nilD)) (pa_consD (pd_mkGC (G.mono (j := 2) (by decide)) Q_NoName_p1 (pa_consD (pd_var 0) pa_nilD)) (pa_consD (pd_mkGC (G.mono (j := 2) (by decide)) Q_NoText_p1 (pa_consD (pd_var 0) pa_nilD)) (pa_consD (pd_mkGC (G.mono (j := 2) (by decide)) Q_NoPlace_p1 (pa_consD (pd_var 0) pa_nilD)) (pa_consD (pd_mkGC (G.mono (j := 2) (by decide)) Q_NoWay_p1 (pa_consD (pd_var 0) pa_nilD)) pa_nilD))))))) (sd_cons (sd_set 2 G.nd (pd_add false (pd_var 2) (pd_lst false (pa_consD (pd_mkGC (G.mono (j := 2) (by decide)) Q_NoRound_p1 (pa_consD (pd_var 0) pa_nilD)) (pa_consD (pd_mkGC (G.mono (j := 2) (by decide)) Q_NoOutline_p1 (pa_consD (pd_var 0) pa_nilD)) (pa_consD (pd_mkGC (G.mono (j := 2) (by decide)) Q_NoPoint_p1 (pa_consD (pd_var 0) pa_nilD)) (pa_consD (pd_mkGC (G.mono (j := 2) (by decide)) Q_NoProgram_p1 (pa_consD (pd_var 0) pa_nilD)) (pa_consD (pd_mkGC (G.mono (j := 2) (by decide)) Q_NoWord_p1 (pa_consD (pd_var 0) pa_nilD)) pa_nilD)))))))) (sd_cons (sd_set 2 G.nd (pd_add false (pd_var 2) (pd_lst false (pa_consD (pd_mkGC (G.mono (j := 2) (by decide)) Q_NoFont_p1 (pa_consD (pd_var 0) pa_nilD)) (pa_consD (pd_mkGC (G.mono (j := 2) (by decide)) Q_NoWorths_p1 (pa_consD (pd_var 0) pa_nilD)) (pa_consD (pd_mkGC (G.mono (j := 2) (by decide)) Q_NoLetter_p1 (pa_consD (pd_var 0) pa_nilD)) (pa_consD (pd_mkGC (G.mono (j := 2) (by decide)) Q_NoParts_p1 (pa_consD (pd_var 0) pa_nilD)) (pa_consD (pd_mkGC (G.mono (j := 2) (by decide)) Q_NoSize_p1 (pa_consD (pd_var 0) pa_nilD)) pa_nilD)))))))) (sd_cons (sd_set 2 G.nd (pd_add false (pd_var 2) (pd_lst false (pa_consD (pd_mkGC (G.mono (j := 2) (by decide)) Q_NoZone_p1 (pa_consD (pd_var 0) pa_nilD)) (pa_consD (pd_mkGC (G.mono (j := 2) (by decide)) Q_NoCells_p1 (pa_consD (pd_var 0) pa_nilD)) (pa_consD (pd_mkGC (G.mono (j := 2) (by decide)) Q_NoChoices_p1 (pa_consD (pd_var 0) pa_nilD)) (pa_consD (pd_mkGC (G.mono (j := 2) (by decide)) Q_NoLine_p1 (pa_consD (pd_var 0) pa_nilD)) (pa_consD (pd_mkGC (G.mono (j := 2) (by decide)) Q_NoLimit_p1 (pa_consD (pd_var 0) pa_nilD)) pa_nilD)))))))) (sd_cons (sd_set 2 G.nd (pd_add false (pd_var 2) (pd_lst false (pa_consD (pd_mkGC (G.mono (j := 2) (by decide)) Q_Crossed_p2 (pa_consD (pd_var 0) (pa_consD (pd_var 1) pa_nilD))) (pa_consD (pd_mkGC (G.mono (j := 2) (by decide)) Q_TooMany_p1 (pa_consD (pd_var 0) pa_nilD)) (pa_consD (pd_mkGC (G.mono (j := 2) (by decide)) Q_Deep_p1 (pa_consD (pd_var 0) pa_nilD)) (pa_consD (pd_mkGC (G.mono (j := 2) (by decide)) Q_NoRow_p1 (pa_consD (pd_var 0) pa_nilD)) (pa_consD (pd_mkGC (G.mono (j := 2) (by decide)) Q_Fault_p2 (pa_consD (pd_var 0) (pa_consD (pd_var 1) pa_nilD))) pa_nilD)))))))) (sd_cons (sd_set 2 G.nd (pd_add false (pd_var 2) (pd_lst false (pa_consD (pd_mkGC (G.mono (j := 2) (by decide)) Q_NoEntry_p1 (pa_consD (pd_var 0) pa_nilD)) (pa_consD (pd_mkG0 (G.mono (j := 2) (by decide)) Q_Unready_p0) (pa_consD (pd_mkGC (G.mono (j := 2) (by decide)) Q_NoDefinition_p1 (pa_consD (pd_var 0) pa_nilD)) (pa_consD (pd_mkGC (G.mono (j := 2) (by decide)) Q_NoSuch_p1 (pa_consD (pd_var 0) pa_nilD)) (pa_consD (pd_mkGC (G.mono (j := 2) (by decide)) Q_NoBase_p1 (pa_consD (pd_var 0) pa_nilD)) pa_nilD)))))))) (sd_one (sd_ret (pd_var 2)))))))))
theorem ok__law_made {P : Program} {w : World} {K : PySem.W.Frag} {mg : Str → Option Value} {base : Heap} {f : Addr} {fd : FuncData} (T : Tz K mg) (D : DefAt K mg "_law_made" s__law_made f fd) (sm : ∃ o, base.get? sysModules = some o) (Q_Crossed_p2 : OxkG P w K mg base "Crossed" ["other", "one"] 2 [] [0, 1]) (Q_Deep_p1 : OxkG P w K mg base "Deep" ["at"] 1 [] [0]) (Q_Fault_p2 : OxkG P w K mg base "Fault" ["why", "done"] 2 [] [0, 1]) (Q_NoBase_p1 : OxkG P w K mg base "NoBase" ["found"] 1 [] [0]) (Q_NoCells_p1 : OxkG P w K mg base "NoCells" ["found"] 1 [] [0]) (Q_NoChoices_p1 : OxkG P w K mg base "NoChoices" ["found"] 1 [] [0]) (Q_NoDefinition_p1 : OxkG P w K mg base "NoDefinition" ["found"] 1 [] [0]) (Q_NoEntry_p1 : OxkG P w K mg base "NoEntry" ["found"] 1 [] [0]) (Q_NoFont_p1 : OxkG P w K mg base "NoFont" ["found"] 1 [] [0]) (Q_NoLetter_p1 : OxkG P w K mg base "NoLetter" ["found"] 1 [] [0]) (Q_NoLimit_p1 : OxkG P w K mg base "NoLimit" ["found"] 1 [] [0]) (Q_NoLine_p1 : OxkG P w K mg base "NoLine" ["found"] 1 [] [0]) (Q_NoName_p1 : OxkG P w K mg base "NoName" ["found"] 1 [] [0]) (Q_NoNumber_p1 : OxkG P w K mg base "NoNumber" ["found"] 1 [] [0]) (Q_NoOutline_p1 : OxkG P w K mg base "NoOutline" ["found"] 1 [] [0]) (Q_NoParts_p1 : OxkG P w K mg base "NoParts" ["found"] 1 [] [0]) (Q_NoPlace_p1 : OxkG P w K mg base "NoPlace" ["found"] 1 [] [0]) (Q_NoPoint_p1 : OxkG P w K mg base "NoPoint" ["found"] 1 [] [0]) (Q_NoProgram_p1 : OxkG P w K mg base "NoProgram" ["found"] 1 [] [0]) (Q_NoRound_p1 : OxkG P w K mg base "NoRound" ["found"] 1 [] [0]) (Q_NoRow_p1 : OxkG P w K mg base "NoRow" ["at"] 1 [] [0]) (Q_NoSize_p1 : OxkG P w K mg base "NoSize" ["found"] 1 [] [0]) (Q_NoSuch_p1 : OxkG P w K mg base "NoSuch" ["found"] 1 [] [0]) (Q_NoText_p1 : OxkG P w K mg base "NoText" ["found"] 1 [] [0]) (Q_NoWay_p1 : OxkG P w K mg base "NoWay" ["found"] 1 [] [0]) (Q_NoWord_p1 : OxkG P w K mg base "NoWord" ["found"] 1 [] [0]) (Q_NoWorths_p1 : OxkG P w K mg base "NoWorths" ["found"] 1 [] [0]) (Q_NoZone_p1 : OxkG P w K mg base "NoZone" ["found"] 1 [] [0]) (Q_TooMany_p1 : OxkG P w K mg base "TooMany" ["many"] 1 [] [0]) (Q_Unready_p0 : OxkG P w K mg base "Unready" [] 0 [] []) : Ok P w K mg base 3 "_law_made" ["_law_thing_here", "_law_more"] sp__law_made := ok_mk D (fn__law_made T D sm Q_Crossed_p2 Q_Deep_p1 Q_Fault_p2 Q_NoBase_p1 Q_NoCells_p1 Q_NoChoices_p1 Q_NoDefinition_p1 Q_NoEntry_p1 Q_NoFont_p1 Q_NoLetter_p1 Q_NoLimit_p1 Q_NoLine_p1 Q_NoName_p1 Q_NoNumber_p1 Q_NoOutline_p1 Q_NoParts_p1 Q_NoPlace_p1 Q_NoPoint_p1 Q_NoProgram_p1 Q_NoRound_p1 Q_NoRow_p1 Q_NoSize_p1 Q_NoSuch_p1 Q_NoText_p1 Q_NoWay_p1 Q_NoWord_p1 Q_NoWorths_p1 Q_NoZone_p1 Q_TooMany_p1 Q_Unready_p0) (fun _ _ _ _ _ _ us hl => match us, hl with | [_, _], _ => rfl)
/-! _law_named -/
abbrev s__law_named : Stmt := topS 40
theorem sc__law_named : FnScope ["_law_thing_here", "_law_more", "_law_rows"] ["_law_thing_here", "_law_more"] (defScope s__law_named) := ⟨rfl, rfl, rfl, by decide +kernel, rfl, by decide +kernel, by decide +kernel⟩
def b__law_named : DS := (sSeq (sAsg (dLst false (dCons (dMkG false "NoNumber" ["found"] 0 1 [0] dNil (dCons (dVar 0) dNil)) (dCons (dMkG false "NoName" ["found"] 0 1 [0] dNil (dCons (dVar 0) dNil)) (dCons (dMkG false "NoText" ["found"] 0 1 [0] dNil (dCons (dVar 0) dNil)) (dCons (dMkG false "NoPlace" ["found"] 0 1 [0] dNil (dCons (dVar 0) dNil)) (dCons (dMkG false "NoWay" ["found"] 0 1 [0] dNil (dCons (dVar 0) dNil)) dNil)))))) (gN 2)) (sSeq (sAsg (dOp (fAdd false) (dVar 2) (dLst false (dCons (dMkG false "NoRound" ["found"] 0 1 [0] dNil (dCons (dVar 0) dNil)) (dCons (dMkG false "NoOutline" ["found"] 0 1 [0] dNil (dCons (dVar 0) dNil)) (dCons (dMkG false "NoPoint" ["found"] 0 1 [0] dNil (dCons (dVar 0) dNil)) (dCons (dMkG false "NoProgram" ["found"] 0 1 [0] dNil (dCons (dVar 0) dNil)) dNil)))))) (gN 2)) (sSeq (sAsg (dOp (fAdd false) (dVar 2) (dLst false (dCons (dMkG false "NoWord" ["found"] 0 1 [0] dNil (dCons (dVar 0) dNil)) (dCons (dMkG false "NoFont" ["found"] 0 1 [0] dNil (dCons (dVar 0) dNil)) (dCons (dMkG false "NoWorths" ["found"] 0 1 [0] dNil (dCons (dVar 0) dNil)) (dCons (dMkG false "NoLetter" ["found"] 0 1 [0] dNil (dCons (dVar 0) dNil)) dNil)))))) (gN 2)) (sSeq (sAsg (dOp (fAdd false) (dVar 2) (dLst false (dCons (dMkG false "NoParts" ["found"] 0 1 [0] dNil (dCons (dVar 0) dNil)) (dCons (dMkG false "NoSize" ["found"] 0 1 [0] dNil (dCons (dVar 0) dNil)) (dCons (dMkG false "NoZone" ["found"] 0 1 [0] dNil (dCons (dVar 0) dNil)) (dCons (dMkG false "NoCells" ["found"] 0 1 [0] dNil (dCons (dVar 0) dNil)) dNil)))))) (gN 2)) (sSeq (sAsg (dOp (fAdd false) (dVar 2) (dLst false (dCons (dMkG false "NoChoices" ["found"] 0 1 [0] dNil (dCons (dVar 0) dNil)) (dCons (dMkG false "NoLine" ["found"] 0 1 [0] dNil (dCons (dVar 0) dNil)) (dCons (dMkG false "NoLimit" ["found"] 0 1 [0] dNil (dCons (dVar 0) dNil)) (dCons (dMkG false "Crossed" ["other", "one"] 0 2 [1, 0] dNil (dCons (dVar 1) (dCons (dVar 0) dNil))) dNil)))))) (gN 2)) (sSeq (sAsg (dOp (fAdd false) (dVar 2) (dLst false (dCons (dMkG false "TooMany" ["many"] 0 1 [0] dNil (dCons (dVar 0) dNil)) (dCons (dMkG false "Deep" ["at"] 0 1 [0] dNil (dCons (dVar 0) dNil)) (dCons (dMkG false "NoRow" ["at"] 0 1 [0] dNil (dCons (dVar 0) dNil)) (dCons (dMkG false "Fault" ["why", "done"] 0 2 [1, 0] dNil (dCons (dVar 1) (dCons (dVar 0) dNil))) dNil)))))) (gN 2)) (sSeq (sAsg (dOp (fAdd false) (dVar 2) (dLst false (dCons (dMkG false "NoEntry" ["found"] 0 1 [0] dNil (dCons (dVar 0) dNil)) (dCons (dMkG false "Unready" [] 0 0 [] dNil dNil) (dCons (dMkG false "NoDefinition" ["found"] 0 1 [0] dNil (dCons (dVar 0) dNil)) (dCons (dMkG false "NoSuch" ["found"] 0 1 [0] dNil (dCons (dVar 0) dNil)) dNil)))))) (gN 2)) (sRet (dOp (fAdd false) (dVar 2) (dLst false (dCons (dMkG false "NoBase" ["found"] 0 1 [0] dNil (dCons (dVar 0) dNil)) dNil)))))))))))
def sp__law_named : DSp := spOf 3 2 b__law_named
theorem fn__law_named {P : Program} {w : World} {K : PySem.W.Frag} {mg : Str → Option Value} {base : Heap} {f : Addr} {fd : FuncData} (T : Tz K mg) (D : DefAt K mg "_law_named" s__law_named f fd) (sm : ∃ o, base.get? sysModules = some o) (Q_Crossed_k_other_one : OxkG P w K mg base "Crossed" ["other", "one"] 0 ["other", "one"] [1, 0]) (Q_Deep_k_at : OxkG P w K mg base "Deep" ["at"] 0 ["at"] [0]) (Q_Fault_k_why_done : OxkG P w K mg base "Fault" ["why", "done"] 0 ["why", "done"] [1, 0]) (Q_NoBase_k_found : OxkG P w K mg base "NoBase" ["found"] 0 ["found"] [0]) (Q_NoCells_k_found : OxkG P w K mg base "NoCells" ["found"] 0 ["found"] [0]) (Q_NoChoices_k_found : OxkG P w K mg base "NoChoices" ["found"] 0 ["found"] [0]) (Q_NoDefinition_k_found : OxkG P w K mg base "NoDefinition" ["found"] 0 ["found"] [0]) (Q_NoEntry_k_found : OxkG P w K mg base "NoEntry" ["found"] 0 ["found"] [0]) (Q_NoFont_k_found : OxkG P w K mg base "NoFont" ["found"] 0 ["found"] [0]) (Q_NoLetter_k_found : OxkG P w K mg base "NoLetter" ["found"] 0 ["found"] [0]) (Q_NoLimit_k_found : OxkG P w K mg base "NoLimit" ["found"] 0 ["found"] [0]) (Q_NoLine_k_found : OxkG P w K mg base "NoLine" ["found"] 0 ["found"] [0]) (Q_NoName_k_found : OxkG P w K mg base "NoName" ["found"] 0 ["found"] [0]) (Q_NoNumber_k_found : OxkG P w K mg base "NoNumber" ["found"] 0 ["found"] [0]) (Q_NoOutline_k_found : OxkG P w K mg base "NoOutline" ["found"] 0 ["found"] [0]) (Q_NoParts_k_found : OxkG P w K mg base "NoParts" ["found"] 0 ["found"] [0]) (Q_NoPlace_k_found : OxkG P w K mg base "NoPlace" ["found"] 0 ["found"] [0]) (Q_NoPoint_k_found : OxkG P w K mg base "NoPoint" ["found"] 0 ["found"] [0]) (Q_NoProgram_k_found : OxkG P w K mg base "NoProgram" ["found"] 0 ["found"] [0]) (Q_NoRound_k_found : OxkG P w K mg base "NoRound" ["found"] 0 ["found"] [0]) (Q_NoRow_k_at : OxkG P w K mg base "NoRow" ["at"] 0 ["at"] [0]) (Q_NoSize_k_found : OxkG P w K mg base "NoSize" ["found"] 0 ["found"] [0]) (Q_NoSuch_k_found : OxkG P w K mg base "NoSuch" ["found"] 0 ["found"] [0]) (Q_NoText_k_found : OxkG P w K mg base "NoText" ["found"] 0 ["found"] [0]) (Q_NoWay_k_found : OxkG P w K mg base "NoWay" ["found"] 0 ["found"] [0]) (Q_NoWord_k_found : OxkG P w K mg base "NoWord" ["found"] 0 ["found"] [0]) (Q_NoWorths_k_found : OxkG P w K mg base "NoWorths" ["found"] 0 ["found"] [0]) (Q_NoZone_k_found : OxkG P w K mg base "NoZone" ["found"] 0 ["found"] [0]) (Q_TooMany_k_many : OxkG P w K mg base "TooMany" ["many"] 0 ["many"] [0]) (Q_Unready_p0 : OxkG P w K mg base "Unready" [] 0 [] []) : FnG P w K mg base 3 f fd ["_law_thing_here", "_law_more"] sp__law_named :=
  Fn_ok (k := 2) (b := b__law_named) D.F sc__law_named sm fun cdv A outer s H E G => (sd_cons (sd_set 2 G.nd (pd_lst false (pa_consD (pd_mkGK (G.mono (j := 2) (by decide)) Q_NoNumber_k_found (pk_consD (pd_var 0) pk_nilD)) (pa_consD (pd_mkGK (G.mono (j := 2) (by decide)) Q_NoName_k_found (pk_consD (pd_var 0) pk_nilD)) (pa_consD (pd_mkGK (G.mono (j := 2) (by decide)) Q_NoText_k_found (pk_consD (pd_var 0) pk_nilD)) (pa_consD (pd_mkGK (G.mono (j := 2) (by decide)) Q_NoPlace_k_found (pk_consD (pd_var 0) pk_nilD)) (pa_consD (pd_mkGK (G.mono (j := 2) (by decide)) Q_NoWay_k_found (pk_consD (pd_var 0) pk_nilD)) pa_nilD))))))) (sd_cons (sd_set 2 G.nd (pd_add false (pd_var 2) (pd_lst false (pa_consD (pd_mkGK (G.mono (j := 2) (by decide)) Q_NoRound_k_found (pk_consD (pd_var 0) pk_nilD)) (pa_consD (pd_mkGK (G.mono (j := 2) (by decide)) Q_NoOutline_k_found (pk_consD (pd_var 0) pk_nilD)) (pa_consD (pd_mkGK (G.mono (j := 2) (by decide)) Q_NoPoint_k_found (pk_consD (pd_var 0) pk_nilD)) (pa_consD (pd_mkGK (G.mono (j := 2) (by decide)) Q_NoProgram_k_found (pk_consD (pd_var 0) pk_nilD)) pa_nilD))))))) (sd_cons (sd_set 2 G.nd (pd_add false (pd_var 2) (pd_lst false (pa_consD (pd_mkGK (G.mono (j := 2) (by decide)) Q_NoWord_k_found (pk_consD (pd_var 0) pk_nilD)) (pa_consD (pd_mkGK (G.mono (j := 2) (by decide)) Q_NoFont_k_found (pk_consD (pd_var 0) pk_nilD)) (pa_consD (pd_mkGK (G.mono (j := 2) (by decide)) Q_NoWorths_k_found (pk_consD (pd_var 0) pk_nilD)) (pa_consD (pd_mkGK (G.mono (j := 2) (by decide)) Q_NoLetter_k_found (pk_consD (pd_var 0) pk_nilD)) pa_nilD))))))) (sd_cons (sd_set 2 G.nd (pd_add false (pd_var 2) (pd_lst false (pa_consD (pd_mkGK (G.mono (j := 2) (by decide)) Q_NoParts_k_found (pk_consD (pd_var 0) pk_nilD)) (pa_consD (pd_mkGK (G.mono (j := 2) (by decide)) Q_NoSize_k_found (pk_consD (pd_var 0) pk_nilD)) (pa_consD (pd_mkGK (G.mono (j := 2) (by decide)) Q_NoZone_k_found (pk_consD (pd_var 0) pk_nilD)) (pa_consD (pd_mkGK (G.mono (j := 2) (by decide)) Q_NoCells_k_found (pk_consD (pd_var 0) pk_nilD)) pa_nilD))))))) (sd_cons (sd_set 2 G.nd (pd_add false (pd_var 2) (pd_lst false (pa_consD (pd_mkGK (G.mono (j := 2) (by decide)) Q_NoChoices_k_found (pk_consD (pd_var 0) pk_nilD)) (pa_consD (pd_mkGK (G.mono (j := 2) (by decide)) Q_NoLine_k_found (pk_consD (pd_var 0) pk_nilD)) (pa_consD (pd_mkGK (G.mono (j := 2) (by decide)) Q_NoLimit_k_found (pk_consD (pd_var 0) pk_nilD)) (pa_consD (pd_mkGK (G.mono (j := 2) (by decide)) Q_Crossed_k_other_one (pk_consD (pd_var 1) (pk_consD (pd_var 0) pk_nilD))) pa_nilD))))))) (sd_cons (sd_set 2 G.nd (pd_add false (pd_var 2) (pd_lst false (pa_consD (pd_mkGK (G.mono (j := 2) (by decide)) Q_TooMany_k_many (pk_consD (pd_var 0) pk_nilD)) (pa_consD (pd_mkGK (G.mono (j := 2) (by decide)) Q_Deep_k_at (pk_consD (pd_var 0) pk_nilD)) (pa_consD (pd_mkGK (G.mono (j := 2) (by decide)) Q_NoRow_k_at (pk_consD (pd_var 0) pk_nilD)) (pa_consD (pd_mkGK (G.mono (j := 2) (by decide)) Q_Fault_k_why_done (pk_consD (pd_var 1) (pk_consD (pd_var 0) pk_nilD))) pa_nilD))))))) (sd_cons (sd_set 2 G.nd (pd_add false (pd_var 2) (pd_lst false (pa_consD (pd_mkGK (G.mono (j := 2) (by decide)) Q_NoEntry_k_found (pk_consD (pd_var 0) pk_nilD)) (pa_consD (pd_mkG0 (G.mono (j := 2) (by decide)) Q_Unready_p0) (pa_consD (pd_mkGK (G.mono (j := 2) (by decide)) Q_NoDefinition_k_found (pk_consD (pd_var 0) pk_nilD)) (pa_consD (pd_mkGK (G.mono (j := 2) (by decide)) Q_NoSuch_k_found (pk_consD (pd_var 0) pk_nilD)) pa_nilD))))))) (sd_one (sd_ret (pd_add false (pd_var 2) (pd_lst false (pa_consD (pd_mkGK (G.mono (j := 2) (by decide)) Q_NoBase_k_found (pk_consD (pd_var 0) pk_nilD)) pa_nilD))))))))))))
theorem ok__law_named {P : Program} {w : World} {K : PySem.W.Frag} {mg : Str → Option Value} {base : Heap} {f : Addr} {fd : FuncData} (T : Tz K mg) (D : DefAt K mg "_law_named" s__law_named f fd) (sm : ∃ o, base.get? sysModules = some o) (Q_Crossed_k_other_one : OxkG P w K mg base "Crossed" ["other", "one"] 0 ["other", "one"] [1, 0]) (Q_Deep_k_at : OxkG P w K mg base "Deep" ["at"] 0 ["at"] [0]) (Q_Fault_k_why_done : OxkG P w K mg base "Fault" ["why", "done"] 0 ["why", "done"] [1, 0]) (Q_NoBase_k_found : OxkG P w K mg base "NoBase" ["found"] 0 ["found"] [0]) (Q_NoCells_k_found : OxkG P w K mg base "NoCells" ["found"] 0 ["found"] [0]) (Q_NoChoices_k_found : OxkG P w K mg base "NoChoices" ["found"] 0 ["found"] [0]) (Q_NoDefinition_k_found : OxkG P w K mg base "NoDefinition" ["found"] 0 ["found"] [0]) (Q_NoEntry_k_found : OxkG P w K mg base "NoEntry" ["found"] 0 ["found"] [0]) (Q_NoFont_k_found : OxkG P w K mg base "NoFont" ["found"] 0 ["found"] [0]) (Q_NoLetter_k_found : OxkG P w K mg base "NoLetter" ["found"] 0 ["found"] [0]) (Q_NoLimit_k_found : OxkG P w K mg base "NoLimit" ["found"] 0 ["found"] [0]) (Q_NoLine_k_found : OxkG P w K mg base "NoLine" ["found"] 0 ["found"] [0]) (Q_NoName_k_found : OxkG P w K mg base "NoName" ["found"] 0 ["found"] [0]) (Q_NoNumber_k_found : OxkG P w K mg base "NoNumber" ["found"] 0 ["found"] [0]) (Q_NoOutline_k_found : OxkG P w K mg base "NoOutline" ["found"] 0 ["found"] [0]) (Q_NoParts_k_found : OxkG P w K mg base "NoParts" ["found"] 0 ["found"] [0]) (Q_NoPlace_k_found : OxkG P w K mg base "NoPlace" ["found"] 0 ["found"] [0]) (Q_NoPoint_k_found : OxkG P w K mg base "NoPoint" ["found"] 0 ["found"] [0]) (Q_NoProgram_k_found : OxkG P w K mg base "NoProgram" ["found"] 0 ["found"] [0]) (Q_NoRound_k_found : OxkG P w K mg base "NoRound" ["found"] 0 ["found"] [0]) (Q_NoRow_k_at : OxkG P w K mg base "NoRow" ["at"] 0 ["at"] [0]) (Q_NoSize_k_found : OxkG P w K mg base "NoSize" ["found"] 0 ["found"] [0]) (Q_NoSuch_k_found : OxkG P w K mg base "NoSuch" ["found"] 0 ["found"] [0]) (Q_NoText_k_found : OxkG P w K mg base "NoText" ["found"] 0 ["found"] [0]) (Q_NoWay_k_found : OxkG P w K mg base "NoWay" ["found"] 0 ["found"] [0]) (Q_NoWord_k_found : OxkG P w K mg base "NoWord" ["found"] 0 ["found"] [0]) (Q_NoWorths_k_found : OxkG P w K mg base "NoWorths" ["found"] 0 ["found"] [0]) (Q_NoZone_k_found : OxkG P w K mg base "NoZone" ["found"] 0 ["found"] [0]) (Q_TooMany_k_many : OxkG P w K mg base "TooMany" ["many"] 0 ["many"] [0]) (Q_Unready_p0 : OxkG P w K mg base "Unready" [] 0 [] []) : Ok P w K mg base 3 "_law_named" ["_law_thing_here", "_law_more"] sp__law_named := ok_mk D (fn__law_named T D sm Q_Crossed_k_other_one Q_Deep_k_at Q_Fault_k_why_done Q_NoBase_k_found Q_NoCells_k_found Q_NoChoices_k_found Q_NoDefinition_k_found Q_NoEntry_k_found Q_NoFont_k_found Q_NoLetter_k_found Q_NoLimit_k_found Q_NoLine_k_found Q_NoName_k_found Q_NoNumber_k_found Q_NoOutline_k_found Q_NoParts_k_found Q_NoPlace_k_found Q_NoPoint_k_found Q_NoProgram_k_found Q_NoRound_k_found Q_NoRow_k_at Q_NoSize_k_found Q_NoSuch_k_found Q_NoText_k_found Q_NoWay_k_found Q_NoWord_k_found Q_NoWorths_k_found Q_NoZone_k_found Q_TooMany_k_many Q_Unready_p0) (fun _ _ _ _ _ _ us hl => match us, hl with | [_, _], _ => rfl)
/-! _law_fields -/
abbrev s__law_fields : Stmt := topS 41
theorem sc__law_fields : FnScope ["_law_some", "_law_rows", "_law_few", "_law_e"] ["_law_some"] (defScope s__law_fields) := ⟨rfl, rfl, rfl, by decide +kernel, rfl, by decide +kernel, by decide +kernel⟩
def b__law_fields : DS := (sSeq (sAsg (dLc false (iSeq (dSl false (dVar 0) dNo (dPart (dC (.int 20))))) (.inl 3) tYesD (dXv xf "found" (dVar 3)) [3]) (gN 1)) (sSeq (sAsg (dSl false (dVar 0) (dPart (dC (.int 20))) (dPart (dC (.int 25)))) (gN 2)) (sSeq (sAsg (dOp (fAdd false) (dVar 1) (dLst false (dCons (dXv xf "one" (dOp fIx (dVar 2) (dC (.int 0)))) (dCons (dXv xf "many" (dOp fIx (dVar 2) (dC (.int 1)))) (dCons (dXv xf "at" (dOp fIx (dVar 2) (dC (.int 2)))) (dCons (dXv xf "at" (dOp fIx (dVar 2) (dC (.int 3)))) (dCons (dXv xf "done" (dOp fIx (dVar 2) (dC (.int 4)))) dNil))))))) (gN 1)) (sSeq (sAsg (dSl false (dVar 0) (dPart (dC (.int 25))) dNo) (gN 2)) (sRet (dOp (fAdd false) (dVar 1) (dLst false (dCons (dXv xf "found" (dOp fIx (dVar 2) (dC (.int 0)))) (dCons (dXv xf "found" (dOp fIx (dVar 2) (dC (.int 2)))) (dCons (dXv xf "found" (dOp fIx (dVar 2) (dC (.int 3)))) (dCons (dXv xf "found" (dOp fIx (dVar 2) (dC (.int 4)))) dNil)))))))))))
def sp__law_fields : DSp := spOf 4 1 b__law_fields
theorem fn__law_fields {P : Program} {w : World} {K : PySem.W.Frag} {mg : Str → Option Value} {base : Heap} {f : Addr} {fd : FuncData} (T : Tz K mg) (D : DefAt K mg "_law_fields" s__law_fields f fd) (sm : ∃ o, base.get? sysModules = some o)  : FnG P w K mg base 1 f fd ["_law_some"] sp__law_fields :=
  Fn_ok (k := 0) (b := b__law_fields) D.F sc__law_fields sm fun cdv A outer s H E G => (sd_cons (sd_setLc 1 false [("_law_e", 3)] (.inl 3) G (pi_seqD (pd_sl false (pd_var 0) po_noD (po_partD pd_int))) (fun _ _ _ _ _ => pg_name G.nd rfl (by first | exact Or.inl rfl | exact Or.inr rfl)) (fun _ _ _ _ _ => pts_nilD) (fun _ _ _ _ _ => (pd_xv T.xf (pd_var 3)))) (sd_cons (sd_set 2 G.nd (pd_sl false (pd_var 0) (po_partD pd_int) (po_partD pd_int))) (sd_cons (sd_set 1 G.nd (pd_add false (pd_var 1) (pd_lst false (pa_consD (pd_xv T.xf (pd_ix (pd_var 2) pd_int)) (pa_consD (pd_xv T.xf (pd_ix (pd_var 2) pd_int)) (pa_consD (pd_xv T.xf (pd_ix (pd_var 2) pd_int)) (pa_consD (pd_xv T.xf (pd_ix (pd_var 2) pd_int)) (pa_consD (pd_xv T.xf (pd_ix (pd_var 2) pd_int)) pa_nilD)))))))) (sd_cons (sd_set 2 G.nd (pd_sl false (pd_var 0) (po_partD pd_int) po_noD)) (sd_one (sd_ret (pd_add false (pd_var 1) (pd_lst false (pa_consD (pd_xv T.xf (pd_ix (pd_var 2) pd_int)) (pa_consD (pd_xv T.xf (pd_ix (pd_var 2) pd_int)) (pa_consD (pd_xv T.xf (pd_ix (pd_var 2) pd_int)) (pa_consD (pd_xv T.xf (pd_ix (pd_var 2) pd_int)) pa_nilD))))))))))))
theorem ok__law_fields {P : Program} {w : World} {K : PySem.W.Frag} {mg : Str → Option Value} {base : Heap} {f : Addr} {fd : FuncData} (T : Tz K mg) (D : DefAt K mg "_law_fields" s__law_fields f fd) (sm : ∃ o, base.get? sysModules = some o)  : Ok P w K mg base 1 "_law_fields" ["_law_some"] sp__law_fields := ok_mk D (fn__law_fields T D sm ) (fun _ _ _ _ _ _ us hl => match us, hl with | [_], _ => rfl)
/-! _law_grown -/
abbrev s__law_grown : Stmt := topS 42
theorem sc__law_grown : FnScope ["_law_thing_here"] ["_law_thing_here"] (defScope s__law_grown) := ⟨rfl, rfl, rfl, by decide +kernel, rfl, by decide +kernel, by decide +kernel⟩
def b__law_grown : DS := (sSeq (sIf (tTru (dB (fIsi kt) (dCons (dVar 0) (dCons (dC (.ty "list")) dNil)))) (sExp (dBM "list" fAppend (dVar 0) (dCons (dC (.str "more")) dNil))) sNil) (sSeq (sIf (tAndD (tTru (dB (fIsi kt) (dCons (dVar 0) (dCons (dC (.ty "tuple")) dNil)))) (tBl (dOp fEq (dB fLen (dCons (dVar 0) dNil)) (dC (.int 2))))) (sExp (dBM "list" fAppend (dOp fIx (dVar 0) (dC (.int 1))) (dCons (dC (.str "more")) dNil))) sNil) (sIf (tTru (dB (fIsi kt) (dCons (dVar 0) (dCons (dC (.ty "dict")) dNil)))) (sSeq (sAsg (dC (.int 7)) (gSubD (dVar 0) (dC (.str "more")) fSetD)) (sExp (dBM "list" fAppend (dOp fDk (dVar 0) (dC (.str "a"))) (dCons (dC (.str "more")) dNil)))) sNil)))
def sp__law_grown : DSp := spOf 1 1 b__law_grown
theorem fn__law_grown {P : Program} {w : World} {K : PySem.W.Frag} {mg : Str → Option Value} {base : Heap} {f : Addr} {fd : FuncData} (T : Tz K mg) (D : DefAt K mg "_law_grown" s__law_grown f fd) (sm : ∃ o, base.get? sysModules = some o)  : FnG P w K mg base 1 f fd ["_law_thing_here"] sp__law_grown :=
  Fn_ok (k := 0) (b := b__law_grown) D.F sc__law_grown sm fun cdv A outer s H E G => (sd_cons (sd_if (pt_truD (pd_callB (call_isiD T.kit) sim_isi T.z_isinstance (pa_consD (pd_var 0) (pa_consD (pd_tyName T.z_list) pa_nilD)))) (sd_one (sd_exp (pd_append (pd_var 0) (pa_consD pd_str pa_nilD)))) sd_nil) (sd_cons (sd_if (PW.pt (pw_andD (pt_truD (pd_callB (call_isiD T.kit) sim_isi T.z_isinstance (pa_consD (pd_var 0) (pa_consD (pd_tyName T.z_tuple) pa_nilD)))) (pw_and1D (pt_eq G (pd_callB call_len sim_len T.z_len (pa_consD (pd_var 0) pa_nilD)) pd_int)))) (sd_one (sd_exp (pd_append (pd_ix (pd_var 0) pd_int) (pa_consD pd_str pa_nilD)))) sd_nil) (sd_one (sd_if (pt_truD (pd_callB (call_isiD T.kit) sim_isi T.z_isinstance (pa_consD (pd_var 0) (pa_consD (pd_tyName T.z_dict) pa_nilD)))) (sd_cons (sd_asg pd_int (pg_subDD G (pd_var 0) pd_str)) (sd_one (sd_exp (pd_append (pd_dk G (pd_var 0) pd_str) (pa_consD pd_str pa_nilD))))) sd_nil))))
theorem ok__law_grown {P : Program} {w : World} {K : PySem.W.Frag} {mg : Str → Option Value} {base : Heap} {f : Addr} {fd : FuncData} (T : Tz K mg) (D : DefAt K mg "_law_grown" s__law_grown f fd) (sm : ∃ o, base.get? sysModules = some o)  : Ok P w K mg base 1 "_law_grown" ["_law_thing_here"] sp__law_grown := ok_mk D (fn__law_grown T D sm ) (fun _ _ _ _ _ _ us hl => match us, hl with | [_], _ => rfl)
/-! _law_text -/
abbrev s__law_text : Stmt := topS 43
theorem sc__law_text : FnScope ["_law_box_here", "_law_k"] ["_law_box_here"] (defScope s__law_text) := ⟨rfl, rfl, rfl, by decide +kernel, rfl, by decide +kernel, by decide +kernel⟩
def b__law_text : DS := (sRet (dM1 fJoin (dC (.str "")) (dLc false (iRange1 (dCons (dCall sp__law_take [] (dCons (dVar 0) (dCons (dC (.int 20)) dNil))) dNil)) (.inl 1) tYesD (dOp fIx (dC (.str "abc XYZ.'~0")) (dCall sp__law_take [] (dCons (dVar 0) (dCons (dC (.int 11)) dNil)))) [1])))
def sp__law_text : DSp := spOf 2 1 b__law_text
theorem fn__law_text {P : Program} {w : World} {K : PySem.W.Frag} {mg : Str → Option Value} {base : Heap} {f : Addr} {fd : FuncData} (T : Tz K mg) (D : DefAt K mg "_law_text" s__law_text f fd) (sm : ∃ o, base.get? sysModules = some o) (O__law_take : Ok P w K mg base 1 "_law_take" ["_law_box_here", "_law_wide"] sp__law_take) : FnG P w K mg base 2 f fd ["_law_box_here"] sp__law_text :=
  Fn_ok (k := 1) (b := b__law_text) D.F sc__law_text sm fun cdv A outer s H E G => (sd_one (sd_ret (pd_join pd_str (pd_lc false [("_law_k", 1)] (.inl 1) G (pi_range1D T.z_range (pa_consD (pd_callN G (O__law_take.mono (by decide)) (pa_consD (pd_var 0) (pa_consD pd_int pa_nilD))) pa_nilD)) (fun _ _ _ _ _ => pg_name G.nd rfl (by first | exact Or.inl rfl | exact Or.inr rfl)) (fun _ _ _ _ _ => pts_nilD) (fun _ _ _ _ _ => (pd_ix pd_str (pd_callN G.blk (O__law_take.mono (by decide)) (pa_consD (pd_var 0) (pa_consD pd_int pa_nilD)))))))))
theorem ok__law_text {P : Program} {w : World} {K : PySem.W.Frag} {mg : Str → Option Value} {base : Heap} {f : Addr} {fd : FuncData} (T : Tz K mg) (D : DefAt K mg "_law_text" s__law_text f fd) (sm : ∃ o, base.get? sysModules = some o) (O__law_take : Ok P w K mg base 1 "_law_take" ["_law_box_here", "_law_wide"] sp__law_take) : Ok P w K mg base 2 "_law_text" ["_law_box_here"] sp__law_text := ok_mk D (fn__law_text T D sm O__law_take) (fun _ _ _ _ _ _ us hl => match us, hl with | [_], _ => rfl)
/-! _law_thing -/
abbrev s__law_thing : Stmt := topS 44
theorem sc__law_thing : FnScope ["_law_box_here", "_law_number", "_law_text_here", "_law_things"] ["_law_box_here"] (defScope s__law_thing) := ⟨rfl, rfl, rfl, by decide +kernel, rfl, by decide +kernel, by decide +kernel⟩
def b__law_thing : DS := (sSeq (sAsg (dCall sp__law_take [] (dCons (dVar 0) (dCons (dOp fPow (dC (.int 10)) (dC (.int 59))) dNil))) (gN 1)) (sSeq (sAsg (dCall sp__law_text [] (dCons (dVar 0) dNil)) (gN 2)) (sSeq (sAsg (dLst false (dCons (dVar 1) (dCons (dOp fSub (dC (.int 0)) (dVar 1)) (dCons (dVar 2) (dCons (dC .non) (dCons (dC (.bl true)) (dCons (dLst true (dCons (dVar 1) (dCons (dVar 2) dNil))) (dCons (dTup (dCons (dVar 2) (dCons (dLst true (dCons (dVar 1) dNil)) dNil))) (dCons (dDisp true (((dC (.str "a")), (dLst true (dCons (dVar 2) dNil))) :: [])) (dCons (dLst true dNil) (dCons (dMkG true "NoName" ["found"] 1 0 [0] (dCons (dVar 2) dNil) dNil) dNil))))))))))) (gN 3)) (sRet (dOp fIx (dVar 3) (dCall sp__law_take [] (dCons (dVar 0) (dCons (dC (.int 10)) dNil))))))))
def sp__law_thing : DSp := spOf 4 1 b__law_thing
theorem fn__law_thing {P : Program} {w : World} {K : PySem.W.Frag} {mg : Str → Option Value} {base : Heap} {f : Addr} {fd : FuncData} (T : Tz K mg) (D : DefAt K mg "_law_thing" s__law_thing f fd) (sm : ∃ o, base.get? sysModules = some o) (O__law_take : Ok P w K mg base 1 "_law_take" ["_law_box_here", "_law_wide"] sp__law_take) (O__law_text : Ok P w K mg base 2 "_law_text" ["_law_box_here"] sp__law_text) (Q_NoName_p1 : OxkG P w K mg base "NoName" ["found"] 1 [] [0]) : FnG P w K mg base 3 f fd ["_law_box_here"] sp__law_thing :=
  Fn_ok (k := 2) (b := b__law_thing) D.F sc__law_thing sm fun cdv A outer s H E G => (sd_cons (sd_set 1 G.nd (pd_callN G (O__law_take.mono (by decide)) (pa_consD (pd_var 0) (pa_consD (pd_pow pd_int pd_int) pa_nilD)))) (sd_cons (sd_set 2 G.nd (pd_callN G (O__law_text.mono (by decide)) (pa_consD (pd_var 0) pa_nilD))) (sd_cons (sd_set 3 G.nd (pd_lst false (pa_consD (pd_var 1) (pa_consD (pd_sub pd_int (pd_var 1)) (pa_consD (pd_var 2) (pa_consD pd_non (pa_consD pd_bl (pa_consD (pd_lst true (pa_consD (pd_var 1) (pa_consD (pd_var 2) pa_nilD))) (pa_consD (pd_tup (pa_consD (pd_var 2) (pa_consD (pd_lst true (pa_consD (pd_var 1) pa_nilD)) pa_nilD))) (pa_consD (pd_disp true (pps_consD pd_str (pd_lst true (pa_consD (pd_var 2) pa_nilD)) pps_nilD)) (pa_consD (pd_lst true pa_nilD) (pa_consD (pd_mkGC (G.mono (j := 2) (by decide)) Q_NoName_p1 (pa_consD (pd_var 2) pa_nilD)) pa_nilD)))))))))))) (sd_one (sd_ret (pd_ix (pd_var 3) (pd_callN G (O__law_take.mono (by decide)) (pa_consD (pd_var 0) (pa_consD pd_int pa_nilD)))))))))
theorem ok__law_thing {P : Program} {w : World} {K : PySem.W.Frag} {mg : Str → Option Value} {base : Heap} {f : Addr} {fd : FuncData} (T : Tz K mg) (D : DefAt K mg "_law_thing" s__law_thing f fd) (sm : ∃ o, base.get? sysModules = some o) (O__law_take : Ok P w K mg base 1 "_law_take" ["_law_box_here", "_law_wide"] sp__law_take) (O__law_text : Ok P w K mg base 2 "_law_text" ["_law_box_here"] sp__law_text) (Q_NoName_p1 : OxkG P w K mg base "NoName" ["found"] 1 [] [0]) : Ok P w K mg base 3 "_law_thing" ["_law_box_here"] sp__law_thing := ok_mk D (fn__law_thing T D sm O__law_take O__law_text Q_NoName_p1) (fun _ _ _ _ _ _ us hl => match us, hl with | [_], _ => rfl)
/-! _law_right -/
abbrev s__law_right : Stmt := topS 45
theorem sc__law_right : FnScope ["_law_thing_here", "_law_more", "_law_stood", "_law_both", "_law_rows", "_law_e", "_law_each"] ["_law_thing_here", "_law_more"] (defScope s__law_right) := ⟨rfl, rfl, rfl, by decide +kernel, rfl, by decide +kernel, by decide +kernel⟩
def b__law_right : DS := (sSeq (sAsg (dIf (tTru (dB (fIsi kt) (dCons (dVar 0) (dCons (dC (.ty "list")) dNil)))) (dB (fListOf false) (dCons (dVar 0) dNil)) (dVar 0)) (gN 2)) (sSeq (sAsg (dLst false (dCons (dCall sp__law_made [] (dCons (dVar 0) (dCons (dVar 1) dNil))) (dCons (dCall sp__law_named [] (dCons (dVar 0) (dCons (dVar 1) dNil))) dNil))) (gN 3)) (sSeq (sAsg (dCall sp__law_fields [] (dCons (dOp fIx (dVar 3) (dC (.int 1))) dNil)) (gN 4)) (sSeq (sIf (tBl (dOp (fNeX nx) (dVar 0) (dVar 2))) (sRet (dC (.bl false))) sNil) (sSeq (sExp (dCall sp__law_grown [] (dCons (dVar 0) dNil))) (sSeq (sExp (dCall sp__law_grown [] (dCons (dVar 1) dNil))) (sSeq (sIf (tOrD (tBl (dOp fNe (dLc false (iSeq (dVar 4)) (.inl 6) (tBl (dOp (fNeX nx) (dVar 6) (dVar 0))) (dVar 6) [6]) (dLst false dNil))) (tOrD (tBl (dOp (fNeX nx) (dXv xf "other" (dOp fIx (dOp fIx (dVar 3) (dC (.int 1))) (dC (.int 20)))) (dVar 1))) (tBl (dOp (fNeX nx) (dXv xf "why" (dOp fIx (dOp fIx (dVar 3) (dC (.int 1))) (dC (.int 24)))) (dVar 1))))) (sRet (dC (.bl false))) sNil) (sRet (dOp fEq (dLc false (iSeq (dOp fIx (dVar 3) (dC (.int 0)))) (.inl 5) tYesD (dCall sp__law_kinds [] (dCons (dVar 5) dNil)) [5]) (dLc false (iSeq (dOp fIx (dVar 3) (dC (.int 1)))) (.inl 5) tYesD (dCall sp__law_kinds [] (dCons (dVar 5) dNil)) [5]))))))))))
def sp__law_right : DSp := spOf 7 2 b__law_right
theorem fn__law_right {P : Program} {w : World} {K : PySem.W.Frag} {mg : Str → Option Value} {base : Heap} {f : Addr} {fd : FuncData} (T : Tz K mg) (D : DefAt K mg "_law_right" s__law_right f fd) (sm : ∃ o, base.get? sysModules = some o) (O__law_fields : Ok P w K mg base 1 "_law_fields" ["_law_some"] sp__law_fields) (O__law_grown : Ok P w K mg base 1 "_law_grown" ["_law_thing_here"] sp__law_grown) (O__law_kinds : Ok P w K mg base 1 "_law_kinds" ["_law_e"] sp__law_kinds) (O__law_made : Ok P w K mg base 3 "_law_made" ["_law_thing_here", "_law_more"] sp__law_made) (O__law_named : Ok P w K mg base 3 "_law_named" ["_law_thing_here", "_law_more"] sp__law_named) : FnG P w K mg base 4 f fd ["_law_thing_here", "_law_more"] sp__law_right :=
  Fn_ok (k := 3) (b := b__law_right) D.F sc__law_right sm fun cdv A outer s H E G => (sd_cons (sd_set 2 G.nd (pd_if (pt_truD (pd_callB (call_isiD T.kit) sim_isi T.z_isinstance (pa_consD (pd_var 0) (pa_consD (pd_tyName T.z_list) pa_nilD)))) (pd_callTy call_list_of (sim_listOf false) T.z_list (pa_consD (pd_var 0) pa_nilD)) (pd_var 0))) (sd_cons (sd_set 3 G.nd (pd_lst false (pa_consD (pd_callN G (O__law_made.mono (by decide)) (pa_consD (pd_var 0) (pa_consD (pd_var 1) pa_nilD))) (pa_consD (pd_callN G (O__law_named.mono (by decide)) (pa_consD (pd_var 0) (pa_consD (pd_var 1) pa_nilD))) pa_nilD)))) (sd_cons (sd_set 4 G.nd (pd_callN G (O__law_fields.mono (by decide)) (pa_consD (pd_ix (pd_var 3) pd_int) pa_nilD))) (sd_cons (sd_if (pt_neX G T.nx (pd_var 0) (pd_var 2)) (sd_one (sd_ret pd_bl)) sd_nil) (sd_cons (sd_exp (pd_callN G (O__law_grown.mono (by decide)) (pa_consD (pd_var 0) pa_nilD))) (sd_cons (sd_exp (pd_callN G (O__law_grown.mono (by decide)) (pa_consD (pd_var 1) pa_nilD))) (sd_cons (sd_if (PW.pt (pw_orD (pt_ne G (pd_lc false [("_law_each", 6)] (.inl 6) G (pi_seqD (pd_var 4)) (fun _ _ _ _ _ => pg_name G.nd rfl (by first | exact Or.inl rfl | exact Or.inr rfl)) (fun _ _ _ _ _ => pts_oneD (pt_neX G.blk T.nx (pd_var 6) (pd_var 0))) (fun _ _ _ _ _ => (pd_var 6))) (pd_lst false pa_nilD)) (pw_orD (pt_neX G T.nx (pd_xv T.xf (pd_ix (pd_ix (pd_var 3) pd_int) pd_int)) (pd_var 1)) (pw_or1D (pt_neX G T.nx (pd_xv T.xf (pd_ix (pd_ix (pd_var 3) pd_int) pd_int)) (pd_var 1)))))) (sd_one (sd_ret pd_bl)) sd_nil) (sd_one (sd_ret (pd_eq G (pd_lc false [("_law_e", 5)] (.inl 5) G (pi_seqD (pd_ix (pd_var 3) pd_int)) (fun _ _ _ _ _ => pg_name G.nd rfl (by first | exact Or.inl rfl | exact Or.inr rfl)) (fun _ _ _ _ _ => pts_nilD) (fun _ _ _ _ _ => (pd_callN G.blk (O__law_kinds.mono (by decide)) (pa_consD (pd_var 5) pa_nilD)))) (pd_lc false [("_law_e", 5)] (.inl 5) G (pi_seqD (pd_ix (pd_var 3) pd_int)) (fun _ _ _ _ _ => pg_name G.nd rfl (by first | exact Or.inl rfl | exact Or.inr rfl)) (fun _ _ _ _ _ => pts_nilD) (fun _ _ _ _ _ => (pd_callN G.blk (O__law_kinds.mono (by decide)) (pa_consD (pd_var 5) pa_nilD))))))))))))))
theorem ok__law_right {P : Program} {w : World} {K : PySem.W.Frag} {mg : Str → Option Value} {base : Heap} {f : Addr} {fd : FuncData} (T : Tz K mg) (D : DefAt K mg "_law_right" s__law_right f fd) (sm : ∃ o, base.get? sysModules = some o) (O__law_fields : Ok P w K mg base 1 "_law_fields" ["_law_some"] sp__law_fields) (O__law_grown : Ok P w K mg base 1 "_law_grown" ["_law_thing_here"] sp__law_grown) (O__law_kinds : Ok P w K mg base 1 "_law_kinds" ["_law_e"] sp__law_kinds) (O__law_made : Ok P w K mg base 3 "_law_made" ["_law_thing_here", "_law_more"] sp__law_made) (O__law_named : Ok P w K mg base 3 "_law_named" ["_law_thing_here", "_law_more"] sp__law_named) : Ok P w K mg base 4 "_law_right" ["_law_thing_here", "_law_more"] sp__law_right := ok_mk D (fn__law_right T D sm O__law_fields O__law_grown O__law_kinds O__law_made O__law_named) (fun _ _ _ _ _ _ us hl => match us, hl with | [_, _], _ => rfl)
/-! law -/
abbrev s_law : Stmt := topS 46
theorem sc_law : FnScope ["_law_script", "_law_k", "_law_box_here"] ["_law_script"] (defScope s_law) := ⟨rfl, rfl, rfl, by decide +kernel, rfl, by decide +kernel, by decide +kernel⟩
def b_law : DS := (sSeq (sFor (iRange1 (dCons (dB fMax2 (dCons (dC (.int 2)) (dCons (dB fMin2 (dCons (dC (.int 6)) (dCons (dB fLen (dCons (dVar 0) dNil)) dNil))) dNil))) dNil)) (gN 1) (sSeq (sAsg (dCall sp__law_box [] (dCons (dCall sp__law_cell [] (dCons (dVar 0) (dCons (dVar 1) dNil))) dNil)) (gN 2)) (sIf (tNotD (tTru (dCall sp__law_right [] (dCons (dCall sp__law_thing [] (dCons (dVar 2) dNil)) (dCons (dCall sp__law_thing [] (dCons (dVar 2) dNil)) dNil))))) (sRet (dC (.bl false))) sNil))) (sRet (dC (.bl true))))
def sp_law : DSp := spOf 3 1 b_law
theorem fn_law {P : Program} {w : World} {K : PySem.W.Frag} {mg : Str → Option Value} {base : Heap} {f : Addr} {fd : FuncData} (T : Tz K mg) (D : DefAt K mg "law" s_law f fd) (sm : ∃ o, base.get? sysModules = some o) (O__law_box : Ok P w K mg base 1 "_law_box" ["_law_cell_here"] sp__law_box) (O__law_cell : Ok P w K mg base 1 "_law_cell" ["_law_script", "_law_k"] sp__law_cell) (O__law_right : Ok P w K mg base 4 "_law_right" ["_law_thing_here", "_law_more"] sp__law_right) (O__law_thing : Ok P w K mg base 3 "_law_thing" ["_law_box_here"] sp__law_thing) : FnG P w K mg base 5 f fd ["_law_script"] sp_law :=
  Fn_ok (k := 4) (b := b_law) D.F sc_law sm fun cdv A outer s H E G => (sd_cons (sd_for G (pi_range1D T.z_range (pa_consD (pd_callB (call_max2 G.calm) sim_max2 T.z_max (pa_consD pd_int (pa_consD (pd_callB (call_min2 G.calm) sim_min2 T.z_min (pa_consD pd_int (pa_consD (pd_callB call_len sim_len T.z_len (pa_consD (pd_var 0) pa_nilD)) pa_nilD))) pa_nilD))) pa_nilD)) (pg_nameD (i := 1) G.nd) (sd_cons (sd_set 2 G.nd (pd_callN G (O__law_box.mono (by decide)) (pa_consD (pd_callN G (O__law_cell.mono (by decide)) (pa_consD (pd_var 0) (pa_consD (pd_var 1) pa_nilD))) pa_nilD))) (sd_one (sd_if (pt_notD (pt_truD (pd_callN G (O__law_right.mono (by decide)) (pa_consD (pd_callN G (O__law_thing.mono (by decide)) (pa_consD (pd_var 2) pa_nilD)) (pa_consD (pd_callN G (O__law_thing.mono (by decide)) (pa_consD (pd_var 2) pa_nilD)) pa_nilD))))) (sd_one (sd_ret pd_bl)) sd_nil)))) (sd_one (sd_ret pd_bl)))
end L_k13
namespace L_k13
open PySem DL
local macro_rules | `(tactic| walk_at "st") => `(tactic| with_reducible first
  | refine s_seq ?_ | refine s_nil ?_ | refine s_asg ?_ | refine s_exp ?_ | refine s_ret ?_ | refine s_retN ?_ | refine s_brk ?_ | refine s_con ?_ | refine s_if ?_ | refine s_par ?_ | refine s_for ?_ | refine x_par ?_ | refine s_par3 ?_ | refine x_par3 ?_ | refine s_rz ?_ | refine s_rz3 rfl (by simp only [List.length_cons, List.length_nil]; decide) (by rfl) ?_ | refine s_try ?_ | refine e_xf (by with_unfolding_all rfl) (by decide +kernel) (by first | exact fld_1 | exact fld_2 (by decide +kernel) fld_1) ?_ | refine e_bm ?_ | refine isq_node ?_ | refine e_lcG ?_ | refine k_for ?_ | refine k_elt ?_ | refine i_en ?_ | refine en_N ?_ | refine e_tupOf ?_ | refine tp_L ?_ | refine tp_T ?_ | refine e_rev ?_ | refine rv_N ?_ | refine sl_N ?_ | refine s_aug (by with_unfolding_all rfl) ?_ | refine f_adII ?_ | refine f_ik3 ?_ | refine f_ic3 (by assumption) ?_ | refine f_se3 (by assumption) ?_ | refine r_1 ?_ | refine r_q (by omega) (by omega) ?_ | refine q_seq ?_ | refine q_S ?_ | refine q_L ?_ | refine q_K ?_ | refine q_T ?_ | refine p_nil ?_ | refine p_cons ?_
  | refine e_var (by with_unfolding_all rfl) ?_ | refine e_c ?_ | refine e_op ?_ | refine e_un ?_ | refine e_nil ?_ | refine e_cons ?_ | refine e_B ?_ | refine e_tup ?_ | refine e_lst ?_ | refine e_dct0 ?_ | refine e_sz (by simp only [List.length_cons, List.length_nil, sizeLine]; decide) ?_ | refine e_nwf ?_
  | refine e_and ?_ | refine e_or ?_ | refine e_not ?_ | refine e_if ?_ | refine e_chain ?_ | refine e_sl ?_ | refine e_no ?_ | refine e_part ?_ | refine e_call ?_ | refine e_callC ?_ | refine c_C rfl rfl (by with_unfolding_all simp only [pick, List.cons_append, List.nil_append, List.append_nil, List.getElem?_cons_zero, List.getElem?_cons_succ]; rfl) ?_ | refine e_m1 ?_ | refine e_m0 ?_ | refine e_lc ?_ | refine e_lcm ?_
  | refine t_yes ?_ | refine t_tru ?_ | refine t_bl ?_ | refine t_and ?_ | refine t_or ?_ | refine t_not ?_ | refine w_bl ?_ | refine w_non ?_ | refine w_int ?_ | refine x_bl ?_ | refine x_int ?_ | refine x_str ?_
  | refine i_T ?_ | refine i_F ?_ | refine i_not ?_ | refine i_dT (by first | assumption | omega | (simp only [List.length_cons, List.length_nil]; omega)) ?_ | refine i_dF (by first | assumption | omega | (simp only [List.length_cons, List.length_nil]; omega)) ?_
  | refine g_nil ?_ | refine g_cons ?_ | refine g_tup (by with_unfolding_all rfl) ?_ | refine g_sub ?_
  | refine f_adI ?_ | refine f_adT (by assumption) (by assumption) (by decide) fun _ => ?_ | refine f_slT (by assumption) (by decide) fun _ => ?_ | refine f_lnTx (by assumption) (by decide) fun _ => ?_ | refine f_adS (by unfold sizeLine; omega) ?_ | refine f_adL (by unfold sizeLine; simp only [List.length_append, List.length_cons, List.length_nil]; omega) ?_ | refine f_sub ?_ | refine f_mod (by first | decide | omega) ?_ | refine f_div (by first | exact cdiv64 (by first | decide | omega) (by first | decide | omega)) ?_ | refine f_mul (by first | exact cmul64 (by first | decide | omega) (by first | decide | omega)) ?_ | refine f_pow (cpow_of (by decide) (by decide) (by first | decide | omega)) ?_ | refine f_neg ?_
  | refine f_ltI ?_ | refine f_leI ?_ | refine f_gtI ?_ | refine f_geI ?_ | refine f_leS ?_ | refine f_ltS ?_ | refine f_eqI ?_ | refine f_neI ?_ | refine f_inS ?_ | refine f_intB ?_ | refine f_intI ?_ | refine f_abs ?_ | refine f_max ?_ | refine f_min ?_ | refine f_lnS (by first | assumption | (unfold sizeLine; omega)) ?_ | refine f_lnL ?_ | refine f_lnK ?_ | refine f_lnT ?_ | refine f_stI (by assumption) ?_ | refine f_slS (by first | assumption | (unfold sizeLine; omega)) ?_
  | refine f_ix0 ?_ | refine f_ix1 ?_ | refine f_ix2 ?_ | refine f_ik0 ?_ | refine f_ik1 ?_ | refine f_ik2 ?_ | refine f_ic0 (by assumption) ?_ | refine f_ic1 (by assumption) ?_ | refine f_ic2 (by assumption) ?_ | refine f_se0 (by assumption) ?_ | refine f_se2 (by assumption) ?_ | refine f_it0 ?_ | refine f_it1 ?_ | refine f_it2 ?_
  | refine g_n0 ?_ | refine g_n1 ?_ | refine g_n2 ?_ | refine g_n3 ?_ | refine g_n4 ?_ | refine g_n5 ?_ | refine g_n6 ?_ | refine g_n7 ?_ | refine g_n8 ?_ | refine g_n9 ?_ | refine g_n10 ?_ | refine g_n11 ?_ | refine g_set (by simp only [List.set_cons_zero, List.set_cons_succ]; rfl) ?_)
theorem take_spec {b m : Nat} {κ : Kap} {X : Str → List D → Kap → Prop} {Q : DQ} {w : Int} (hB : Bx b m κ) (hm : m ≤ 2 ^ 29) (w0 : 0 < w) (w1 : w < 2 ^ 256)
    (h : ∀ r κ', 0 ≤ r → r < w → Bx b (m + 1) κ' → Fr b κ κ' → Q (.int r) κ') : sp__law_take [.cell b, .int w] κ X Q := by
  obtain ⟨x, y, z, e, hy, hy2, hz, hzm⟩ := hB
  have hd : ∀ i, CDivD i w := fun i => cdiv_of 256 (by omega) (by omega) (by decide)
  (unfold sp__law_take; refine s_sp rfl ?_; simp only [startD, List.map_cons, List.map_nil, List.length_cons, List.length_nil, Nat.zero_add, Nat.reduceAdd, Nat.reduceSub, List.replicate, List.cons_append, List.nil_append]; unfold b__law_take)
  (repeat walk_at "st")
  refine i_d (fun h0 => ?_) fun h0 => ?_
  · have hw := fm_bd x w w0
    (repeat walk_at "st")
    refine f_div (hd _) ?_
    (repeat walk_at "st")
    exact h _ _ hw.1 hw.2 ⟨_, y, z, kset_same, hy, hy2, hz, by omega⟩ Fr.box
  · (repeat walk_at "st")
    generalize hq : Int.fmod _ 2147483647 = q
    have h1 : 0 ≤ q ∧ q < 2147483647 := by rw [← hq]; exact fm_bd _ 2147483647 (by decide)
    (repeat walk_at "st")
    generalize hq2 : Int.fmod _ 2147483587 = q2
    have h2 : 0 ≤ q2 ∧ q2 < 2147483587 := by rw [← hq2]; exact fm_bd _ 2147483587 (by decide)
    (repeat walk_at "st")
    generalize Int.fdiv _ 16 = v
    have hw := fm_bd v w w0
    exact h _ _ hw.1 hw.2 ⟨_, y, z + 1, kset_same, hy, hy2, by omega, by omega⟩ Fr.box
theorem box_spec {κ : Kap} {X : Str → List D → Kap → Prop} {Q : DQ} {c : Int}
    (h : ∀ b κ', κ b = none → Bx b 0 κ' → (∀ n c, κ n = some c → κ' n = some c) → Q (.cell b) κ') : sp__law_box [.int c] κ X Q := by
  (unfold sp__law_box; refine s_sp rfl ?_; simp only [startD, List.map_cons, List.map_nil, List.length_cons, List.length_nil, Nat.zero_add, Nat.reduceAdd, Nat.reduceSub, List.replicate, List.cons_append, List.nil_append]; unfold b__law_box)
  (repeat walk_at "st")
  refine e_nwt fun n hn => ?_
  have hw := fm_bd c 2147483629 (by decide)
  refine h n _ hn ⟨_, _, 0, kset_same, hw.1, by omega, by decide, by decide⟩ fun m c e => ?_
  rw [kset_ne (kne e hn)]
  exact e
theorem cell_spec {κ : Kap} {X : Str → List D → Kap → Prop} {Q : DQ} {ns : List Int} {k : Nat} (hk : k < 100)
    (h : ∀ c : Int, Q (.int c) κ) : sp__law_cell [.node .klst (ns.map D.int), .int (k : Int)] κ X Q := by
  (unfold sp__law_cell; refine s_sp rfl ?_; simp only [startD, List.map_cons, List.map_nil, List.length_cons, List.length_nil, Nat.zero_add, Nat.reduceAdd, Nat.reduceSub, List.replicate, List.cons_append, List.nil_append]; unfold b__law_cell)
  (repeat walk_at "st")
  refine i_d (fun h0 => ?_) fun h0 => ?_
  · rw [List.length_map] at h0
    (repeat walk_at "st")
    have hk : k < ns.length := by omega
    exact ⟨_, at_nat (a := .int ns[k]) (by rw [List.getElem?_map, List.getElem?_eq_getElem hk]; rfl), h _⟩
  · (repeat walk_at "st")
    exact h _
theorem e_mkG {b : Bool} {c : Str} {ns : List Str} {n m : Nat} {is : List Nat} {as kw : DA} {δ : DEnv} {κ : Kap} {X : DX} {Q : DQ} (h : as δ κ X fun xs κ1 => kw δ κ1 X fun ys κ2 => cMk b c ns n m is xs ys κ2 Q) : dMkG b c ns n m is as kw δ κ X Q := h
theorem c_mk {b : Bool} {c : Str} {ns : List Str} {n m : Nat} {is : List Nat} {xs ys zs : List D} {κ : Kap} {Q : DQ} (h1 : xs.length = n) (h2 : ys.length = m) (h3 : n + m ≤ 100) (h4 : pick is (xs ++ ys) = zs) (h5 : zs.length = ns.length) (h : mkEnd b c ns zs.reverse κ Q) : cMk b c ns n m is xs ys κ Q :=
  ⟨h1, h2, h3, by rw [h4]; exact h5, by rw [h4]; exact h⟩
theorem m_F {c : Str} {ns : List Str} {zs : List D} {κ : Kap} {Q : DQ} (h : Q (.node (.exc c ns) zs.reverse) κ) : mkEnd false c ns zs.reverse κ Q := h
theorem m_T {c : Str} {ns : List Str} {zs : List D} {κ : Kap} {Q : DQ} (h : ∀ a, Q (.node (.exa c ns a) zs.reverse) κ) : mkEnd true c ns zs.reverse κ Q := h
theorem e_xv {xf : Str → Str → Bool} {f : Str} {a : DE} {δ : DEnv} {κ : Kap} {X : DX} {Q : DQ} (h : a δ κ X fun y κ1 => ∃ c ns xs d, exPart y = some (c, ns, xs) ∧ xf c f = true ∧ lookN ns xs f = some d ∧ Q d κ1) : dXv xf f a δ κ X Q := h
theorem e_dispT {prs : List (DE × DE)} {δ : DEnv} {κ : Kap} {X : DX} {Q : DQ} (h : ∀ n, κ n = none → dPairs prs δ (kset κ n (.live (.dct []) [])) X fun ps κ1 => κ1 n = some (.live (.dct []) []) ∧ ∃ ks : List L2.Key, ps.map (·.1) = ks.map keyD ∧ ks.Nodup ∧ ks.length ≤ 15 ∧ Q (.cell n) (kset κ1 n (.live (.dct ks) (ps.map (·.2))))) : dDisp true prs δ κ X Q := h
local macro_rules | `(tactic| walk_at "st") => `(tactic| with_reducible first | refine e_mkG ?_ | refine c_mk rfl rfl (by decide) (by with_unfolding_all simp only [pick, List.cons_append, List.nil_append, List.append_nil, List.getElem?_cons_zero, List.getElem?_cons_succ]; rfl) rfl ?_ | refine m_F ?_ | refine e_xv ?_)
/-! a drawn text -/
theorem text_spec {b m : Nat} {κ : Kap} {X : Str → List D → Kap → Prop} {Q : DQ} (hB : Bx b m κ) (hm : m ≤ 2 ^ 28)
    (h : ∀ x κ', Tx 20 x → Bx b (m + 21) κ' → Fr b κ κ' → Q (.str x) κ') : sp__law_text [.cell b] κ X Q := by
  have ls : (Str.ofString "abc XYZ.'~0").length = 11 := by decide +kernel
  have tsm := Tx.of _ (Nat.le_of_eq ls)
  (unfold sp__law_text; refine s_sp rfl ?_; simp only [startD, List.map_cons, List.map_nil, List.length_cons, List.length_nil, Nat.zero_add, Nat.reduceAdd, Nat.reduceSub, List.replicate, List.cons_append, List.nil_append]; unfold b__law_text)
  generalize Str.ofString "abc XYZ.'~0" = signs at ls tsm
  (repeat walk_at "st")
  refine take_spec hB (by omega) (by decide) (by decide) fun r κ2 r0 r1 B2 f2 => ?_
  (repeat walk_at "st")
  intro n hn
  have hne := B2.ne hn
  refine lcLoop_ix (fun i acc κ' => ∃ cs : List Str, acc = cs.map D.str ∧ cs.length = i ∧ (∀ y ∈ cs, Tx 1 y) ∧ κ' n = some (.live .lst acc) ∧ Bx b (m + 1 + i) κ' ∧ Fr b κ2 κ') ?_ ?_ ⟨[], rfl, rfl, by simp, kset_same, B2.set hne, Fr.set hn⟩
  · rintro acc κ' ⟨cs, rfl, hl, h1, e3, B3, f3⟩
    rw [rangeD_len] at hl B3
    refine ⟨trivial, e3, ?_⟩
    refine f_join h1 (by omega) fun w tw => ?_
    exact h w _ (tw.mono (by omega)) ((B3.set hne).mono (by omega)) (f2.trans (f3.put hn))
  · rintro i d acc κ' L hd hL ⟨cs, rfl, hl, h1, e3, B3, f3⟩
    obtain ⟨hi, rfl⟩ := rangeD_get hd
    refine ⟨trivial, ?_⟩
    rw [bi_inl]
    simp only [dwipe, List.set_cons_zero, List.set_cons_succ]
    (repeat walk_at "st")
    refine take_spec B3 (by omega) (by decide) (by decide) fun q κ5 q0 q1 B6 f6 => ?_
    refine f_ixS tsm (by decide) q0 (by omega) fun c tc => ?_
    refine ⟨f6 _ _ hne e3, by rw [List.length_map]; unfold sizeLine; omega, hL _ _ ⟨cs ++ [⟨#[c]⟩], by rw [List.map_append]; rfl, by rw [List.length_append, hl]; rfl, ?_, kset_same, (B6.mono (by omega)).set hne, (f3.trans f6).put hn⟩⟩
    intro y hy
    rcases List.mem_append.mp hy with hy | hy
    · exact h1 y hy
    · rw [List.mem_singleton.mp hy]
      exact tc
/-! a drawn thing -/
def Flat (d : D) : Prop := (∃ i, d = .int i) ∨ ∃ t, d = .str t ∧ Tx 25 t
/-- a thing of any kind, with the cells it stands on; g: it may have grown -/
inductive Th (κ : Kap) : Bool → List Nat → D → Prop
  | int (g : Bool) (i : Int) : Th κ g [] (.int i)
  | str (g : Bool) {t : Str} (h : Tx 25 t) : Th κ g [] (.str t)
  | non (g : Bool) : Th κ g [] .non
  | bl (g : Bool) : Th κ g [] (.bl true)
  | lst (g : Bool) {n : Nat} {xs : List D} (e : κ n = some (.live .lst xs)) (h : ∀ d ∈ xs, Flat d) (l : g = false → xs.length ≤ 5) : Th κ g [n] (.cell n)
  | tup (g : Bool) {n : Nat} {xs : List D} {t : Str} (ht : Tx 25 t) (e : κ n = some (.live .lst xs)) (h : ∀ d ∈ xs, Flat d) (l : g = false → xs.length ≤ 5) : Th κ g [n] (.node .tup [.str t, .cell n])
  | dct {n m : Nat} {xs : List D} (e : κ n = some (.live (.dct [.inr "a"]) [.cell m])) (e2 : κ m = some (.live .lst xs)) (h : ∀ d ∈ xs, Flat d) (l : xs.length ≤ 5) (ne : n ≠ m) : Th κ false [n, m] (.cell n)
  | dctG {n m : Nat} {ks : List L2.Key} {ys : List D} (e : κ n = some (.live (.dct ks) ys)) : Th κ true [n, m] (.cell n)
  | exa (g : Bool) {a : Addr} {t : Str} (ht : Tx 25 t) : Th κ g [] (.node (.exa "NoName" ["found"] a) [.str t])
theorem Th.keep {κ κ' : Kap} {g : Bool} {fp : List Nat} {x : D} (h : Th κ g fp x) (k : ∀ n ∈ fp, ∀ c, κ n = some c → κ' n = some c) : Th κ' g fp x := by
  cases h with
  | int => exact .int _ _
  | str _ t => exact .str _ t
  | non => exact .non _
  | bl => exact .bl _
  | lst _ e h l => exact .lst _ (k _ (by simp) _ e) h l
  | tup _ t e h l => exact .tup _ t (k _ (by simp) _ e) h l
  | dct e e2 h l ne => exact .dct (k _ (by simp) _ e) (k _ (by simp) _ e2) h l ne
  | dctG e => exact .dctG (k _ (by simp) _ e)
  | exa _ t => exact .exa _ t
theorem Th.is {κ : Kap} {fp : List Nat} {x : D} (h : Th κ false fp x) : ∀ n ∈ fp, ∃ c, κ n = some c := by
  generalize hg : false = g' at h
  cases h with
  | lst _ e h l => intro n hn; rw [List.mem_singleton.mp hn]; exact ⟨_, e⟩
  | tup _ t e h l => intro n hn; rw [List.mem_singleton.mp hn]; exact ⟨_, e⟩
  | dct e e2 h l ne =>
    intro n hn
    simp only [List.mem_cons, List.not_mem_nil, or_false] at hn
    rcases hn with rfl | rfl
    · exact ⟨_, e⟩
    · exact ⟨_, e2⟩
  | dctG => cases hg
  | _ => intro n hn; cases hn
theorem kno {κ : Kap} {n m : Nat} {c : Cell} (h : kset κ n c m = none) : m ≠ n ∧ κ m = none := by
  by_cases e : m = n
  · rw [e, kset_same] at h
    cases h
  · exact ⟨e, by rw [kset_ne e] at h; exact h⟩
theorem thing_spec {b m : Nat} {κ : Kap} {X : Str → List D → Kap → Prop} {Q : DQ} (hB : Bx b m κ) (hm : m ≤ 2 ^ 27)
    (h : ∀ fp x κ', (∀ n ∈ fp, κ n = none) → Th κ' false fp x → Bx b (m + 30) κ' → Fr b κ κ' → Q x κ') : sp__law_thing [.cell b] κ X Q := by
  (unfold sp__law_thing; refine s_sp rfl ?_; simp only [startD, List.map_cons, List.map_nil, List.length_cons, List.length_nil, Nat.zero_add, Nat.reduceAdd, Nat.reduceSub, List.replicate, List.cons_append, List.nil_append]; unfold b__law_thing)
  (repeat walk_at "st")
  refine take_spec hB (by omega) (by decide) (by decide) fun v κ1 v0 v1 B1 f1 => ?_
  (repeat walk_at "st")
  refine text_spec B1 (by omega) fun t κ2 tt B2 f2 => ?_
  have tt := tt.mono (m := 25) (by decide)
  have f12 := f1.trans f2
  have no : ∀ n, κ2 n = none → κ n = none := fun n e => by
    cases hq : κ n with
    | none => rfl
    | some c =>
      by_cases hb : n = b
      · rw [hb] at e
        obtain ⟨_, _, z⟩ := B2.is
        rw [e] at z
        cases z
      · rw [f12 n c hb hq] at e
        cases e
  have hdv : Flat (.int v) := .inl ⟨v, rfl⟩
  have hdt : Flat (.str t) := .inr ⟨t, rfl, tt⟩
  (repeat walk_at "st")
  refine e_nwt fun n1 h1 => ?_
  (repeat walk_at "st")
  refine e_nwt fun n2 h2 => ?_
  (repeat walk_at "st")
  refine e_dispT fun n3 h3 => ?_
  (repeat walk_at "st")
  refine e_nwt fun n4 h4 => ?_
  (repeat walk_at "st")
  obtain ⟨a1, h2⟩ := kno h2
  obtain ⟨a2, h3⟩ := kno h3
  obtain ⟨a3, h3⟩ := kno h3
  obtain ⟨a4, h4⟩ := kno h4
  obtain ⟨a5, h4⟩ := kno h4
  obtain ⟨a6, h4⟩ := kno h4
  refine ⟨by rw [kset_ne a4.symm, kset_same], [.inr "a"], rfl, by simp, by decide, ?_⟩
  (repeat walk_at "st")
  refine e_nwt fun n5 h5 => ?_
  obtain ⟨b1, h5⟩ := kno h5
  obtain ⟨b2, h5⟩ := kno h5
  obtain ⟨b3, h5⟩ := kno h5
  obtain ⟨b4, h5⟩ := kno h5
  obtain ⟨b5, h5⟩ := kno h5
  (repeat walk_at "st")
  refine m_T fun a => ?_
  (repeat walk_at "st")
  have B5 : Bx b (m + 22) κ2 := B2.mono (by omega)
  refine take_spec (((((B5.set (B2.ne h1)).set (B2.ne h2)).set (B2.ne h3)).set (B2.ne h4)).set (B2.ne h3) |>.set (B2.ne h5)) (by omega) (by decide) (by decide) fun r κ8 r0 r1 B8 f8 => ?_
  have F : Fr b κ κ8 := ((((((f12.put (no _ h1)).put (no _ h2)).put (no _ h3)).put (no _ h4)).put (no _ h3)).put (no _ h5)).trans f8
  have B9 : Bx b (m + 30) κ8 := B8.mono (by omega)
  refine ix_mem r0 r1 fun d hd => ?_
  have at_ : ∀ n c, n ≠ b → kset (kset (kset (kset (kset (kset κ2 n1 (Cell.live Kd.lst [D.int v, D.str t])) n2 (Cell.live Kd.lst [D.int v])) n3 (Cell.live (Kd.dct []) [])) n4 (Cell.live Kd.lst [D.str t])) n3 (Cell.live (Kd.dct [Sum.inr (Str.ofString "a")]) [D.cell n4])) n5 (Cell.live Kd.lst []) n = some c → κ8 n = some c := fun n c hn e => f8 n c hn e
  have c1 := at_ n1 (.live .lst [.int v, .str t]) (B2.ne h1) (by unfold kset; simp [a1, a2, a3, a4, a5, a6, b1, b2, b4, b5, a1.symm, a2.symm, a3.symm, a4.symm, a5.symm, a6.symm, b1.symm, b2.symm, b4.symm, b5.symm])
  have c2 := at_ n2 (.live .lst [.int v]) (B2.ne h2) (by unfold kset; simp [a1, a2, a3, a4, a5, a6, b1, b2, b4, b5, a1.symm, a2.symm, a3.symm, a4.symm, a5.symm, a6.symm, b1.symm, b2.symm, b4.symm, b5.symm])
  have c3 := at_ n3 (.live (.dct [.inr "a"]) [.cell n4]) (B2.ne h3) (by unfold kset; simp [a1, a2, a3, a4, a5, a6, b1, b2, b4, b5, a1.symm, a2.symm, a3.symm, a4.symm, a5.symm, a6.symm, b1.symm, b2.symm, b4.symm, b5.symm])
  have c4 := at_ n4 (.live .lst [.str t]) (B2.ne h4) (by unfold kset; simp [a1, a2, a3, a4, a5, a6, b1, b2, b4, b5, a1.symm, a2.symm, a3.symm, a4.symm, a5.symm, a6.symm, b1.symm, b2.symm, b4.symm, b5.symm])
  have c5 := at_ n5 (.live .lst []) (B2.ne h5) (by unfold kset; simp [a1, a2, a3, a4, a5, a6, b1, b2, b4, b5, a1.symm, a2.symm, a3.symm, a4.symm, a5.symm, a6.symm, b1.symm, b2.symm, b4.symm, b5.symm])
  simp only [List.mem_cons, List.not_mem_nil, or_false] at hd
  have none_ : ∀ n ∈ ([] : List Nat), κ n = none := fun n hn => nomatch hn
  have one : ∀ {n : Nat}, κ2 n = none → ∀ k ∈ [n], κ k = none := fun e k hk => by rw [List.mem_singleton.mp hk]; exact no _ e
  rcases hd with rfl | rfl | rfl | rfl | rfl | rfl | rfl | rfl | rfl | rfl
  · exact h _ _ _ none_ (.int _ _) B9 F
  · exact h _ _ _ none_ (.int _ _) B9 F
  · exact h _ _ _ none_ (.str _ tt) B9 F
  · exact h _ _ _ none_ (.non _) B9 F
  · exact h _ _ _ none_ (.bl _) B9 F
  · exact h _ _ _ (one h1) (.lst _ c1 (fun d hd => by
      simp only [List.mem_cons, List.not_mem_nil, or_false] at hd
      rcases hd with rfl | rfl
      · exact hdv
      · exact hdt) (fun _ => by simp)) B9 F
  · exact h _ _ _ (one h2) (.tup _ tt c2 (fun d hd => by
      rw [List.mem_singleton.mp hd]
      exact hdv) (fun _ => by simp)) B9 F
  · refine h _ _ _ ?_ (.dct c3 c4 (fun d hd => by
      rw [List.mem_singleton.mp hd]
      exact hdt) (by simp) a4.symm) B9 F
    intro n hn
    simp only [List.mem_cons, List.not_mem_nil, or_false] at hn
    rcases hn with rfl | rfl
    · exact no _ h3
    · exact no _ h4
  · exact h _ _ _ (one h5) (.lst _ c5 (fun d hd => nomatch hd) (fun _ => by simp)) B9 F
  · exact h _ _ _ none_ (.exa _ tt) B9 F
local macro_rules | `(tactic| walk_at "st") => `(tactic| with_reducible first | refine e_mkG ?_ | refine c_mk rfl rfl (by decide) (by with_unfolding_all simp only [pick, List.cons_append, List.nil_append, List.append_nil, List.getElem?_cons_zero, List.getElem?_cons_succ]; rfl) rfl ?_ | refine m_F ?_ | refine e_xv ?_)
theorem flat_pd : ∀ {xs : List D}, (∀ d ∈ xs, Flat d) → ∃ ps, pdataL xs = some ps ∧ (∀ p ∈ ps, Sp 0 p) ∧ ∀ p ∈ ps, PyData.eqv p p = true
  | [], _ => ⟨[], rfl, (fun _ h => nomatch h), (fun _ h => nomatch h)⟩
  | x :: xs, h => by
    obtain ⟨ps, h1, h2, h3⟩ := flat_pd fun d hd => h d (List.mem_cons_of_mem _ hd)
    rcases h x List.mem_cons_self with ⟨i, rfl⟩ | ⟨t, rfl, tt⟩
    · exact ⟨.int i :: ps, by simp only [pdataL, pdata, h1], List.forall_mem_cons.mpr ⟨Sp.int, h2⟩, List.forall_mem_cons.mpr ⟨by rw [eqv_int]; exact decide_eq_true rfl, h3⟩⟩
    · exact ⟨.str t :: ps, by simp only [pdataL, pdata, h1], List.forall_mem_cons.mpr ⟨Sp.str tt, h2⟩, List.forall_mem_cons.mpr ⟨by simp [PyData.eqv], h3⟩⟩
/-- it is itself -/
theorem Th.self {κ : Kap} {g : Bool} {fp : List Nat} {x : D} (h : Th κ g fp x) {Q : DQ} (q : Q (.bl false) κ) : fNeX nx x x κ Q := by
  have dat : ∀ {p : PyData}, Pd κ x p → Sp 2 p → PyData.eqv p p = true → fNeX nx x x κ Q := fun {p} a b c => .inl ⟨p, p, a, a, b.shaped (by decide), b.shaped (by decide), by show Q (.bl (!PyData.eqv p p)) κ; rw [c]; exact q⟩
  cases h with
  | int _ i => exact dat (.int i) (Sp.int.mono (by decide)) (by rw [eqv_int]; exact decide_eq_true rfl)
  | str _ t => exact dat (.str _) ((Sp.str t).mono (by decide)) (by simp [PyData.eqv])
  | non => exact dat .non (Sp.none.mono (by decide)) (by simp [PyData.eqv])
  | bl => exact dat (.bl true) (Sp.bool.mono (by decide)) (by simp [PyData.eqv])
  | lst _ e h l =>
    obtain ⟨ps, h1, h2, h3⟩ := flat_pd h
    exact dat (pd_cl e h1) ((Sp.list h2).mono (by decide)) (by rw [show PyData.eqv (.list ps) (.list ps) = PyData.eqvAll ps ps by simp [PyData.eqv]]; exact eqvAll_refl h3)
  | @tup _ n xs t tt e h l =>
    obtain ⟨ps, h1, h2, h3⟩ := flat_pd h
    refine dat (p := .tuple [.str t, .list ps]) (.tup rfl (.cons (.str t) (.cons (pd_cl e h1) .nil))) (Sp.tuple (k := 1) fun p hp => ?_) ?_
    · simp only [List.mem_cons, List.not_mem_nil, or_false] at hp
      rcases hp with rfl | rfl
      · exact (Sp.str tt).mono (by decide)
      · exact Sp.list h2
    · have := eqvAll_refl h3
      simp [PyData.eqv, PyData.eqvAll, this]
  | dct e _ _ _ _ => exact .inr ⟨rfl, ⟨_, _, e⟩, q⟩
  | dctG e => exact .inr ⟨rfl, ⟨_, _, e⟩, q⟩
  | exa _ t => exact .inr ⟨rfl, rfl, q⟩
/-- the kinds of a thing -/
theorem isi_k {κ : Kap} {Q : DQ} {x : D} {n : String} (t : TyK) (b : Bool) (h1 : tyK x κ = some t) (h2 : kt t (.b n) = some b) (h : Q (.bl b) κ) : fIsi kt [x, .ty n] κ Q := ⟨t, b, h1, h2, h⟩
theorem ty_lc {κ : Kap} {n : Nat} {k : Kd} {xs : List D} (e : κ n = some (.live k xs)) : tyK (.cell n) κ = kdTy k := ty_cell e
theorem grow {xs : List D} (h : ∀ d ∈ xs, Flat d) : ∀ d ∈ xs ++ [.str "more"], Flat d := fun d hd => by
  rcases List.mem_append.mp hd with hd | hd
  · exact h d hd
  · rw [List.mem_singleton.mp hd]
    exact .inr ⟨_, rfl, Tx.of _ (by decide +kernel)⟩
/-- grown -/
theorem grown_spec {κ : Kap} {fp : List Nat} {x : D} {X : Str → List D → Kap → Prop} {Q : DQ} (h : Th κ false fp x) (q : ∀ κ', Th κ' true fp x → (∀ n, n ∉ fp → κ' n = κ n) → Q .non κ') : sp__law_grown [x] κ X Q := by
  have same : Th κ true fp x → Q .non κ := fun t => q κ t fun _ _ => rfl
  have more : Flat (.str "more") := .inr ⟨_, rfl, Tx.of _ (by decide +kernel)⟩
  (unfold sp__law_grown; refine s_sp rfl ?_; simp only [startD, List.map_cons, List.map_nil, List.length_cons, List.length_nil, Nat.zero_add, Nat.reduceAdd, Nat.reduceSub, List.replicate, List.cons_append, List.nil_append]; unfold b__law_grown)
  generalize hg : false = g at h
  cases h with
  | int _ i =>
    (repeat walk_at "st")
    refine isi_k (.b "int") false rfl (by decide +kernel) ?_
    (repeat walk_at "st")
    refine isi_k (.b "int") false rfl (by decide +kernel) ?_
    (repeat walk_at "st")
    refine isi_k (.b "int") false rfl (by decide +kernel) ?_
    (repeat walk_at "st")
    exact same (.int _ i)
  | str _ t =>
    (repeat walk_at "st")
    refine isi_k (.b "str") false rfl (by decide +kernel) ?_
    (repeat walk_at "st")
    refine isi_k (.b "str") false rfl (by decide +kernel) ?_
    (repeat walk_at "st")
    refine isi_k (.b "str") false rfl (by decide +kernel) ?_
    (repeat walk_at "st")
    exact same (.str _ t)
  | non =>
    (repeat walk_at "st")
    refine isi_k (.b "NoneType") false rfl (by decide +kernel) ?_
    (repeat walk_at "st")
    refine isi_k (.b "NoneType") false rfl (by decide +kernel) ?_
    (repeat walk_at "st")
    refine isi_k (.b "NoneType") false rfl (by decide +kernel) ?_
    (repeat walk_at "st")
    exact same (.non _)
  | bl =>
    (repeat walk_at "st")
    refine isi_k (.b "bool") false rfl (by decide +kernel) ?_
    (repeat walk_at "st")
    refine isi_k (.b "bool") false rfl (by decide +kernel) ?_
    (repeat walk_at "st")
    refine isi_k (.b "bool") false rfl (by decide +kernel) ?_
    (repeat walk_at "st")
    exact same (.bl _)
  | exa _ t =>
    (repeat walk_at "st")
    refine isi_k (.e "NoName") false rfl (by decide +kernel) ?_
    (repeat walk_at "st")
    refine isi_k (.e "NoName") false rfl (by decide +kernel) ?_
    (repeat walk_at "st")
    refine isi_k (.e "NoName") false rfl (by decide +kernel) ?_
    (repeat walk_at "st")
    exact same (.exa _ t)
  | @lst _ n xs e hf l =>
    (repeat walk_at "st")
    refine isi_k (.b "list") true (ty_lc e) (by decide +kernel) ?_
    (repeat walk_at "st")
    refine isq_cell e ?_
    (repeat walk_at "st")
    refine f_app e (by have := l hg.symm; omega) ?_
    have e' : kset κ n (.live .lst (xs ++ [.str "more"])) n = some (.live .lst (xs ++ [.str "more"])) := kset_same
    (repeat walk_at "st")
    refine isi_k (.b "list") false (ty_lc e') (by decide +kernel) ?_
    (repeat walk_at "st")
    refine isi_k (.b "list") false (ty_lc e') (by decide +kernel) ?_
    (repeat walk_at "st")
    exact q _ (.lst _ e' (grow hf) (fun z => nomatch z)) fun k hk => kset_ne fun z => hk (by rw [z]; exact List.mem_singleton.mpr rfl)
  | @tup _ n xs t tt e hf l =>
    (repeat walk_at "st")
    refine isi_k (.b "tuple") false rfl (by decide +kernel) ?_
    (repeat walk_at "st")
    refine isi_k (.b "tuple") true rfl (by decide +kernel) ?_
    (repeat walk_at "st")
    refine isq_cell e ?_
    (repeat walk_at "st")
    refine f_app e (by have := l hg.symm; omega) ?_
    (repeat walk_at "st")
    refine isi_k (.b "tuple") false rfl (by decide +kernel) ?_
    (repeat walk_at "st")
    exact q _ (.tup _ tt kset_same (grow hf) (fun z => nomatch z)) fun k hk => kset_ne fun z => hk (by rw [z]; exact List.mem_singleton.mpr rfl)
  | dctG => cases hg
  | @dct n m xs e e2 hf l ne =>
    (repeat walk_at "st")
    refine isi_k (.b "dict") false (ty_lc e) (by decide +kernel) ?_
    (repeat walk_at "st")
    refine isi_k (.b "dict") false (ty_lc e) (by decide +kernel) ?_
    (repeat walk_at "st")
    refine isi_k (.b "dict") true (ty_lc e) (by decide +kernel) ?_
    (repeat walk_at "st")
    refine f_setD (k := .inr "more") e rfl (by decide) ?_
    have e' : kset κ n (.live (.dct (putKs [.inr "a"] (.inr "more"))) (putVs [.inr "a"] [.cell m] (.inr "more") (.int 7))) n = some (.live (.dct (putKs [.inr "a"] (.inr "more"))) (putVs [.inr "a"] [.cell m] (.inr "more") (.int 7))) := kset_same
    have e3 : kset κ n (.live (.dct (putKs [.inr "a"] (.inr "more"))) (putVs [.inr "a"] [.cell m] (.inr "more") (.int 7))) m = some (.live .lst xs) := by rw [kset_ne ne.symm]; exact e2
    (repeat walk_at "st")
    refine ⟨_, _, .inr "a", .cell m, vw_cell e', rfl, by first | rfl | with_unfolding_all rfl, ?_⟩
    (repeat walk_at "st")
    refine isq_cell e3 ?_
    (repeat walk_at "st")
    refine f_app e3 (by omega) ?_
    (repeat walk_at "st")
    exact q _ (.dctG (by rw [kset_ne ne]; exact e')) fun k hk => by
      simp only [List.mem_cons, List.not_mem_nil, or_false, not_or] at hk
      rw [kset_ne hk.2, kset_ne hk.1]
local macro_rules | `(tactic| walk_at "st") => `(tactic| with_reducible first | refine e_mkG ?_ | refine c_mk rfl rfl (by decide) (by with_unfolding_all simp only [pick, List.cons_append, List.nil_append, List.append_nil, List.getElem?_cons_zero, List.getElem?_cons_succ]; rfl) rfl ?_ | refine m_F ?_ | refine e_xv ?_)
def nms : List Str := [("NoNumber" : Str), ("NoName" : Str), ("NoText" : Str), ("NoPlace" : Str), ("NoWay" : Str), ("NoRound" : Str), ("NoOutline" : Str), ("NoPoint" : Str), ("NoProgram" : Str), ("NoWord" : Str), ("NoFont" : Str), ("NoWorths" : Str), ("NoLetter" : Str), ("NoParts" : Str), ("NoSize" : Str), ("NoZone" : Str), ("NoCells" : Str), ("NoChoices" : Str), ("NoLine" : Str), ("NoLimit" : Str), ("Crossed" : Str), ("TooMany" : Str), ("Deep" : Str), ("NoRow" : Str), ("Fault" : Str), ("NoEntry" : Str), ("Unready" : Str), ("NoDefinition" : Str), ("NoSuch" : Str), ("NoBase" : Str)]
def exs (x y : D) : List D := [(.node (.exc "NoNumber" ["found"]) [x] : D), (.node (.exc "NoName" ["found"]) [x] : D), (.node (.exc "NoText" ["found"]) [x] : D), (.node (.exc "NoPlace" ["found"]) [x] : D), (.node (.exc "NoWay" ["found"]) [x] : D), (.node (.exc "NoRound" ["found"]) [x] : D), (.node (.exc "NoOutline" ["found"]) [x] : D), (.node (.exc "NoPoint" ["found"]) [x] : D), (.node (.exc "NoProgram" ["found"]) [x] : D), (.node (.exc "NoWord" ["found"]) [x] : D), (.node (.exc "NoFont" ["found"]) [x] : D), (.node (.exc "NoWorths" ["found"]) [x] : D), (.node (.exc "NoLetter" ["found"]) [x] : D), (.node (.exc "NoParts" ["found"]) [x] : D), (.node (.exc "NoSize" ["found"]) [x] : D), (.node (.exc "NoZone" ["found"]) [x] : D), (.node (.exc "NoCells" ["found"]) [x] : D), (.node (.exc "NoChoices" ["found"]) [x] : D), (.node (.exc "NoLine" ["found"]) [x] : D), (.node (.exc "NoLimit" ["found"]) [x] : D), (.node (.exc "Crossed" ["other", "one"]) [y, x] : D), (.node (.exc "TooMany" ["many"]) [x] : D), (.node (.exc "Deep" ["at"]) [x] : D), (.node (.exc "NoRow" ["at"]) [x] : D), (.node (.exc "Fault" ["why", "done"]) [y, x] : D), (.node (.exc "NoEntry" ["found"]) [x] : D), (.node (.exc "Unready" []) [] : D), (.node (.exc "NoDefinition" ["found"]) [x] : D), (.node (.exc "NoSuch" ["found"]) [x] : D), (.node (.exc "NoBase" ["found"]) [x] : D)]
def kd (c d : Str) : Bool := (kt (.e c) (.c d)).getD false
theorem kd_all : ∀ c ∈ nms, ∀ d ∈ nms, kt (.e c) (.c d) = some (kd c d) := by decide +kernel
theorem isi_g {κ : Kap} {Q : DQ} {c d : Str} {ns : List Str} {xs : List D} (b : Bool) (h2 : kt (.e c) (.c d) = some b) (h : Q (.bl b) κ) : fIsi kt [.node (.exc c ns) xs, .glb d] κ Q := ⟨.e c, b, rfl, h2, h⟩
theorem mk_p {κ : Kap} {X : DX} {Q : List D → Kap → Prop} {δ : DEnv} {as : DA} {c f : Str} {i : Nat} {x : D} (e0 : δ[i]? = some (some x)) (h : as δ κ X fun zs κ1 => Q (.node (.exc c [f]) [x] :: zs) κ1) :
    dCons (dMkG false c [f] 1 0 [0] (dCons (dVar i) dNil) dNil) as δ κ X Q := e_cons (e_mkG (e_cons (e_var e0 (e_nil (e_nil (c_mk (zs := [x]) rfl rfl (by decide) rfl rfl (m_F h)))))))
theorem mk_k {κ : Kap} {X : DX} {Q : List D → Kap → Prop} {δ : DEnv} {as : DA} {c f : Str} {i : Nat} {x : D} (e0 : δ[i]? = some (some x)) (h : as δ κ X fun zs κ1 => Q (.node (.exc c [f]) [x] :: zs) κ1) :
    dCons (dMkG false c [f] 0 1 [0] dNil (dCons (dVar i) dNil)) as δ κ X Q := e_cons (e_mkG (e_nil (e_cons (e_var e0 (e_nil (c_mk (zs := [x]) rfl rfl (by decide) rfl rfl (m_F h)))))))
theorem kinds_spec {κ : Kap} {X : Str → List D → Kap → Prop} {Q : DQ} {c : Str} {ns : List Str} {xs : List D} (hk : ∀ d ∈ nms, kt (.e c) (.c d) = some (kd c d)) (h : Q (.node .lst (nms.map fun d => .bl (kd c d))) κ) :
    sp__law_kinds [.node (.exc c ns) xs] κ X Q := by
  (unfold sp__law_kinds; refine s_sp rfl ?_; simp only [startD, List.map_cons, List.map_nil, List.length_cons, List.length_nil, Nat.zero_add, Nat.reduceAdd, Nat.reduceSub, List.replicate, List.cons_append, List.nil_append]; unfold b__law_kinds)
  (repeat walk_at "st")
  refine isi_g _ (hk _ (List.mem_of_getElem? (i := 0) rfl)) ?_
  (repeat walk_at "st")
  refine isi_g _ (hk _ (List.mem_of_getElem? (i := 1) rfl)) ?_
  (repeat walk_at "st")
  refine isi_g _ (hk _ (List.mem_of_getElem? (i := 2) rfl)) ?_
  (repeat walk_at "st")
  refine isi_g _ (hk _ (List.mem_of_getElem? (i := 3) rfl)) ?_
  (repeat walk_at "st")
  refine isi_g _ (hk _ (List.mem_of_getElem? (i := 4) rfl)) ?_
  (repeat walk_at "st")
  refine isi_g _ (hk _ (List.mem_of_getElem? (i := 5) rfl)) ?_
  (repeat walk_at "st")
  refine isi_g _ (hk _ (List.mem_of_getElem? (i := 6) rfl)) ?_
  (repeat walk_at "st")
  refine isi_g _ (hk _ (List.mem_of_getElem? (i := 7) rfl)) ?_
  (repeat walk_at "st")
  refine isi_g _ (hk _ (List.mem_of_getElem? (i := 8) rfl)) ?_
  (repeat walk_at "st")
  refine isi_g _ (hk _ (List.mem_of_getElem? (i := 9) rfl)) ?_
  (repeat walk_at "st")
  refine isi_g _ (hk _ (List.mem_of_getElem? (i := 10) rfl)) ?_
  (repeat walk_at "st")
  refine isi_g _ (hk _ (List.mem_of_getElem? (i := 11) rfl)) ?_
  (repeat walk_at "st")
  refine isi_g _ (hk _ (List.mem_of_getElem? (i := 12) rfl)) ?_
  (repeat walk_at "st")
  refine isi_g _ (hk _ (List.mem_of_getElem? (i := 13) rfl)) ?_
  (repeat walk_at "st")
  refine isi_g _ (hk _ (List.mem_of_getElem? (i := 14) rfl)) ?_
  (repeat walk_at "st")
  refine isi_g _ (hk _ (List.mem_of_getElem? (i := 15) rfl)) ?_
  (repeat walk_at "st")
  refine isi_g _ (hk _ (List.mem_of_getElem? (i := 16) rfl)) ?_
  (repeat walk_at "st")
  refine isi_g _ (hk _ (List.mem_of_getElem? (i := 17) rfl)) ?_
  (repeat walk_at "st")
  refine isi_g _ (hk _ (List.mem_of_getElem? (i := 18) rfl)) ?_
  (repeat walk_at "st")
  refine isi_g _ (hk _ (List.mem_of_getElem? (i := 19) rfl)) ?_
  (repeat walk_at "st")
  refine isi_g _ (hk _ (List.mem_of_getElem? (i := 20) rfl)) ?_
  (repeat walk_at "st")
  refine isi_g _ (hk _ (List.mem_of_getElem? (i := 21) rfl)) ?_
  (repeat walk_at "st")
  refine isi_g _ (hk _ (List.mem_of_getElem? (i := 22) rfl)) ?_
  (repeat walk_at "st")
  refine isi_g _ (hk _ (List.mem_of_getElem? (i := 23) rfl)) ?_
  (repeat walk_at "st")
  refine isi_g _ (hk _ (List.mem_of_getElem? (i := 24) rfl)) ?_
  (repeat walk_at "st")
  refine isi_g _ (hk _ (List.mem_of_getElem? (i := 25) rfl)) ?_
  (repeat walk_at "st")
  refine isi_g _ (hk _ (List.mem_of_getElem? (i := 26) rfl)) ?_
  (repeat walk_at "st")
  refine isi_g _ (hk _ (List.mem_of_getElem? (i := 27) rfl)) ?_
  (repeat walk_at "st")
  refine isi_g _ (hk _ (List.mem_of_getElem? (i := 28) rfl)) ?_
  (repeat walk_at "st")
  refine isi_g _ (hk _ (List.mem_of_getElem? (i := 29) rfl)) ?_
  (repeat walk_at "st")
  exact h
theorem made_spec {κ : Kap} {X : Str → List D → Kap → Prop} {Q : DQ} {x y : D} (h : Q (.node .lst (exs x y)) κ) : sp__law_made [x, y] κ X Q := by
  (unfold sp__law_made; refine s_sp rfl ?_; simp only [startD, List.map_cons, List.map_nil, List.length_cons, List.length_nil, Nat.zero_add, Nat.reduceAdd, Nat.reduceSub, List.replicate, List.cons_append, List.nil_append]; unfold b__law_made)
  (repeat first | with_reducible refine mk_p (by with_unfolding_all rfl) ?_ | walk_at "st")
  exact h
theorem named_spec {κ : Kap} {X : Str → List D → Kap → Prop} {Q : DQ} {x y : D} (h : Q (.node .lst (exs x y)) κ) : sp__law_named [x, y] κ X Q := by
  (unfold sp__law_named; refine s_sp rfl ?_; simp only [startD, List.map_cons, List.map_nil, List.length_cons, List.length_nil, Nat.zero_add, Nat.reduceAdd, Nat.reduceSub, List.replicate, List.cons_append, List.nil_append]; unfold b__law_named)
  (repeat first | with_reducible refine mk_k (by with_unfolding_all rfl) ?_ | walk_at "st")
  exact h
theorem fld20 {x y : D} : ∀ d ∈ cutD (exs x y) none (some 20), ∃ c, d = .node (.exc c ["found"]) [x] ∧ xf c "found" = true := by
  intro d hd
  have hd' : d ∈ [(.node (.exc "NoNumber" ["found"]) [x] : D), (.node (.exc "NoName" ["found"]) [x] : D), (.node (.exc "NoText" ["found"]) [x] : D), (.node (.exc "NoPlace" ["found"]) [x] : D), (.node (.exc "NoWay" ["found"]) [x] : D), (.node (.exc "NoRound" ["found"]) [x] : D), (.node (.exc "NoOutline" ["found"]) [x] : D), (.node (.exc "NoPoint" ["found"]) [x] : D), (.node (.exc "NoProgram" ["found"]) [x] : D), (.node (.exc "NoWord" ["found"]) [x] : D), (.node (.exc "NoFont" ["found"]) [x] : D), (.node (.exc "NoWorths" ["found"]) [x] : D), (.node (.exc "NoLetter" ["found"]) [x] : D), (.node (.exc "NoParts" ["found"]) [x] : D), (.node (.exc "NoSize" ["found"]) [x] : D), (.node (.exc "NoZone" ["found"]) [x] : D), (.node (.exc "NoCells" ["found"]) [x] : D), (.node (.exc "NoChoices" ["found"]) [x] : D), (.node (.exc "NoLine" ["found"]) [x] : D), (.node (.exc "NoLimit" ["found"]) [x] : D)] := hd
  simp only [List.mem_cons, List.not_mem_nil, or_false] at hd'
  rcases hd' with rfl | rfl | rfl | rfl | rfl | rfl | rfl | rfl | rfl | rfl | rfl | rfl | rfl | rfl | rfl | rfl | rfl | rfl | rfl | rfl <;> exact ⟨_, rfl, by decide +kernel⟩
theorem fields_spec {κ : Kap} {X : Str → List D → Kap → Prop} {Q : DQ} {x y : D} (h : ∀ κ', (∀ n c, κ n = some c → κ' n = some c) → Q (.node .lst (List.replicate 29 x)) κ') : sp__law_fields [.node .lst (exs x y)] κ X Q := by
  (unfold sp__law_fields; refine s_sp rfl ?_; simp only [startD, List.map_cons, List.map_nil, List.length_cons, List.length_nil, Nat.zero_add, Nat.reduceAdd, Nat.reduceSub, List.replicate, List.cons_append, List.nil_append]; unfold b__law_fields)
  (repeat walk_at "st")
  intro n hn
  have l20 : (cutD (exs x y) none (some 20)).length = 20 := rfl
  refine lcLoop_ix (fun i acc κ' => acc = List.replicate i x ∧ κ' n = some (.live .lst acc) ∧ ∀ k c, κ k = some c → κ' k = some c) ?_ ?_ ⟨rfl, kset_same, fun k c e => by rw [kset_ne (kne e hn)]; exact e⟩
  · rintro acc κ' ⟨rfl, e3, f3⟩
    rw [l20] at e3 ⊢
    refine ⟨trivial, e3, ?_⟩
    have f4 : ∀ k c, κ k = some c → kset κ' n .dead k = some c := fun k c e => by rw [kset_ne (kne e hn)]; exact f3 k c e
    have h' := h _ f4
    generalize kset κ' n .dead = κ4 at h'
    have c1 : cutD (exs x y) (some 20) (some 25) = [(.node (.exc "Crossed" ["other", "one"]) [y, x] : D), (.node (.exc "TooMany" ["many"]) [x] : D), (.node (.exc "Deep" ["at"]) [x] : D), (.node (.exc "NoRow" ["at"]) [x] : D), (.node (.exc "Fault" ["why", "done"]) [y, x] : D)] := rfl
    have c2 : cutD (exs x y) (some 25) none = [(.node (.exc "NoEntry" ["found"]) [x] : D), (.node (.exc "Unready" []) [] : D), (.node (.exc "NoDefinition" ["found"]) [x] : D), (.node (.exc "NoSuch" ["found"]) [x] : D), (.node (.exc "NoBase" ["found"]) [x] : D)] := rfl
    (repeat walk_at "st")
    rw [c1]
    (repeat walk_at "st")
    refine ⟨_, _, _, x, rfl, by decide +kernel, by rfl, ?_⟩
    (repeat walk_at "st")
    refine ⟨_, _, _, x, rfl, by decide +kernel, by rfl, ?_⟩
    (repeat walk_at "st")
    refine ⟨_, _, _, x, rfl, by decide +kernel, by rfl, ?_⟩
    (repeat walk_at "st")
    refine f_ixN (i := 3) rfl ?_
    refine ⟨_, _, _, x, rfl, by decide +kernel, by rfl, ?_⟩
    (repeat walk_at "st")
    refine f_ixN (i := 4) rfl ?_
    refine ⟨_, _, _, x, rfl, by decide +kernel, by rfl, ?_⟩
    (repeat walk_at "st")
    refine f_adL (by simp [sizeLine]) ?_
    (repeat walk_at "st")
    rw [c2]
    (repeat walk_at "st")
    refine ⟨_, _, _, x, rfl, by decide +kernel, by rfl, ?_⟩
    (repeat walk_at "st")
    refine ⟨_, _, _, x, rfl, by decide +kernel, by rfl, ?_⟩
    (repeat walk_at "st")
    refine f_ixN (i := 3) rfl ?_
    refine ⟨_, _, _, x, rfl, by decide +kernel, by rfl, ?_⟩
    (repeat walk_at "st")
    refine f_ixN (i := 4) rfl ?_
    refine ⟨_, _, _, x, rfl, by decide +kernel, by rfl, ?_⟩
    (repeat walk_at "st")
    refine f_adL (by simp [sizeLine]) ?_
    exact h'
  · rintro i d acc κ' L hd hL ⟨rfl, e3, f3⟩
    obtain ⟨c, rfl, hc⟩ := fld20 d (List.mem_of_getElem? hd)
    refine ⟨trivial, ?_⟩
    rw [bi_inl]
    simp only [dwipe, List.set_cons_zero, List.set_cons_succ]
    (repeat walk_at "st")
    refine ⟨c, ["found"], [x], x, rfl, hc, rfl, e3, by rw [List.length_replicate]; have := (List.getElem?_eq_some_iff.mp hd).1; rw [l20] at this; unfold sizeLine; omega, hL _ _ ⟨List.replicate_succ'.symm, kset_same, fun k c e => by rw [kset_ne (kne e hn)]; exact f3 k c e⟩⟩
local macro_rules | `(tactic| walk_at "st") => `(tactic| with_reducible first | refine e_mkG ?_ | refine c_mk rfl rfl (by decide) (by with_unfolding_all simp only [pick, List.cons_append, List.nil_append, List.append_nil, List.getElem?_cons_zero, List.getElem?_cons_succ]; rfl) rfl ?_ | refine m_F ?_ | refine e_xv ?_)
/-- cells only come -/
def Ke (κ κ' : Kap) : Prop := ∀ n c, κ n = some c → κ' n = some c
theorem Ke.trans {κ κ1 κ2 : Kap} (a : Ke κ κ1) (b : Ke κ1 κ2) : Ke κ κ2 := fun n c h => b n c (a n c h)
theorem Th.ke {κ κ' : Kap} {g : Bool} {fp : List Nat} {x : D} (h : Th κ g fp x) (k : Ke κ κ') : Th κ' g fp x := h.keep fun n _ c e => k n c e
/-- what stood: the very thing, or a list of the same -/
theorem stood_spec {κ : Kap} {fp : List Nat} {x : D} {δ : DEnv} {X : DX} {Q : DQ} (h : Th κ false fp x) (h0 : δ[0]? = some (some x)) (q : ∀ z, (∀ κ' (Q' : DQ), Ke κ κ' → Q' (.bl false) κ' → fNeX nx x z κ' Q') → Q z κ) :
    dIf (tTru (dB (fIsi kt) (dCons (dVar 0) (dCons (dC (.ty "list")) dNil)))) (dB (fListOf false) (dCons (dVar 0) dNil)) (dVar 0) δ κ X Q := by
  have same : Q x κ := q x fun κ' Q' k q' => (h.ke k).self q'
  have var : ∀ {P : D → Kap → Prop}, P x κ → dVar 0 δ κ X P := fun p => e_var h0 p
  have run : ∀ (t : TyK) (b : Bool), tyK x κ = some t → kt t (.b "list") = some b → (if b = true then dB (fListOf false) (dCons (dVar 0) dNil) δ κ X Q else dVar 0 δ κ X Q) → dIf (tTru (dB (fIsi kt) (dCons (dVar 0) (dCons (dC (.ty "list")) dNil)))) (dB (fListOf false) (dCons (dVar 0) dNil)) (dVar 0) δ κ X Q := fun t b h1 h2 r => var (isi_k t b h1 h2 r)
  obtain ⟨g, hg, h⟩ : ∃ g, g = false ∧ Th κ g fp x := ⟨false, rfl, h⟩
  cases h with
  | int _ i => exact run (.b "int") false rfl (by decide +kernel) (var same)
  | str _ t => exact run (.b "str") false rfl (by decide +kernel) (var same)
  | non => exact run (.b "NoneType") false rfl (by decide +kernel) (var same)
  | bl => exact run (.b "bool") false rfl (by decide +kernel) (var same)
  | exa _ t => exact run (.e "NoName") false rfl (by decide +kernel) (var same)
  | tup _ t e hf l => exact run (.b "tuple") false rfl (by decide +kernel) (var same)
  | dct e e2 hf l ne => exact run (.b "dict") false (ty_lc e) (by decide +kernel) (var same)
  | dctG => cases hg
  | @lst _ n xs e hf l =>
    refine run (.b "list") true (ty_lc e) (by decide +kernel) ?_
    obtain ⟨ps, h1, h2, h3⟩ := flat_pd hf
    refine var ⟨xs, ⟨.lst, vw_cell e, .inl rfl⟩, q _ fun κ' Q' k q' => .inl ⟨.list ps, .list ps, pd_cl (k _ _ e) h1, pd_of (pdata_list h1), (Sp.list h2).shaped (by decide), (Sp.list h2).shaped (by decide), ?_⟩⟩
    show Q' (.bl (!PyData.eqv (.list ps) (.list ps))) κ'
    rw [show PyData.eqv (.list ps) (.list ps) = PyData.eqvAll ps ps by simp [PyData.eqv], eqvAll_refl h3]
    exact q'
theorem exs_len (x y : D) : (exs x y).length = 30 := rfl
theorem exs_at {x y : D} : ∀ d ∈ exs x y, ∃ c ns xs, d = .node (.exc c ns) xs ∧ c ∈ nms := by
  intro d hd
  unfold exs at hd
  simp only [List.mem_cons, List.not_mem_nil, or_false] at hd
  rcases hd with rfl | rfl | rfl | rfl | rfl | rfl | rfl | rfl | rfl | rfl | rfl | rfl | rfl | rfl | rfl | rfl | rfl | rfl | rfl | rfl | rfl | rfl | rfl | rfl | rfl | rfl | rfl | rfl | rfl | rfl <;> exact ⟨_, _, _, rfl, by decide +kernel⟩
def clsOf : D → Str
  | .node (.exc c _) _ => c
  | _ => ""
def kdRow (d : D) : D := .node .lst (nms.map fun c => .bl (kd (clsOf d) c))
def kdRowP (d : D) : PyData := .list (nms.map fun c => .bool (kd (clsOf d) c))
theorem rows_pd : ∀ (ds : List D), pdataL (ds.map kdRow) = some (ds.map kdRowP)
  | [] => rfl
  | d :: ds => by
    have h1 : pdataL (nms.map fun c => D.bl (kd (clsOf d) c)) = some (nms.map fun c => PyData.bool (kd (clsOf d) c)) := pdataL_map (fun _ => rfl) _
    have h0 : pdata (kdRow d) = some (kdRowP d) := pdata_list h1
    simp only [List.map_cons, pdataL, h0, rows_pd ds]
/-- the rows of kinds of all made ones -/
theorem kinds_loop {κ : Kap} {x y : D} {δ : DEnv} {n j : Nat} {fin : List D → Kap → Prop} (hn : κ n = none) (hj : j < δ.length) (q : ∀ κ', Ke κ κ' → κ' n = some (.live .lst ((exs x y).map kdRow)) → fin ((exs x y).map kdRow) κ') :
    lcLoop n (.inl j) tYesD (dCall sp__law_kinds [] (dCons (dVar j) dNil)) gTrue [j] δ fin (exs x y) [] (kset κ n (.live .lst [])) := by
  refine lcLoop_ix (fun i acc κ' => acc = ((exs x y).take i).map kdRow ∧ κ' n = some (.live .lst acc) ∧ Ke κ κ') ?_ ?_ ⟨rfl, kset_same, fun k c e => by rw [kset_ne (kne e hn)]; exact e⟩
  · rintro acc κ' ⟨rfl, e3, f3⟩
    rw [List.take_length] at e3 ⊢
    exact ⟨trivial, q _ f3 e3⟩
  · rintro i d acc κ' L hd hL ⟨rfl, e3, f3⟩
    obtain ⟨c, ns, xs, rfl, hc⟩ := exs_at d (List.mem_of_getElem? hd)
    refine ⟨trivial, ?_⟩
    rw [bi_inl]
    have hv : (List.set (dwipe δ [j]) j (some (D.node (.exc c ns) xs)))[j]? = some (some (.node (.exc c ns) xs)) := by
      rw [List.getElem?_set_self (by simp only [dwipe, List.length_set]; exact hj)]
    refine e_var (X := XF) hv ?_
    refine kinds_spec (kd_all c hc) ?_
    refine ⟨e3, ?_, hL _ _ ⟨?_, kset_same, fun k c e => by rw [kset_ne (kne e hn)]; exact f3 k c e⟩⟩
    · rw [List.length_map, List.length_take, exs_len]; unfold sizeLine; omega
    · rw [List.take_add_one, hd, List.map_append]
      rfl
theorem rows_sp (ds : List D) : Sp 2 (.list (ds.map kdRowP)) := Sp.list (k := 1) fun p hp => by
  obtain ⟨d, _, rfl⟩ := List.mem_map.mp hp
  exact Sp.list (k := 0) fun p hp => by
    obtain ⟨c, _, rfl⟩ := List.mem_map.mp hp
    exact Sp.bool
theorem rows_eqv (ds : List D) : PyData.eqv (.list (ds.map kdRowP)) (.list (ds.map kdRowP)) = true := by
  have row : ∀ p ∈ ds.map kdRowP, PyData.eqv p p = true := fun p hp => by
    obtain ⟨d, _, rfl⟩ := List.mem_map.mp hp
    unfold kdRowP
    have h : PyData.eqvAll (nms.map fun c => PyData.bool (kd (clsOf d) c)) (nms.map fun c => PyData.bool (kd (clsOf d) c)) = true := eqvAll_refl fun p hp => by
      obtain ⟨c, _, rfl⟩ := List.mem_map.mp hp
      simp [PyData.eqv]
    simp only [PyData.eqv]
    exact h
  simp only [PyData.eqv]
  exact eqvAll_refl row
theorem right_spec {κ : Kap} {f1 f2 : List Nat} {x y : D} {X : Str → List D → Kap → Prop} {Q : DQ} (hx : Th κ false f1 x) (hy : Th κ false f2 y) (dj : ∀ n ∈ f1, n ∉ f2) (q : ∀ κ', Q (.bl true) κ') : sp__law_right [x, y] κ X Q := by
  (unfold sp__law_right; refine s_sp rfl ?_; simp only [startD, List.map_cons, List.map_nil, List.length_cons, List.length_nil, Nat.zero_add, Nat.reduceAdd, Nat.reduceSub, List.replicate, List.cons_append, List.nil_append]; unfold b__law_right)
  refine s_seq ?_
  refine s_asg ?_
  refine stood_spec hx rfl fun z hz => ?_
  (repeat walk_at "st")
  refine made_spec ?_
  (repeat walk_at "st")
  refine named_spec ?_
  (repeat walk_at "st")
  refine fields_spec fun κ1 k1 => ?_
  have k1 : Ke κ κ1 := k1
  (repeat walk_at "st")
  refine hz κ1 _ k1 ?_
  (repeat walk_at "st")
  refine grown_spec (hx.ke k1) fun κ2 gx fx => ?_
  have hy2 : Th κ2 false f2 y := (hy.ke k1).keep fun n hn c e => by rw [fx n fun z => dj n z hn]; exact e
  (repeat walk_at "st")
  refine grown_spec hy2 fun κ3 gy fy => ?_
  have gx3 : Th κ3 true f1 x := gx.keep fun n hn c e => by rw [fy n (dj n hn)]; exact e
  (repeat walk_at "st")
  intro n hn
  refine lcLoop_ix (fun i acc κ' => acc = [] ∧ κ' n = some (.live .lst acc) ∧ Ke κ3 κ') ?_ ?_ ⟨rfl, kset_same, fun k c e => by rw [kset_ne (kne e hn)]; exact e⟩
  · rintro acc κ4 ⟨rfl, e3, f3⟩
    have k5 : Ke κ3 (kset κ4 n .dead) := fun k c e => by rw [kset_ne (kne e hn)]; exact f3 k c e
    refine ⟨trivial, e3, ?_⟩
    generalize kset κ4 n .dead = κ5 at k5
    (repeat walk_at "st")
    refine ne_dat (p := .list []) (q := .list []) rfl rfl (by decide +kernel) (by decide +kernel) ?_
    rw [show (!PyData.eqv (.list []) (.list [])) = false by decide +kernel]
    (repeat walk_at "st")
    refine f_ixN (i := 20) rfl ?_
    refine ⟨_, _, _, y, rfl, by decide +kernel, by rfl, ?_⟩
    (repeat walk_at "st")
    refine (gy.ke k5).self ?_
    (repeat walk_at "st")
    refine f_ixN (i := 24) rfl ?_
    refine ⟨_, _, _, y, rfl, by decide +kernel, by rfl, ?_⟩
    (repeat walk_at "st")
    refine (gy.ke k5).self ?_
    (repeat walk_at "st")
    intro n2 hn2
    refine kinds_loop hn2 (by simp) fun κ6 k6 e6 => ⟨e6, ?_⟩
    (repeat walk_at "st")
    intro n3 hn3
    refine kinds_loop hn3 (by simp) fun κ7 k7 e7 => ⟨e7, ?_⟩
    refine eq_dat (pdata_list (rows_pd _)) (pdata_list (rows_pd _)) ((rows_sp _).shaped (by decide)) ((rows_sp _).shaped (by decide)) ?_
    rw [rows_eqv]
    exact q _
  · rintro i d acc κ4 L hd hL ⟨rfl, e3, f3⟩
    have ed : d = x := List.eq_of_mem_replicate (List.mem_of_getElem? hd)
    subst ed
    refine ⟨trivial, ?_⟩
    rw [bi_inl]
    simp only [dwipe, List.set_cons_zero, List.set_cons_succ]
    (repeat walk_at "st")
    refine (gx3.ke f3).self ?_
    (repeat walk_at "st")
    exact hL _ _ ⟨rfl, e3, f3⟩
theorem law_true : ∀ ns : List Int, ns.length ≤ 63 → sp_law [.node .klst (ns.map D.int)] (fun _ => none) (fun _ _ _ => False) (fun d _ => d = .bl true) := by
  intro ns hns
  (unfold sp_law; refine s_sp rfl ?_; simp only [startD, List.map_cons, List.map_nil, List.length_cons, List.length_nil, Nat.zero_add, Nat.reduceAdd, Nat.reduceSub, List.replicate, List.cons_append, List.nil_append]; unfold b_law)
  (repeat walk_at "st")
  have hN : ∀ i : Nat, i < (if (if (↑(List.map D.int ns).length : Int) < 6 then (↑(List.map D.int ns).length : Int) else 6) > 2 then if (↑(List.map D.int ns).length : Int) < 6 then (↑(List.map D.int ns).length : Int) else 6 else 2).toNat → i < 100 := fun i h => by
    (repeat' split at h) <;> omega
  refine dl_ix (fun i δ κ => ∃ a b, δ = [some (D.node Kd.klst (List.map D.int ns)), a, b]) ?_ ?_ ⟨none, none, rfl⟩
  · rintro δ κ ⟨a, b, rfl⟩
    refine ⟨trivial, ?_⟩
    (repeat walk_at "st")
    rfl
  · rintro i d δ κ L hd hL ⟨a, b, rfl⟩
    obtain ⟨hi, rfl⟩ := rangeD_get hd
    refine ⟨trivial, ?_⟩
    rw [Int.zero_add]
    (repeat walk_at "st")
    refine cell_spec (hN i hi) fun c => ?_
    (repeat walk_at "st")
    refine box_spec fun b κ1 hb B0 _ => ?_
    (repeat walk_at "st")
    refine thing_spec B0 (by decide) fun f1 x κ2 n1 h1 B1 _ => ?_
    (repeat walk_at "st")
    refine thing_spec B1 (by decide) fun f2 y κ3 n2 h2 B2 F2 => ?_
    have keep : Th κ3 false f1 x := h1.keep fun n hn c e => F2 n c (B0.ne (n1 n hn)) e
    refine right_spec keep h2 (fun n h1' h2' => by
      obtain ⟨c, e⟩ := h1.is n h1'
      rw [n2 n h2'] at e
      cases e) fun κ4 => ?_
    (repeat walk_at "st")
    exact hL _ _ ⟨_, _, rfl⟩
end L_k13
namespace L_k13
open PySem PySem.Spec PyProof.Rows L2 DL
/-! what the top has left -/
theorem self_in {α : Type} (L : List α) : ∀ p ∈ L, p ∈ L := fun _ h => h
theorem xo_Crossed {P : Program} {w : World} {K : PySem.W.Frag} {mg : Str → Option Value} {base : Heap} {I CB : Addr} {fd : FuncData} (B : BaseG K mg "FontError" CB "ValueError.__init__") (F : Fun K "__init__" "Crossed.__init__" (inClass (topS 24) 0) I fd) :
    FnOk P w K mg base CX0 1 I fd ["self", "one", "other"] (spGx K "ValueError.__init__" ["other", "one"]) := gx2_ok F (fun _ _ _ _ _ _ => ⟨_, ps_expr (pe_ginit B (by decide +kernel) (pa_cons (pv 0) (pa_cons pe_str pa_nil)))⟩) rfl ⟨rfl, rfl, rfl, by decide +kernel, rfl, by decide +kernel, by decide +kernel⟩ rfl rfl rfl (by decide) (by decide) (by decide) (by decide)
theorem xq_Crossed_k_other_one {P : Program} {w : World} {K : PySem.W.Frag} {mg : Str → Option Value} {base : Heap} {I C : Addr} {fd : FuncData} (m : mg "Crossed" = some (.ref C)) (X : OxG K "ValueError.__init__" C) (i1 : PySem.W.findIn K (.ref C) "__init__" = some (some (.ref I))) (i2 : PySem.W.typeIn K (.ref I) = some (.type "function")) (F : Fun K "__init__" "Crossed.__init__" (inClass (topS 24) 0) I fd) (O : FnOk P w K mg base CX0 1 I fd ["self", "one", "other"] (spGx K "ValueError.__init__" ["other", "one"])) (hf : ∀ f ∈ (["other", "one"] : List Str), PySem.W.findIn K (.ref C) f = some none) :
    OxkG P w K mg base "Crossed" ["other", "one"] 0 ["other", "one"] [1, 0] := oxkG_of m X i1 i2 F O hf (fun _ _ _ _ _ _ _ us ws hl hk => match us, ws, hl, hk with | [], [_, _], _, _ => rfl)
theorem xq_Crossed_p2 {P : Program} {w : World} {K : PySem.W.Frag} {mg : Str → Option Value} {base : Heap} {I C : Addr} {fd : FuncData} (m : mg "Crossed" = some (.ref C)) (X : OxG K "ValueError.__init__" C) (i1 : PySem.W.findIn K (.ref C) "__init__" = some (some (.ref I))) (i2 : PySem.W.typeIn K (.ref I) = some (.type "function")) (F : Fun K "__init__" "Crossed.__init__" (inClass (topS 24) 0) I fd) (O : FnOk P w K mg base CX0 1 I fd ["self", "one", "other"] (spGx K "ValueError.__init__" ["other", "one"])) (hf : ∀ f ∈ (["other", "one"] : List Str), PySem.W.findIn K (.ref C) f = some none) :
    OxkG P w K mg base "Crossed" ["other", "one"] 2 [] [0, 1] := oxkG_of m X i1 i2 F O hf (fun _ _ _ _ _ _ _ us ws hl hk => match us, ws, hl, hk with | [_, _], [], _, _ => rfl)
theorem xo_Deep {P : Program} {w : World} {K : PySem.W.Frag} {mg : Str → Option Value} {base : Heap} {I CB : Addr} {fd : FuncData} (B : BaseG K mg "FontError" CB "ValueError.__init__") (F : Fun K "__init__" "Deep.__init__" (inClass (topS 26) 0) I fd) :
    FnOk P w K mg base CX0 1 I fd ["self", "at"] (spGx K "ValueError.__init__" ["at"]) := gx1_ok F (fun _ _ _ _ _ _ => ⟨_, ps_expr (pe_ginit B (by decide +kernel) (pa_cons (pv 0) (pa_cons pe_str pa_nil)))⟩) rfl ⟨rfl, rfl, rfl, by decide +kernel, rfl, by decide +kernel, by decide +kernel⟩ rfl rfl (by decide) (by decide)
theorem xq_Deep_k_at {P : Program} {w : World} {K : PySem.W.Frag} {mg : Str → Option Value} {base : Heap} {I C : Addr} {fd : FuncData} (m : mg "Deep" = some (.ref C)) (X : OxG K "ValueError.__init__" C) (i1 : PySem.W.findIn K (.ref C) "__init__" = some (some (.ref I))) (i2 : PySem.W.typeIn K (.ref I) = some (.type "function")) (F : Fun K "__init__" "Deep.__init__" (inClass (topS 26) 0) I fd) (O : FnOk P w K mg base CX0 1 I fd ["self", "at"] (spGx K "ValueError.__init__" ["at"])) (hf : ∀ f ∈ (["at"] : List Str), PySem.W.findIn K (.ref C) f = some none) :
    OxkG P w K mg base "Deep" ["at"] 0 ["at"] [0] := oxkG_of m X i1 i2 F O hf (fun _ _ _ _ _ _ _ us ws hl hk => match us, ws, hl, hk with | [], [_], _, _ => rfl)
theorem xq_Deep_p1 {P : Program} {w : World} {K : PySem.W.Frag} {mg : Str → Option Value} {base : Heap} {I C : Addr} {fd : FuncData} (m : mg "Deep" = some (.ref C)) (X : OxG K "ValueError.__init__" C) (i1 : PySem.W.findIn K (.ref C) "__init__" = some (some (.ref I))) (i2 : PySem.W.typeIn K (.ref I) = some (.type "function")) (F : Fun K "__init__" "Deep.__init__" (inClass (topS 26) 0) I fd) (O : FnOk P w K mg base CX0 1 I fd ["self", "at"] (spGx K "ValueError.__init__" ["at"])) (hf : ∀ f ∈ (["at"] : List Str), PySem.W.findIn K (.ref C) f = some none) :
    OxkG P w K mg base "Deep" ["at"] 1 [] [0] := oxkG_of m X i1 i2 F O hf (fun _ _ _ _ _ _ _ us ws hl hk => match us, ws, hl, hk with | [_], [], _, _ => rfl)
theorem xo_Fault {P : Program} {w : World} {K : PySem.W.Frag} {mg : Str → Option Value} {base : Heap} {I CB : Addr} {fd : FuncData} (B : BaseG K mg "FontError" CB "ValueError.__init__") (F : Fun K "__init__" "Fault.__init__" (inClass (topS 28) 0) I fd) :
    FnOk P w K mg base CX0 1 I fd ["self", "done", "why"] (spGx K "ValueError.__init__" ["why", "done"]) := gx2_ok F (fun _ _ _ _ _ _ => ⟨_, ps_expr (pe_ginit B (by decide +kernel) (pa_cons (pv 0) (pa_cons pe_str pa_nil)))⟩) rfl ⟨rfl, rfl, rfl, by decide +kernel, rfl, by decide +kernel, by decide +kernel⟩ rfl rfl rfl (by decide) (by decide) (by decide) (by decide)
theorem xq_Fault_k_why_done {P : Program} {w : World} {K : PySem.W.Frag} {mg : Str → Option Value} {base : Heap} {I C : Addr} {fd : FuncData} (m : mg "Fault" = some (.ref C)) (X : OxG K "ValueError.__init__" C) (i1 : PySem.W.findIn K (.ref C) "__init__" = some (some (.ref I))) (i2 : PySem.W.typeIn K (.ref I) = some (.type "function")) (F : Fun K "__init__" "Fault.__init__" (inClass (topS 28) 0) I fd) (O : FnOk P w K mg base CX0 1 I fd ["self", "done", "why"] (spGx K "ValueError.__init__" ["why", "done"])) (hf : ∀ f ∈ (["why", "done"] : List Str), PySem.W.findIn K (.ref C) f = some none) :
    OxkG P w K mg base "Fault" ["why", "done"] 0 ["why", "done"] [1, 0] := oxkG_of m X i1 i2 F O hf (fun _ _ _ _ _ _ _ us ws hl hk => match us, ws, hl, hk with | [], [_, _], _, _ => rfl)
theorem xq_Fault_p2 {P : Program} {w : World} {K : PySem.W.Frag} {mg : Str → Option Value} {base : Heap} {I C : Addr} {fd : FuncData} (m : mg "Fault" = some (.ref C)) (X : OxG K "ValueError.__init__" C) (i1 : PySem.W.findIn K (.ref C) "__init__" = some (some (.ref I))) (i2 : PySem.W.typeIn K (.ref I) = some (.type "function")) (F : Fun K "__init__" "Fault.__init__" (inClass (topS 28) 0) I fd) (O : FnOk P w K mg base CX0 1 I fd ["self", "done", "why"] (spGx K "ValueError.__init__" ["why", "done"])) (hf : ∀ f ∈ (["why", "done"] : List Str), PySem.W.findIn K (.ref C) f = some none) :
    OxkG P w K mg base "Fault" ["why", "done"] 2 [] [0, 1] := oxkG_of m X i1 i2 F O hf (fun _ _ _ _ _ _ _ us ws hl hk => match us, ws, hl, hk with | [_, _], [], _, _ => rfl)
theorem xo_NoBase {P : Program} {w : World} {K : PySem.W.Frag} {mg : Str → Option Value} {base : Heap} {I  : Addr} {fd : FuncData} (Z : mg "ZeroDivisionError" = none) (bz : PySem.W.findCls K (.type "ZeroDivisionError") (.type "type") "__init__" = some (.val (.builtin "ZeroDivisionError.__init__"))) (F : Fun K "__init__" "NoBase.__init__" (inClass (topS 33) 0) I fd) :
    FnOk P w K mg base CX0 1 I fd ["self", "found"] (spGx K "ZeroDivisionError.__init__" ["found"]) := gx1_ok F (fun _ _ _ _ _ _ => ⟨_, ps_expr (pe_ginitZ Z bz (pa_cons (pv 0) (pa_cons pe_str pa_nil)))⟩) rfl ⟨rfl, rfl, rfl, by decide +kernel, rfl, by decide +kernel, by decide +kernel⟩ rfl rfl (by decide) (by decide)
theorem xq_NoBase_k_found {P : Program} {w : World} {K : PySem.W.Frag} {mg : Str → Option Value} {base : Heap} {I C : Addr} {fd : FuncData} (m : mg "NoBase" = some (.ref C)) (X : OxG K "ZeroDivisionError.__init__" C) (i1 : PySem.W.findIn K (.ref C) "__init__" = some (some (.ref I))) (i2 : PySem.W.typeIn K (.ref I) = some (.type "function")) (F : Fun K "__init__" "NoBase.__init__" (inClass (topS 33) 0) I fd) (O : FnOk P w K mg base CX0 1 I fd ["self", "found"] (spGx K "ZeroDivisionError.__init__" ["found"])) (hf : ∀ f ∈ (["found"] : List Str), PySem.W.findIn K (.ref C) f = some none) :
    OxkG P w K mg base "NoBase" ["found"] 0 ["found"] [0] := oxkG_of m X i1 i2 F O hf (fun _ _ _ _ _ _ _ us ws hl hk => match us, ws, hl, hk with | [], [_], _, _ => rfl)
theorem xq_NoBase_p1 {P : Program} {w : World} {K : PySem.W.Frag} {mg : Str → Option Value} {base : Heap} {I C : Addr} {fd : FuncData} (m : mg "NoBase" = some (.ref C)) (X : OxG K "ZeroDivisionError.__init__" C) (i1 : PySem.W.findIn K (.ref C) "__init__" = some (some (.ref I))) (i2 : PySem.W.typeIn K (.ref I) = some (.type "function")) (F : Fun K "__init__" "NoBase.__init__" (inClass (topS 33) 0) I fd) (O : FnOk P w K mg base CX0 1 I fd ["self", "found"] (spGx K "ZeroDivisionError.__init__" ["found"])) (hf : ∀ f ∈ (["found"] : List Str), PySem.W.findIn K (.ref C) f = some none) :
    OxkG P w K mg base "NoBase" ["found"] 1 [] [0] := oxkG_of m X i1 i2 F O hf (fun _ _ _ _ _ _ _ us ws hl hk => match us, ws, hl, hk with | [_], [], _, _ => rfl)
theorem xo_NoCells {P : Program} {w : World} {K : PySem.W.Frag} {mg : Str → Option Value} {base : Heap} {I CB : Addr} {fd : FuncData} (B : BaseG K mg "FontError" CB "ValueError.__init__") (F : Fun K "__init__" "NoCells.__init__" (inClass (topS 20) 0) I fd) :
    FnOk P w K mg base CX0 1 I fd ["self", "found"] (spGx K "ValueError.__init__" ["found"]) := gx1_ok F (fun _ _ _ _ _ _ => ⟨_, ps_expr (pe_ginit B (by decide +kernel) (pa_cons (pv 0) (pa_cons pe_str pa_nil)))⟩) rfl ⟨rfl, rfl, rfl, by decide +kernel, rfl, by decide +kernel, by decide +kernel⟩ rfl rfl (by decide) (by decide)
theorem xq_NoCells_k_found {P : Program} {w : World} {K : PySem.W.Frag} {mg : Str → Option Value} {base : Heap} {I C : Addr} {fd : FuncData} (m : mg "NoCells" = some (.ref C)) (X : OxG K "ValueError.__init__" C) (i1 : PySem.W.findIn K (.ref C) "__init__" = some (some (.ref I))) (i2 : PySem.W.typeIn K (.ref I) = some (.type "function")) (F : Fun K "__init__" "NoCells.__init__" (inClass (topS 20) 0) I fd) (O : FnOk P w K mg base CX0 1 I fd ["self", "found"] (spGx K "ValueError.__init__" ["found"])) (hf : ∀ f ∈ (["found"] : List Str), PySem.W.findIn K (.ref C) f = some none) :
    OxkG P w K mg base "NoCells" ["found"] 0 ["found"] [0] := oxkG_of m X i1 i2 F O hf (fun _ _ _ _ _ _ _ us ws hl hk => match us, ws, hl, hk with | [], [_], _, _ => rfl)
theorem xq_NoCells_p1 {P : Program} {w : World} {K : PySem.W.Frag} {mg : Str → Option Value} {base : Heap} {I C : Addr} {fd : FuncData} (m : mg "NoCells" = some (.ref C)) (X : OxG K "ValueError.__init__" C) (i1 : PySem.W.findIn K (.ref C) "__init__" = some (some (.ref I))) (i2 : PySem.W.typeIn K (.ref I) = some (.type "function")) (F : Fun K "__init__" "NoCells.__init__" (inClass (topS 20) 0) I fd) (O : FnOk P w K mg base CX0 1 I fd ["self", "found"] (spGx K "ValueError.__init__" ["found"])) (hf : ∀ f ∈ (["found"] : List Str), PySem.W.findIn K (.ref C) f = some none) :
    OxkG P w K mg base "NoCells" ["found"] 1 [] [0] := oxkG_of m X i1 i2 F O hf (fun _ _ _ _ _ _ _ us ws hl hk => match us, ws, hl, hk with | [_], [], _, _ => rfl)
theorem xo_NoChoices {P : Program} {w : World} {K : PySem.W.Frag} {mg : Str → Option Value} {base : Heap} {I CB : Addr} {fd : FuncData} (B : BaseG K mg "FontError" CB "ValueError.__init__") (F : Fun K "__init__" "NoChoices.__init__" (inClass (topS 21) 0) I fd) :
    FnOk P w K mg base CX0 1 I fd ["self", "found"] (spGx K "ValueError.__init__" ["found"]) := gx1_ok F (fun _ _ _ _ _ _ => ⟨_, ps_expr (pe_ginit B (by decide +kernel) (pa_cons (pv 0) (pa_cons pe_str pa_nil)))⟩) rfl ⟨rfl, rfl, rfl, by decide +kernel, rfl, by decide +kernel, by decide +kernel⟩ rfl rfl (by decide) (by decide)
theorem xq_NoChoices_k_found {P : Program} {w : World} {K : PySem.W.Frag} {mg : Str → Option Value} {base : Heap} {I C : Addr} {fd : FuncData} (m : mg "NoChoices" = some (.ref C)) (X : OxG K "ValueError.__init__" C) (i1 : PySem.W.findIn K (.ref C) "__init__" = some (some (.ref I))) (i2 : PySem.W.typeIn K (.ref I) = some (.type "function")) (F : Fun K "__init__" "NoChoices.__init__" (inClass (topS 21) 0) I fd) (O : FnOk P w K mg base CX0 1 I fd ["self", "found"] (spGx K "ValueError.__init__" ["found"])) (hf : ∀ f ∈ (["found"] : List Str), PySem.W.findIn K (.ref C) f = some none) :
    OxkG P w K mg base "NoChoices" ["found"] 0 ["found"] [0] := oxkG_of m X i1 i2 F O hf (fun _ _ _ _ _ _ _ us ws hl hk => match us, ws, hl, hk with | [], [_], _, _ => rfl)
theorem xq_NoChoices_p1 {P : Program} {w : World} {K : PySem.W.Frag} {mg : Str → Option Value} {base : Heap} {I C : Addr} {fd : FuncData} (m : mg "NoChoices" = some (.ref C)) (X : OxG K "ValueError.__init__" C) (i1 : PySem.W.findIn K (.ref C) "__init__" = some (some (.ref I))) (i2 : PySem.W.typeIn K (.ref I) = some (.type "function")) (F : Fun K "__init__" "NoChoices.__init__" (inClass (topS 21) 0) I fd) (O : FnOk P w K mg base CX0 1 I fd ["self", "found"] (spGx K "ValueError.__init__" ["found"])) (hf : ∀ f ∈ (["found"] : List Str), PySem.W.findIn K (.ref C) f = some none) :
    OxkG P w K mg base "NoChoices" ["found"] 1 [] [0] := oxkG_of m X i1 i2 F O hf (fun _ _ _ _ _ _ _ us ws hl hk => match us, ws, hl, hk with | [_], [], _, _ => rfl)
theorem xo_NoDefinition {P : Program} {w : World} {K : PySem.W.Frag} {mg : Str → Option Value} {base : Heap} {I CB : Addr} {fd : FuncData} (B : BaseG K mg "Unknown" CB "KeyError.__init__") (F : Fun K "__init__" "NoDefinition.__init__" (inClass (topS 31) 0) I fd) :
    FnOk P w K mg base CX0 1 I fd ["self", "found"] (spGx K "KeyError.__init__" ["found"]) := gx1_ok F (fun _ _ _ _ _ _ => ⟨_, ps_expr (pe_ginit B (by decide +kernel) (pa_cons (pv 0) (pa_cons pe_str pa_nil)))⟩) rfl ⟨rfl, rfl, rfl, by decide +kernel, rfl, by decide +kernel, by decide +kernel⟩ rfl rfl (by decide) (by decide)
theorem xq_NoDefinition_k_found {P : Program} {w : World} {K : PySem.W.Frag} {mg : Str → Option Value} {base : Heap} {I C : Addr} {fd : FuncData} (m : mg "NoDefinition" = some (.ref C)) (X : OxG K "KeyError.__init__" C) (i1 : PySem.W.findIn K (.ref C) "__init__" = some (some (.ref I))) (i2 : PySem.W.typeIn K (.ref I) = some (.type "function")) (F : Fun K "__init__" "NoDefinition.__init__" (inClass (topS 31) 0) I fd) (O : FnOk P w K mg base CX0 1 I fd ["self", "found"] (spGx K "KeyError.__init__" ["found"])) (hf : ∀ f ∈ (["found"] : List Str), PySem.W.findIn K (.ref C) f = some none) :
    OxkG P w K mg base "NoDefinition" ["found"] 0 ["found"] [0] := oxkG_of m X i1 i2 F O hf (fun _ _ _ _ _ _ _ us ws hl hk => match us, ws, hl, hk with | [], [_], _, _ => rfl)
theorem xq_NoDefinition_p1 {P : Program} {w : World} {K : PySem.W.Frag} {mg : Str → Option Value} {base : Heap} {I C : Addr} {fd : FuncData} (m : mg "NoDefinition" = some (.ref C)) (X : OxG K "KeyError.__init__" C) (i1 : PySem.W.findIn K (.ref C) "__init__" = some (some (.ref I))) (i2 : PySem.W.typeIn K (.ref I) = some (.type "function")) (F : Fun K "__init__" "NoDefinition.__init__" (inClass (topS 31) 0) I fd) (O : FnOk P w K mg base CX0 1 I fd ["self", "found"] (spGx K "KeyError.__init__" ["found"])) (hf : ∀ f ∈ (["found"] : List Str), PySem.W.findIn K (.ref C) f = some none) :
    OxkG P w K mg base "NoDefinition" ["found"] 1 [] [0] := oxkG_of m X i1 i2 F O hf (fun _ _ _ _ _ _ _ us ws hl hk => match us, ws, hl, hk with | [_], [], _, _ => rfl)
theorem xo_NoEntry {P : Program} {w : World} {K : PySem.W.Frag} {mg : Str → Option Value} {base : Heap} {I CB : Addr} {fd : FuncData} (B : BaseG K mg "Missing" CB "LookupError.__init__") (F : Fun K "__init__" "NoEntry.__init__" (inClass (topS 29) 0) I fd) :
    FnOk P w K mg base CX0 1 I fd ["self", "found"] (spGx K "LookupError.__init__" ["found"]) := gx1_ok F (fun _ _ _ _ _ _ => ⟨_, ps_expr (pe_ginit B (by decide +kernel) (pa_cons (pv 0) (pa_cons pe_str pa_nil)))⟩) rfl ⟨rfl, rfl, rfl, by decide +kernel, rfl, by decide +kernel, by decide +kernel⟩ rfl rfl (by decide) (by decide)
theorem xq_NoEntry_k_found {P : Program} {w : World} {K : PySem.W.Frag} {mg : Str → Option Value} {base : Heap} {I C : Addr} {fd : FuncData} (m : mg "NoEntry" = some (.ref C)) (X : OxG K "LookupError.__init__" C) (i1 : PySem.W.findIn K (.ref C) "__init__" = some (some (.ref I))) (i2 : PySem.W.typeIn K (.ref I) = some (.type "function")) (F : Fun K "__init__" "NoEntry.__init__" (inClass (topS 29) 0) I fd) (O : FnOk P w K mg base CX0 1 I fd ["self", "found"] (spGx K "LookupError.__init__" ["found"])) (hf : ∀ f ∈ (["found"] : List Str), PySem.W.findIn K (.ref C) f = some none) :
    OxkG P w K mg base "NoEntry" ["found"] 0 ["found"] [0] := oxkG_of m X i1 i2 F O hf (fun _ _ _ _ _ _ _ us ws hl hk => match us, ws, hl, hk with | [], [_], _, _ => rfl)
theorem xq_NoEntry_p1 {P : Program} {w : World} {K : PySem.W.Frag} {mg : Str → Option Value} {base : Heap} {I C : Addr} {fd : FuncData} (m : mg "NoEntry" = some (.ref C)) (X : OxG K "LookupError.__init__" C) (i1 : PySem.W.findIn K (.ref C) "__init__" = some (some (.ref I))) (i2 : PySem.W.typeIn K (.ref I) = some (.type "function")) (F : Fun K "__init__" "NoEntry.__init__" (inClass (topS 29) 0) I fd) (O : FnOk P w K mg base CX0 1 I fd ["self", "found"] (spGx K "LookupError.__init__" ["found"])) (hf : ∀ f ∈ (["found"] : List Str), PySem.W.findIn K (.ref C) f = some none) :
    OxkG P w K mg base "NoEntry" ["found"] 1 [] [0] := oxkG_of m X i1 i2 F O hf (fun _ _ _ _ _ _ _ us ws hl hk => match us, ws, hl, hk with | [_], [], _, _ => rfl)
theorem xo_NoFont {P : Program} {w : World} {K : PySem.W.Frag} {mg : Str → Option Value} {base : Heap} {I CB : Addr} {fd : FuncData} (B : BaseG K mg "FontError" CB "ValueError.__init__") (F : Fun K "__init__" "NoFont.__init__" (inClass (topS 14) 0) I fd) :
    FnOk P w K mg base CX0 1 I fd ["self", "found"] (spGx K "ValueError.__init__" ["found"]) := gx1_ok F (fun _ _ _ _ _ _ => ⟨_, ps_expr (pe_ginit B (by decide +kernel) (pa_cons (pv 0) (pa_cons pe_str pa_nil)))⟩) rfl ⟨rfl, rfl, rfl, by decide +kernel, rfl, by decide +kernel, by decide +kernel⟩ rfl rfl (by decide) (by decide)
theorem xq_NoFont_k_found {P : Program} {w : World} {K : PySem.W.Frag} {mg : Str → Option Value} {base : Heap} {I C : Addr} {fd : FuncData} (m : mg "NoFont" = some (.ref C)) (X : OxG K "ValueError.__init__" C) (i1 : PySem.W.findIn K (.ref C) "__init__" = some (some (.ref I))) (i2 : PySem.W.typeIn K (.ref I) = some (.type "function")) (F : Fun K "__init__" "NoFont.__init__" (inClass (topS 14) 0) I fd) (O : FnOk P w K mg base CX0 1 I fd ["self", "found"] (spGx K "ValueError.__init__" ["found"])) (hf : ∀ f ∈ (["found"] : List Str), PySem.W.findIn K (.ref C) f = some none) :
    OxkG P w K mg base "NoFont" ["found"] 0 ["found"] [0] := oxkG_of m X i1 i2 F O hf (fun _ _ _ _ _ _ _ us ws hl hk => match us, ws, hl, hk with | [], [_], _, _ => rfl)
theorem xq_NoFont_p1 {P : Program} {w : World} {K : PySem.W.Frag} {mg : Str → Option Value} {base : Heap} {I C : Addr} {fd : FuncData} (m : mg "NoFont" = some (.ref C)) (X : OxG K "ValueError.__init__" C) (i1 : PySem.W.findIn K (.ref C) "__init__" = some (some (.ref I))) (i2 : PySem.W.typeIn K (.ref I) = some (.type "function")) (F : Fun K "__init__" "NoFont.__init__" (inClass (topS 14) 0) I fd) (O : FnOk P w K mg base CX0 1 I fd ["self", "found"] (spGx K "ValueError.__init__" ["found"])) (hf : ∀ f ∈ (["found"] : List Str), PySem.W.findIn K (.ref C) f = some none) :
    OxkG P w K mg base "NoFont" ["found"] 1 [] [0] := oxkG_of m X i1 i2 F O hf (fun _ _ _ _ _ _ _ us ws hl hk => match us, ws, hl, hk with | [_], [], _, _ => rfl)
theorem xo_NoLetter {P : Program} {w : World} {K : PySem.W.Frag} {mg : Str → Option Value} {base : Heap} {I CB : Addr} {fd : FuncData} (B : BaseG K mg "FontError" CB "ValueError.__init__") (F : Fun K "__init__" "NoLetter.__init__" (inClass (topS 16) 0) I fd) :
    FnOk P w K mg base CX0 1 I fd ["self", "found"] (spGx K "ValueError.__init__" ["found"]) := gx1_ok F (fun _ _ _ _ _ _ => ⟨_, ps_expr (pe_ginit B (by decide +kernel) (pa_cons (pv 0) (pa_cons pe_str pa_nil)))⟩) rfl ⟨rfl, rfl, rfl, by decide +kernel, rfl, by decide +kernel, by decide +kernel⟩ rfl rfl (by decide) (by decide)
theorem xq_NoLetter_k_found {P : Program} {w : World} {K : PySem.W.Frag} {mg : Str → Option Value} {base : Heap} {I C : Addr} {fd : FuncData} (m : mg "NoLetter" = some (.ref C)) (X : OxG K "ValueError.__init__" C) (i1 : PySem.W.findIn K (.ref C) "__init__" = some (some (.ref I))) (i2 : PySem.W.typeIn K (.ref I) = some (.type "function")) (F : Fun K "__init__" "NoLetter.__init__" (inClass (topS 16) 0) I fd) (O : FnOk P w K mg base CX0 1 I fd ["self", "found"] (spGx K "ValueError.__init__" ["found"])) (hf : ∀ f ∈ (["found"] : List Str), PySem.W.findIn K (.ref C) f = some none) :
    OxkG P w K mg base "NoLetter" ["found"] 0 ["found"] [0] := oxkG_of m X i1 i2 F O hf (fun _ _ _ _ _ _ _ us ws hl hk => match us, ws, hl, hk with | [], [_], _, _ => rfl)
theorem xq_NoLetter_p1 {P : Program} {w : World} {K : PySem.W.Frag} {mg : Str → Option Value} {base : Heap} {I C : Addr} {fd : FuncData} (m : mg "NoLetter" = some (.ref C)) (X : OxG K "ValueError.__init__" C) (i1 : PySem.W.findIn K (.ref C) "__init__" = some (some (.ref I))) (i2 : PySem.W.typeIn K (.ref I) = some (.type "function")) (F : Fun K "__init__" "NoLetter.__init__" (inClass (topS 16) 0) I fd) (O : FnOk P w K mg base CX0 1 I fd ["self", "found"] (spGx K "ValueError.__init__" ["found"])) (hf : ∀ f ∈ (["found"] : List Str), PySem.W.findIn K (.ref C) f = some none) :
    OxkG P w K mg base "NoLetter" ["found"] 1 [] [0] := oxkG_of m X i1 i2 F O hf (fun _ _ _ _ _ _ _ us ws hl hk => match us, ws, hl, hk with | [_], [], _, _ => rfl)
theorem xo_NoLimit {P : Program} {w : World} {K : PySem.W.Frag} {mg : Str → Option Value} {base : Heap} {I CB : Addr} {fd : FuncData} (B : BaseG K mg "FontError" CB "ValueError.__init__") (F : Fun K "__init__" "NoLimit.__init__" (inClass (topS 23) 0) I fd) :
    FnOk P w K mg base CX0 1 I fd ["self", "found"] (spGx K "ValueError.__init__" ["found"]) := gx1_ok F (fun _ _ _ _ _ _ => ⟨_, ps_expr (pe_ginit B (by decide +kernel) (pa_cons (pv 0) (pa_cons pe_str pa_nil)))⟩) rfl ⟨rfl, rfl, rfl, by decide +kernel, rfl, by decide +kernel, by decide +kernel⟩ rfl rfl (by decide) (by decide)
theorem xq_NoLimit_k_found {P : Program} {w : World} {K : PySem.W.Frag} {mg : Str → Option Value} {base : Heap} {I C : Addr} {fd : FuncData} (m : mg "NoLimit" = some (.ref C)) (X : OxG K "ValueError.__init__" C) (i1 : PySem.W.findIn K (.ref C) "__init__" = some (some (.ref I))) (i2 : PySem.W.typeIn K (.ref I) = some (.type "function")) (F : Fun K "__init__" "NoLimit.__init__" (inClass (topS 23) 0) I fd) (O : FnOk P w K mg base CX0 1 I fd ["self", "found"] (spGx K "ValueError.__init__" ["found"])) (hf : ∀ f ∈ (["found"] : List Str), PySem.W.findIn K (.ref C) f = some none) :
    OxkG P w K mg base "NoLimit" ["found"] 0 ["found"] [0] := oxkG_of m X i1 i2 F O hf (fun _ _ _ _ _ _ _ us ws hl hk => match us, ws, hl, hk with | [], [_], _, _ => rfl)
theorem xq_NoLimit_p1 {P : Program} {w : World} {K : PySem.W.Frag} {mg : Str → Option Value} {base : Heap} {I C : Addr} {fd : FuncData} (m : mg "NoLimit" = some (.ref C)) (X : OxG K "ValueError.__init__" C) (i1 : PySem.W.findIn K (.ref C) "__init__" = some (some (.ref I))) (i2 : PySem.W.typeIn K (.ref I) = some (.type "function")) (F : Fun K "__init__" "NoLimit.__init__" (inClass (topS 23) 0) I fd) (O : FnOk P w K mg base CX0 1 I fd ["self", "found"] (spGx K "ValueError.__init__" ["found"])) (hf : ∀ f ∈ (["found"] : List Str), PySem.W.findIn K (.ref C) f = some none) :
    OxkG P w K mg base "NoLimit" ["found"] 1 [] [0] := oxkG_of m X i1 i2 F O hf (fun _ _ _ _ _ _ _ us ws hl hk => match us, ws, hl, hk with | [_], [], _, _ => rfl)
theorem xo_NoLine {P : Program} {w : World} {K : PySem.W.Frag} {mg : Str → Option Value} {base : Heap} {I CB : Addr} {fd : FuncData} (B : BaseG K mg "FontError" CB "ValueError.__init__") (F : Fun K "__init__" "NoLine.__init__" (inClass (topS 22) 0) I fd) :
    FnOk P w K mg base CX0 1 I fd ["self", "found"] (spGx K "ValueError.__init__" ["found"]) := gx1_ok F (fun _ _ _ _ _ _ => ⟨_, ps_expr (pe_ginit B (by decide +kernel) (pa_cons (pv 0) (pa_cons pe_str pa_nil)))⟩) rfl ⟨rfl, rfl, rfl, by decide +kernel, rfl, by decide +kernel, by decide +kernel⟩ rfl rfl (by decide) (by decide)
theorem xq_NoLine_k_found {P : Program} {w : World} {K : PySem.W.Frag} {mg : Str → Option Value} {base : Heap} {I C : Addr} {fd : FuncData} (m : mg "NoLine" = some (.ref C)) (X : OxG K "ValueError.__init__" C) (i1 : PySem.W.findIn K (.ref C) "__init__" = some (some (.ref I))) (i2 : PySem.W.typeIn K (.ref I) = some (.type "function")) (F : Fun K "__init__" "NoLine.__init__" (inClass (topS 22) 0) I fd) (O : FnOk P w K mg base CX0 1 I fd ["self", "found"] (spGx K "ValueError.__init__" ["found"])) (hf : ∀ f ∈ (["found"] : List Str), PySem.W.findIn K (.ref C) f = some none) :
    OxkG P w K mg base "NoLine" ["found"] 0 ["found"] [0] := oxkG_of m X i1 i2 F O hf (fun _ _ _ _ _ _ _ us ws hl hk => match us, ws, hl, hk with | [], [_], _, _ => rfl)
theorem xq_NoLine_p1 {P : Program} {w : World} {K : PySem.W.Frag} {mg : Str → Option Value} {base : Heap} {I C : Addr} {fd : FuncData} (m : mg "NoLine" = some (.ref C)) (X : OxG K "ValueError.__init__" C) (i1 : PySem.W.findIn K (.ref C) "__init__" = some (some (.ref I))) (i2 : PySem.W.typeIn K (.ref I) = some (.type "function")) (F : Fun K "__init__" "NoLine.__init__" (inClass (topS 22) 0) I fd) (O : FnOk P w K mg base CX0 1 I fd ["self", "found"] (spGx K "ValueError.__init__" ["found"])) (hf : ∀ f ∈ (["found"] : List Str), PySem.W.findIn K (.ref C) f = some none) :
    OxkG P w K mg base "NoLine" ["found"] 1 [] [0] := oxkG_of m X i1 i2 F O hf (fun _ _ _ _ _ _ _ us ws hl hk => match us, ws, hl, hk with | [_], [], _, _ => rfl)
theorem xo_NoName {P : Program} {w : World} {K : PySem.W.Frag} {mg : Str → Option Value} {base : Heap} {I CB : Addr} {fd : FuncData} (B : BaseG K mg "FontError" CB "ValueError.__init__") (F : Fun K "__init__" "NoName.__init__" (inClass (topS 5) 0) I fd) :
    FnOk P w K mg base CX0 1 I fd ["self", "found"] (spGx K "ValueError.__init__" ["found"]) := gx1_ok F (fun _ _ _ _ _ _ => ⟨_, ps_expr (pe_ginit B (by decide +kernel) (pa_cons (pv 0) (pa_cons pe_str pa_nil)))⟩) rfl ⟨rfl, rfl, rfl, by decide +kernel, rfl, by decide +kernel, by decide +kernel⟩ rfl rfl (by decide) (by decide)
theorem xq_NoName_k_found {P : Program} {w : World} {K : PySem.W.Frag} {mg : Str → Option Value} {base : Heap} {I C : Addr} {fd : FuncData} (m : mg "NoName" = some (.ref C)) (X : OxG K "ValueError.__init__" C) (i1 : PySem.W.findIn K (.ref C) "__init__" = some (some (.ref I))) (i2 : PySem.W.typeIn K (.ref I) = some (.type "function")) (F : Fun K "__init__" "NoName.__init__" (inClass (topS 5) 0) I fd) (O : FnOk P w K mg base CX0 1 I fd ["self", "found"] (spGx K "ValueError.__init__" ["found"])) (hf : ∀ f ∈ (["found"] : List Str), PySem.W.findIn K (.ref C) f = some none) :
    OxkG P w K mg base "NoName" ["found"] 0 ["found"] [0] := oxkG_of m X i1 i2 F O hf (fun _ _ _ _ _ _ _ us ws hl hk => match us, ws, hl, hk with | [], [_], _, _ => rfl)
theorem xq_NoName_p1 {P : Program} {w : World} {K : PySem.W.Frag} {mg : Str → Option Value} {base : Heap} {I C : Addr} {fd : FuncData} (m : mg "NoName" = some (.ref C)) (X : OxG K "ValueError.__init__" C) (i1 : PySem.W.findIn K (.ref C) "__init__" = some (some (.ref I))) (i2 : PySem.W.typeIn K (.ref I) = some (.type "function")) (F : Fun K "__init__" "NoName.__init__" (inClass (topS 5) 0) I fd) (O : FnOk P w K mg base CX0 1 I fd ["self", "found"] (spGx K "ValueError.__init__" ["found"])) (hf : ∀ f ∈ (["found"] : List Str), PySem.W.findIn K (.ref C) f = some none) :
    OxkG P w K mg base "NoName" ["found"] 1 [] [0] := oxkG_of m X i1 i2 F O hf (fun _ _ _ _ _ _ _ us ws hl hk => match us, ws, hl, hk with | [_], [], _, _ => rfl)
theorem xo_NoNumber {P : Program} {w : World} {K : PySem.W.Frag} {mg : Str → Option Value} {base : Heap} {I CB : Addr} {fd : FuncData} (B : BaseG K mg "FontError" CB "ValueError.__init__") (F : Fun K "__init__" "NoNumber.__init__" (inClass (topS 4) 0) I fd) :
    FnOk P w K mg base CX0 1 I fd ["self", "found"] (spGx K "ValueError.__init__" ["found"]) := gx1_ok F (fun _ _ _ _ _ _ => ⟨_, ps_expr (pe_ginit B (by decide +kernel) (pa_cons (pv 0) (pa_cons pe_str pa_nil)))⟩) rfl ⟨rfl, rfl, rfl, by decide +kernel, rfl, by decide +kernel, by decide +kernel⟩ rfl rfl (by decide) (by decide)
theorem xq_NoNumber_k_found {P : Program} {w : World} {K : PySem.W.Frag} {mg : Str → Option Value} {base : Heap} {I C : Addr} {fd : FuncData} (m : mg "NoNumber" = some (.ref C)) (X : OxG K "ValueError.__init__" C) (i1 : PySem.W.findIn K (.ref C) "__init__" = some (some (.ref I))) (i2 : PySem.W.typeIn K (.ref I) = some (.type "function")) (F : Fun K "__init__" "NoNumber.__init__" (inClass (topS 4) 0) I fd) (O : FnOk P w K mg base CX0 1 I fd ["self", "found"] (spGx K "ValueError.__init__" ["found"])) (hf : ∀ f ∈ (["found"] : List Str), PySem.W.findIn K (.ref C) f = some none) :
    OxkG P w K mg base "NoNumber" ["found"] 0 ["found"] [0] := oxkG_of m X i1 i2 F O hf (fun _ _ _ _ _ _ _ us ws hl hk => match us, ws, hl, hk with | [], [_], _, _ => rfl)
theorem xq_NoNumber_p1 {P : Program} {w : World} {K : PySem.W.Frag} {mg : Str → Option Value} {base : Heap} {I C : Addr} {fd : FuncData} (m : mg "NoNumber" = some (.ref C)) (X : OxG K "ValueError.__init__" C) (i1 : PySem.W.findIn K (.ref C) "__init__" = some (some (.ref I))) (i2 : PySem.W.typeIn K (.ref I) = some (.type "function")) (F : Fun K "__init__" "NoNumber.__init__" (inClass (topS 4) 0) I fd) (O : FnOk P w K mg base CX0 1 I fd ["self", "found"] (spGx K "ValueError.__init__" ["found"])) (hf : ∀ f ∈ (["found"] : List Str), PySem.W.findIn K (.ref C) f = some none) :
    OxkG P w K mg base "NoNumber" ["found"] 1 [] [0] := oxkG_of m X i1 i2 F O hf (fun _ _ _ _ _ _ _ us ws hl hk => match us, ws, hl, hk with | [_], [], _, _ => rfl)
theorem xo_NoOutline {P : Program} {w : World} {K : PySem.W.Frag} {mg : Str → Option Value} {base : Heap} {I CB : Addr} {fd : FuncData} (B : BaseG K mg "FontError" CB "ValueError.__init__") (F : Fun K "__init__" "NoOutline.__init__" (inClass (topS 10) 0) I fd) :
    FnOk P w K mg base CX0 1 I fd ["self", "found"] (spGx K "ValueError.__init__" ["found"]) := gx1_ok F (fun _ _ _ _ _ _ => ⟨_, ps_expr (pe_ginit B (by decide +kernel) (pa_cons (pv 0) (pa_cons pe_str pa_nil)))⟩) rfl ⟨rfl, rfl, rfl, by decide +kernel, rfl, by decide +kernel, by decide +kernel⟩ rfl rfl (by decide) (by decide)
theorem xq_NoOutline_k_found {P : Program} {w : World} {K : PySem.W.Frag} {mg : Str → Option Value} {base : Heap} {I C : Addr} {fd : FuncData} (m : mg "NoOutline" = some (.ref C)) (X : OxG K "ValueError.__init__" C) (i1 : PySem.W.findIn K (.ref C) "__init__" = some (some (.ref I))) (i2 : PySem.W.typeIn K (.ref I) = some (.type "function")) (F : Fun K "__init__" "NoOutline.__init__" (inClass (topS 10) 0) I fd) (O : FnOk P w K mg base CX0 1 I fd ["self", "found"] (spGx K "ValueError.__init__" ["found"])) (hf : ∀ f ∈ (["found"] : List Str), PySem.W.findIn K (.ref C) f = some none) :
    OxkG P w K mg base "NoOutline" ["found"] 0 ["found"] [0] := oxkG_of m X i1 i2 F O hf (fun _ _ _ _ _ _ _ us ws hl hk => match us, ws, hl, hk with | [], [_], _, _ => rfl)
theorem xq_NoOutline_p1 {P : Program} {w : World} {K : PySem.W.Frag} {mg : Str → Option Value} {base : Heap} {I C : Addr} {fd : FuncData} (m : mg "NoOutline" = some (.ref C)) (X : OxG K "ValueError.__init__" C) (i1 : PySem.W.findIn K (.ref C) "__init__" = some (some (.ref I))) (i2 : PySem.W.typeIn K (.ref I) = some (.type "function")) (F : Fun K "__init__" "NoOutline.__init__" (inClass (topS 10) 0) I fd) (O : FnOk P w K mg base CX0 1 I fd ["self", "found"] (spGx K "ValueError.__init__" ["found"])) (hf : ∀ f ∈ (["found"] : List Str), PySem.W.findIn K (.ref C) f = some none) :
    OxkG P w K mg base "NoOutline" ["found"] 1 [] [0] := oxkG_of m X i1 i2 F O hf (fun _ _ _ _ _ _ _ us ws hl hk => match us, ws, hl, hk with | [_], [], _, _ => rfl)
theorem xo_NoParts {P : Program} {w : World} {K : PySem.W.Frag} {mg : Str → Option Value} {base : Heap} {I CB : Addr} {fd : FuncData} (B : BaseG K mg "FontError" CB "ValueError.__init__") (F : Fun K "__init__" "NoParts.__init__" (inClass (topS 17) 0) I fd) :
    FnOk P w K mg base CX0 1 I fd ["self", "found"] (spGx K "ValueError.__init__" ["found"]) := gx1_ok F (fun _ _ _ _ _ _ => ⟨_, ps_expr (pe_ginit B (by decide +kernel) (pa_cons (pv 0) (pa_cons pe_str pa_nil)))⟩) rfl ⟨rfl, rfl, rfl, by decide +kernel, rfl, by decide +kernel, by decide +kernel⟩ rfl rfl (by decide) (by decide)
theorem xq_NoParts_k_found {P : Program} {w : World} {K : PySem.W.Frag} {mg : Str → Option Value} {base : Heap} {I C : Addr} {fd : FuncData} (m : mg "NoParts" = some (.ref C)) (X : OxG K "ValueError.__init__" C) (i1 : PySem.W.findIn K (.ref C) "__init__" = some (some (.ref I))) (i2 : PySem.W.typeIn K (.ref I) = some (.type "function")) (F : Fun K "__init__" "NoParts.__init__" (inClass (topS 17) 0) I fd) (O : FnOk P w K mg base CX0 1 I fd ["self", "found"] (spGx K "ValueError.__init__" ["found"])) (hf : ∀ f ∈ (["found"] : List Str), PySem.W.findIn K (.ref C) f = some none) :
    OxkG P w K mg base "NoParts" ["found"] 0 ["found"] [0] := oxkG_of m X i1 i2 F O hf (fun _ _ _ _ _ _ _ us ws hl hk => match us, ws, hl, hk with | [], [_], _, _ => rfl)
theorem xq_NoParts_p1 {P : Program} {w : World} {K : PySem.W.Frag} {mg : Str → Option Value} {base : Heap} {I C : Addr} {fd : FuncData} (m : mg "NoParts" = some (.ref C)) (X : OxG K "ValueError.__init__" C) (i1 : PySem.W.findIn K (.ref C) "__init__" = some (some (.ref I))) (i2 : PySem.W.typeIn K (.ref I) = some (.type "function")) (F : Fun K "__init__" "NoParts.__init__" (inClass (topS 17) 0) I fd) (O : FnOk P w K mg base CX0 1 I fd ["self", "found"] (spGx K "ValueError.__init__" ["found"])) (hf : ∀ f ∈ (["found"] : List Str), PySem.W.findIn K (.ref C) f = some none) :
    OxkG P w K mg base "NoParts" ["found"] 1 [] [0] := oxkG_of m X i1 i2 F O hf (fun _ _ _ _ _ _ _ us ws hl hk => match us, ws, hl, hk with | [_], [], _, _ => rfl)
theorem xo_NoPlace {P : Program} {w : World} {K : PySem.W.Frag} {mg : Str → Option Value} {base : Heap} {I CB : Addr} {fd : FuncData} (B : BaseG K mg "FontError" CB "ValueError.__init__") (F : Fun K "__init__" "NoPlace.__init__" (inClass (topS 7) 0) I fd) :
    FnOk P w K mg base CX0 1 I fd ["self", "found"] (spGx K "ValueError.__init__" ["found"]) := gx1_ok F (fun _ _ _ _ _ _ => ⟨_, ps_expr (pe_ginit B (by decide +kernel) (pa_cons (pv 0) (pa_cons pe_str pa_nil)))⟩) rfl ⟨rfl, rfl, rfl, by decide +kernel, rfl, by decide +kernel, by decide +kernel⟩ rfl rfl (by decide) (by decide)
theorem xq_NoPlace_k_found {P : Program} {w : World} {K : PySem.W.Frag} {mg : Str → Option Value} {base : Heap} {I C : Addr} {fd : FuncData} (m : mg "NoPlace" = some (.ref C)) (X : OxG K "ValueError.__init__" C) (i1 : PySem.W.findIn K (.ref C) "__init__" = some (some (.ref I))) (i2 : PySem.W.typeIn K (.ref I) = some (.type "function")) (F : Fun K "__init__" "NoPlace.__init__" (inClass (topS 7) 0) I fd) (O : FnOk P w K mg base CX0 1 I fd ["self", "found"] (spGx K "ValueError.__init__" ["found"])) (hf : ∀ f ∈ (["found"] : List Str), PySem.W.findIn K (.ref C) f = some none) :
    OxkG P w K mg base "NoPlace" ["found"] 0 ["found"] [0] := oxkG_of m X i1 i2 F O hf (fun _ _ _ _ _ _ _ us ws hl hk => match us, ws, hl, hk with | [], [_], _, _ => rfl)
theorem xq_NoPlace_p1 {P : Program} {w : World} {K : PySem.W.Frag} {mg : Str → Option Value} {base : Heap} {I C : Addr} {fd : FuncData} (m : mg "NoPlace" = some (.ref C)) (X : OxG K "ValueError.__init__" C) (i1 : PySem.W.findIn K (.ref C) "__init__" = some (some (.ref I))) (i2 : PySem.W.typeIn K (.ref I) = some (.type "function")) (F : Fun K "__init__" "NoPlace.__init__" (inClass (topS 7) 0) I fd) (O : FnOk P w K mg base CX0 1 I fd ["self", "found"] (spGx K "ValueError.__init__" ["found"])) (hf : ∀ f ∈ (["found"] : List Str), PySem.W.findIn K (.ref C) f = some none) :
    OxkG P w K mg base "NoPlace" ["found"] 1 [] [0] := oxkG_of m X i1 i2 F O hf (fun _ _ _ _ _ _ _ us ws hl hk => match us, ws, hl, hk with | [_], [], _, _ => rfl)
theorem xo_NoPoint {P : Program} {w : World} {K : PySem.W.Frag} {mg : Str → Option Value} {base : Heap} {I CB : Addr} {fd : FuncData} (B : BaseG K mg "FontError" CB "ValueError.__init__") (F : Fun K "__init__" "NoPoint.__init__" (inClass (topS 11) 0) I fd) :
    FnOk P w K mg base CX0 1 I fd ["self", "found"] (spGx K "ValueError.__init__" ["found"]) := gx1_ok F (fun _ _ _ _ _ _ => ⟨_, ps_expr (pe_ginit B (by decide +kernel) (pa_cons (pv 0) (pa_cons pe_str pa_nil)))⟩) rfl ⟨rfl, rfl, rfl, by decide +kernel, rfl, by decide +kernel, by decide +kernel⟩ rfl rfl (by decide) (by decide)
theorem xq_NoPoint_k_found {P : Program} {w : World} {K : PySem.W.Frag} {mg : Str → Option Value} {base : Heap} {I C : Addr} {fd : FuncData} (m : mg "NoPoint" = some (.ref C)) (X : OxG K "ValueError.__init__" C) (i1 : PySem.W.findIn K (.ref C) "__init__" = some (some (.ref I))) (i2 : PySem.W.typeIn K (.ref I) = some (.type "function")) (F : Fun K "__init__" "NoPoint.__init__" (inClass (topS 11) 0) I fd) (O : FnOk P w K mg base CX0 1 I fd ["self", "found"] (spGx K "ValueError.__init__" ["found"])) (hf : ∀ f ∈ (["found"] : List Str), PySem.W.findIn K (.ref C) f = some none) :
    OxkG P w K mg base "NoPoint" ["found"] 0 ["found"] [0] := oxkG_of m X i1 i2 F O hf (fun _ _ _ _ _ _ _ us ws hl hk => match us, ws, hl, hk with | [], [_], _, _ => rfl)
theorem xq_NoPoint_p1 {P : Program} {w : World} {K : PySem.W.Frag} {mg : Str → Option Value} {base : Heap} {I C : Addr} {fd : FuncData} (m : mg "NoPoint" = some (.ref C)) (X : OxG K "ValueError.__init__" C) (i1 : PySem.W.findIn K (.ref C) "__init__" = some (some (.ref I))) (i2 : PySem.W.typeIn K (.ref I) = some (.type "function")) (F : Fun K "__init__" "NoPoint.__init__" (inClass (topS 11) 0) I fd) (O : FnOk P w K mg base CX0 1 I fd ["self", "found"] (spGx K "ValueError.__init__" ["found"])) (hf : ∀ f ∈ (["found"] : List Str), PySem.W.findIn K (.ref C) f = some none) :
    OxkG P w K mg base "NoPoint" ["found"] 1 [] [0] := oxkG_of m X i1 i2 F O hf (fun _ _ _ _ _ _ _ us ws hl hk => match us, ws, hl, hk with | [_], [], _, _ => rfl)
theorem xo_NoProgram {P : Program} {w : World} {K : PySem.W.Frag} {mg : Str → Option Value} {base : Heap} {I CB : Addr} {fd : FuncData} (B : BaseG K mg "FontError" CB "ValueError.__init__") (F : Fun K "__init__" "NoProgram.__init__" (inClass (topS 12) 0) I fd) :
    FnOk P w K mg base CX0 1 I fd ["self", "found"] (spGx K "ValueError.__init__" ["found"]) := gx1_ok F (fun _ _ _ _ _ _ => ⟨_, ps_expr (pe_ginit B (by decide +kernel) (pa_cons (pv 0) (pa_cons pe_str pa_nil)))⟩) rfl ⟨rfl, rfl, rfl, by decide +kernel, rfl, by decide +kernel, by decide +kernel⟩ rfl rfl (by decide) (by decide)
theorem xq_NoProgram_k_found {P : Program} {w : World} {K : PySem.W.Frag} {mg : Str → Option Value} {base : Heap} {I C : Addr} {fd : FuncData} (m : mg "NoProgram" = some (.ref C)) (X : OxG K "ValueError.__init__" C) (i1 : PySem.W.findIn K (.ref C) "__init__" = some (some (.ref I))) (i2 : PySem.W.typeIn K (.ref I) = some (.type "function")) (F : Fun K "__init__" "NoProgram.__init__" (inClass (topS 12) 0) I fd) (O : FnOk P w K mg base CX0 1 I fd ["self", "found"] (spGx K "ValueError.__init__" ["found"])) (hf : ∀ f ∈ (["found"] : List Str), PySem.W.findIn K (.ref C) f = some none) :
    OxkG P w K mg base "NoProgram" ["found"] 0 ["found"] [0] := oxkG_of m X i1 i2 F O hf (fun _ _ _ _ _ _ _ us ws hl hk => match us, ws, hl, hk with | [], [_], _, _ => rfl)
theorem xq_NoProgram_p1 {P : Program} {w : World} {K : PySem.W.Frag} {mg : Str → Option Value} {base : Heap} {I C : Addr} {fd : FuncData} (m : mg "NoProgram" = some (.ref C)) (X : OxG K "ValueError.__init__" C) (i1 : PySem.W.findIn K (.ref C) "__init__" = some (some (.ref I))) (i2 : PySem.W.typeIn K (.ref I) = some (.type "function")) (F : Fun K "__init__" "NoProgram.__init__" (inClass (topS 12) 0) I fd) (O : FnOk P w K mg base CX0 1 I fd ["self", "found"] (spGx K "ValueError.__init__" ["found"])) (hf : ∀ f ∈ (["found"] : List Str), PySem.W.findIn K (.ref C) f = some none) :
    OxkG P w K mg base "NoProgram" ["found"] 1 [] [0] := oxkG_of m X i1 i2 F O hf (fun _ _ _ _ _ _ _ us ws hl hk => match us, ws, hl, hk with | [_], [], _, _ => rfl)
theorem xo_NoRound {P : Program} {w : World} {K : PySem.W.Frag} {mg : Str → Option Value} {base : Heap} {I CB : Addr} {fd : FuncData} (B : BaseG K mg "FontError" CB "ValueError.__init__") (F : Fun K "__init__" "NoRound.__init__" (inClass (topS 9) 0) I fd) :
    FnOk P w K mg base CX0 1 I fd ["self", "found"] (spGx K "ValueError.__init__" ["found"]) := gx1_ok F (fun _ _ _ _ _ _ => ⟨_, ps_expr (pe_ginit B (by decide +kernel) (pa_cons (pv 0) (pa_cons pe_str pa_nil)))⟩) rfl ⟨rfl, rfl, rfl, by decide +kernel, rfl, by decide +kernel, by decide +kernel⟩ rfl rfl (by decide) (by decide)
theorem xq_NoRound_k_found {P : Program} {w : World} {K : PySem.W.Frag} {mg : Str → Option Value} {base : Heap} {I C : Addr} {fd : FuncData} (m : mg "NoRound" = some (.ref C)) (X : OxG K "ValueError.__init__" C) (i1 : PySem.W.findIn K (.ref C) "__init__" = some (some (.ref I))) (i2 : PySem.W.typeIn K (.ref I) = some (.type "function")) (F : Fun K "__init__" "NoRound.__init__" (inClass (topS 9) 0) I fd) (O : FnOk P w K mg base CX0 1 I fd ["self", "found"] (spGx K "ValueError.__init__" ["found"])) (hf : ∀ f ∈ (["found"] : List Str), PySem.W.findIn K (.ref C) f = some none) :
    OxkG P w K mg base "NoRound" ["found"] 0 ["found"] [0] := oxkG_of m X i1 i2 F O hf (fun _ _ _ _ _ _ _ us ws hl hk => match us, ws, hl, hk with | [], [_], _, _ => rfl)
theorem xq_NoRound_p1 {P : Program} {w : World} {K : PySem.W.Frag} {mg : Str → Option Value} {base : Heap} {I C : Addr} {fd : FuncData} (m : mg "NoRound" = some (.ref C)) (X : OxG K "ValueError.__init__" C) (i1 : PySem.W.findIn K (.ref C) "__init__" = some (some (.ref I))) (i2 : PySem.W.typeIn K (.ref I) = some (.type "function")) (F : Fun K "__init__" "NoRound.__init__" (inClass (topS 9) 0) I fd) (O : FnOk P w K mg base CX0 1 I fd ["self", "found"] (spGx K "ValueError.__init__" ["found"])) (hf : ∀ f ∈ (["found"] : List Str), PySem.W.findIn K (.ref C) f = some none) :
    OxkG P w K mg base "NoRound" ["found"] 1 [] [0] := oxkG_of m X i1 i2 F O hf (fun _ _ _ _ _ _ _ us ws hl hk => match us, ws, hl, hk with | [_], [], _, _ => rfl)
theorem xo_NoRow {P : Program} {w : World} {K : PySem.W.Frag} {mg : Str → Option Value} {base : Heap} {I CB : Addr} {fd : FuncData} (B : BaseG K mg "FontError" CB "ValueError.__init__") (F : Fun K "__init__" "NoRow.__init__" (inClass (topS 27) 0) I fd) :
    FnOk P w K mg base CX0 1 I fd ["self", "at"] (spGx K "ValueError.__init__" ["at"]) := gx1_ok F (fun _ _ _ _ _ _ => ⟨_, ps_expr (pe_ginit B (by decide +kernel) (pa_cons (pv 0) (pa_cons pe_str pa_nil)))⟩) rfl ⟨rfl, rfl, rfl, by decide +kernel, rfl, by decide +kernel, by decide +kernel⟩ rfl rfl (by decide) (by decide)
theorem xq_NoRow_k_at {P : Program} {w : World} {K : PySem.W.Frag} {mg : Str → Option Value} {base : Heap} {I C : Addr} {fd : FuncData} (m : mg "NoRow" = some (.ref C)) (X : OxG K "ValueError.__init__" C) (i1 : PySem.W.findIn K (.ref C) "__init__" = some (some (.ref I))) (i2 : PySem.W.typeIn K (.ref I) = some (.type "function")) (F : Fun K "__init__" "NoRow.__init__" (inClass (topS 27) 0) I fd) (O : FnOk P w K mg base CX0 1 I fd ["self", "at"] (spGx K "ValueError.__init__" ["at"])) (hf : ∀ f ∈ (["at"] : List Str), PySem.W.findIn K (.ref C) f = some none) :
    OxkG P w K mg base "NoRow" ["at"] 0 ["at"] [0] := oxkG_of m X i1 i2 F O hf (fun _ _ _ _ _ _ _ us ws hl hk => match us, ws, hl, hk with | [], [_], _, _ => rfl)
theorem xq_NoRow_p1 {P : Program} {w : World} {K : PySem.W.Frag} {mg : Str → Option Value} {base : Heap} {I C : Addr} {fd : FuncData} (m : mg "NoRow" = some (.ref C)) (X : OxG K "ValueError.__init__" C) (i1 : PySem.W.findIn K (.ref C) "__init__" = some (some (.ref I))) (i2 : PySem.W.typeIn K (.ref I) = some (.type "function")) (F : Fun K "__init__" "NoRow.__init__" (inClass (topS 27) 0) I fd) (O : FnOk P w K mg base CX0 1 I fd ["self", "at"] (spGx K "ValueError.__init__" ["at"])) (hf : ∀ f ∈ (["at"] : List Str), PySem.W.findIn K (.ref C) f = some none) :
    OxkG P w K mg base "NoRow" ["at"] 1 [] [0] := oxkG_of m X i1 i2 F O hf (fun _ _ _ _ _ _ _ us ws hl hk => match us, ws, hl, hk with | [_], [], _, _ => rfl)
theorem xo_NoSize {P : Program} {w : World} {K : PySem.W.Frag} {mg : Str → Option Value} {base : Heap} {I CB : Addr} {fd : FuncData} (B : BaseG K mg "FontError" CB "ValueError.__init__") (F : Fun K "__init__" "NoSize.__init__" (inClass (topS 18) 0) I fd) :
    FnOk P w K mg base CX0 1 I fd ["self", "found"] (spGx K "ValueError.__init__" ["found"]) := gx1_ok F (fun _ _ _ _ _ _ => ⟨_, ps_expr (pe_ginit B (by decide +kernel) (pa_cons (pv 0) (pa_cons pe_str pa_nil)))⟩) rfl ⟨rfl, rfl, rfl, by decide +kernel, rfl, by decide +kernel, by decide +kernel⟩ rfl rfl (by decide) (by decide)
theorem xq_NoSize_k_found {P : Program} {w : World} {K : PySem.W.Frag} {mg : Str → Option Value} {base : Heap} {I C : Addr} {fd : FuncData} (m : mg "NoSize" = some (.ref C)) (X : OxG K "ValueError.__init__" C) (i1 : PySem.W.findIn K (.ref C) "__init__" = some (some (.ref I))) (i2 : PySem.W.typeIn K (.ref I) = some (.type "function")) (F : Fun K "__init__" "NoSize.__init__" (inClass (topS 18) 0) I fd) (O : FnOk P w K mg base CX0 1 I fd ["self", "found"] (spGx K "ValueError.__init__" ["found"])) (hf : ∀ f ∈ (["found"] : List Str), PySem.W.findIn K (.ref C) f = some none) :
    OxkG P w K mg base "NoSize" ["found"] 0 ["found"] [0] := oxkG_of m X i1 i2 F O hf (fun _ _ _ _ _ _ _ us ws hl hk => match us, ws, hl, hk with | [], [_], _, _ => rfl)
theorem xq_NoSize_p1 {P : Program} {w : World} {K : PySem.W.Frag} {mg : Str → Option Value} {base : Heap} {I C : Addr} {fd : FuncData} (m : mg "NoSize" = some (.ref C)) (X : OxG K "ValueError.__init__" C) (i1 : PySem.W.findIn K (.ref C) "__init__" = some (some (.ref I))) (i2 : PySem.W.typeIn K (.ref I) = some (.type "function")) (F : Fun K "__init__" "NoSize.__init__" (inClass (topS 18) 0) I fd) (O : FnOk P w K mg base CX0 1 I fd ["self", "found"] (spGx K "ValueError.__init__" ["found"])) (hf : ∀ f ∈ (["found"] : List Str), PySem.W.findIn K (.ref C) f = some none) :
    OxkG P w K mg base "NoSize" ["found"] 1 [] [0] := oxkG_of m X i1 i2 F O hf (fun _ _ _ _ _ _ _ us ws hl hk => match us, ws, hl, hk with | [_], [], _, _ => rfl)
theorem xo_NoSuch {P : Program} {w : World} {K : PySem.W.Frag} {mg : Str → Option Value} {base : Heap} {I CB : Addr} {fd : FuncData} (B : BaseG K mg "Unknown" CB "KeyError.__init__") (F : Fun K "__init__" "NoSuch.__init__" (inClass (topS 32) 0) I fd) :
    FnOk P w K mg base CX0 1 I fd ["self", "found"] (spGx K "KeyError.__init__" ["found"]) := gx1_ok F (fun _ _ _ _ _ _ => ⟨_, ps_expr (pe_ginit B (by decide +kernel) (pa_cons (pv 0) (pa_cons pe_str pa_nil)))⟩) rfl ⟨rfl, rfl, rfl, by decide +kernel, rfl, by decide +kernel, by decide +kernel⟩ rfl rfl (by decide) (by decide)
theorem xq_NoSuch_k_found {P : Program} {w : World} {K : PySem.W.Frag} {mg : Str → Option Value} {base : Heap} {I C : Addr} {fd : FuncData} (m : mg "NoSuch" = some (.ref C)) (X : OxG K "KeyError.__init__" C) (i1 : PySem.W.findIn K (.ref C) "__init__" = some (some (.ref I))) (i2 : PySem.W.typeIn K (.ref I) = some (.type "function")) (F : Fun K "__init__" "NoSuch.__init__" (inClass (topS 32) 0) I fd) (O : FnOk P w K mg base CX0 1 I fd ["self", "found"] (spGx K "KeyError.__init__" ["found"])) (hf : ∀ f ∈ (["found"] : List Str), PySem.W.findIn K (.ref C) f = some none) :
    OxkG P w K mg base "NoSuch" ["found"] 0 ["found"] [0] := oxkG_of m X i1 i2 F O hf (fun _ _ _ _ _ _ _ us ws hl hk => match us, ws, hl, hk with | [], [_], _, _ => rfl)
theorem xq_NoSuch_p1 {P : Program} {w : World} {K : PySem.W.Frag} {mg : Str → Option Value} {base : Heap} {I C : Addr} {fd : FuncData} (m : mg "NoSuch" = some (.ref C)) (X : OxG K "KeyError.__init__" C) (i1 : PySem.W.findIn K (.ref C) "__init__" = some (some (.ref I))) (i2 : PySem.W.typeIn K (.ref I) = some (.type "function")) (F : Fun K "__init__" "NoSuch.__init__" (inClass (topS 32) 0) I fd) (O : FnOk P w K mg base CX0 1 I fd ["self", "found"] (spGx K "KeyError.__init__" ["found"])) (hf : ∀ f ∈ (["found"] : List Str), PySem.W.findIn K (.ref C) f = some none) :
    OxkG P w K mg base "NoSuch" ["found"] 1 [] [0] := oxkG_of m X i1 i2 F O hf (fun _ _ _ _ _ _ _ us ws hl hk => match us, ws, hl, hk with | [_], [], _, _ => rfl)
theorem xo_NoText {P : Program} {w : World} {K : PySem.W.Frag} {mg : Str → Option Value} {base : Heap} {I CB : Addr} {fd : FuncData} (B : BaseG K mg "FontError" CB "ValueError.__init__") (F : Fun K "__init__" "NoText.__init__" (inClass (topS 6) 0) I fd) :
    FnOk P w K mg base CX0 1 I fd ["self", "found"] (spGx K "ValueError.__init__" ["found"]) := gx1_ok F (fun _ _ _ _ _ _ => ⟨_, ps_expr (pe_ginit B (by decide +kernel) (pa_cons (pv 0) (pa_cons pe_str pa_nil)))⟩) rfl ⟨rfl, rfl, rfl, by decide +kernel, rfl, by decide +kernel, by decide +kernel⟩ rfl rfl (by decide) (by decide)
theorem xq_NoText_k_found {P : Program} {w : World} {K : PySem.W.Frag} {mg : Str → Option Value} {base : Heap} {I C : Addr} {fd : FuncData} (m : mg "NoText" = some (.ref C)) (X : OxG K "ValueError.__init__" C) (i1 : PySem.W.findIn K (.ref C) "__init__" = some (some (.ref I))) (i2 : PySem.W.typeIn K (.ref I) = some (.type "function")) (F : Fun K "__init__" "NoText.__init__" (inClass (topS 6) 0) I fd) (O : FnOk P w K mg base CX0 1 I fd ["self", "found"] (spGx K "ValueError.__init__" ["found"])) (hf : ∀ f ∈ (["found"] : List Str), PySem.W.findIn K (.ref C) f = some none) :
    OxkG P w K mg base "NoText" ["found"] 0 ["found"] [0] := oxkG_of m X i1 i2 F O hf (fun _ _ _ _ _ _ _ us ws hl hk => match us, ws, hl, hk with | [], [_], _, _ => rfl)
theorem xq_NoText_p1 {P : Program} {w : World} {K : PySem.W.Frag} {mg : Str → Option Value} {base : Heap} {I C : Addr} {fd : FuncData} (m : mg "NoText" = some (.ref C)) (X : OxG K "ValueError.__init__" C) (i1 : PySem.W.findIn K (.ref C) "__init__" = some (some (.ref I))) (i2 : PySem.W.typeIn K (.ref I) = some (.type "function")) (F : Fun K "__init__" "NoText.__init__" (inClass (topS 6) 0) I fd) (O : FnOk P w K mg base CX0 1 I fd ["self", "found"] (spGx K "ValueError.__init__" ["found"])) (hf : ∀ f ∈ (["found"] : List Str), PySem.W.findIn K (.ref C) f = some none) :
    OxkG P w K mg base "NoText" ["found"] 1 [] [0] := oxkG_of m X i1 i2 F O hf (fun _ _ _ _ _ _ _ us ws hl hk => match us, ws, hl, hk with | [_], [], _, _ => rfl)
theorem xo_NoWay {P : Program} {w : World} {K : PySem.W.Frag} {mg : Str → Option Value} {base : Heap} {I CB : Addr} {fd : FuncData} (B : BaseG K mg "FontError" CB "ValueError.__init__") (F : Fun K "__init__" "NoWay.__init__" (inClass (topS 8) 0) I fd) :
    FnOk P w K mg base CX0 1 I fd ["self", "found"] (spGx K "ValueError.__init__" ["found"]) := gx1_ok F (fun _ _ _ _ _ _ => ⟨_, ps_expr (pe_ginit B (by decide +kernel) (pa_cons (pv 0) (pa_cons pe_str pa_nil)))⟩) rfl ⟨rfl, rfl, rfl, by decide +kernel, rfl, by decide +kernel, by decide +kernel⟩ rfl rfl (by decide) (by decide)
theorem xq_NoWay_k_found {P : Program} {w : World} {K : PySem.W.Frag} {mg : Str → Option Value} {base : Heap} {I C : Addr} {fd : FuncData} (m : mg "NoWay" = some (.ref C)) (X : OxG K "ValueError.__init__" C) (i1 : PySem.W.findIn K (.ref C) "__init__" = some (some (.ref I))) (i2 : PySem.W.typeIn K (.ref I) = some (.type "function")) (F : Fun K "__init__" "NoWay.__init__" (inClass (topS 8) 0) I fd) (O : FnOk P w K mg base CX0 1 I fd ["self", "found"] (spGx K "ValueError.__init__" ["found"])) (hf : ∀ f ∈ (["found"] : List Str), PySem.W.findIn K (.ref C) f = some none) :
    OxkG P w K mg base "NoWay" ["found"] 0 ["found"] [0] := oxkG_of m X i1 i2 F O hf (fun _ _ _ _ _ _ _ us ws hl hk => match us, ws, hl, hk with | [], [_], _, _ => rfl)
theorem xq_NoWay_p1 {P : Program} {w : World} {K : PySem.W.Frag} {mg : Str → Option Value} {base : Heap} {I C : Addr} {fd : FuncData} (m : mg "NoWay" = some (.ref C)) (X : OxG K "ValueError.__init__" C) (i1 : PySem.W.findIn K (.ref C) "__init__" = some (some (.ref I))) (i2 : PySem.W.typeIn K (.ref I) = some (.type "function")) (F : Fun K "__init__" "NoWay.__init__" (inClass (topS 8) 0) I fd) (O : FnOk P w K mg base CX0 1 I fd ["self", "found"] (spGx K "ValueError.__init__" ["found"])) (hf : ∀ f ∈ (["found"] : List Str), PySem.W.findIn K (.ref C) f = some none) :
    OxkG P w K mg base "NoWay" ["found"] 1 [] [0] := oxkG_of m X i1 i2 F O hf (fun _ _ _ _ _ _ _ us ws hl hk => match us, ws, hl, hk with | [_], [], _, _ => rfl)
theorem xo_NoWord {P : Program} {w : World} {K : PySem.W.Frag} {mg : Str → Option Value} {base : Heap} {I CB : Addr} {fd : FuncData} (B : BaseG K mg "FontError" CB "ValueError.__init__") (F : Fun K "__init__" "NoWord.__init__" (inClass (topS 13) 0) I fd) :
    FnOk P w K mg base CX0 1 I fd ["self", "found"] (spGx K "ValueError.__init__" ["found"]) := gx1_ok F (fun _ _ _ _ _ _ => ⟨_, ps_expr (pe_ginit B (by decide +kernel) (pa_cons (pv 0) (pa_cons pe_str pa_nil)))⟩) rfl ⟨rfl, rfl, rfl, by decide +kernel, rfl, by decide +kernel, by decide +kernel⟩ rfl rfl (by decide) (by decide)
theorem xq_NoWord_k_found {P : Program} {w : World} {K : PySem.W.Frag} {mg : Str → Option Value} {base : Heap} {I C : Addr} {fd : FuncData} (m : mg "NoWord" = some (.ref C)) (X : OxG K "ValueError.__init__" C) (i1 : PySem.W.findIn K (.ref C) "__init__" = some (some (.ref I))) (i2 : PySem.W.typeIn K (.ref I) = some (.type "function")) (F : Fun K "__init__" "NoWord.__init__" (inClass (topS 13) 0) I fd) (O : FnOk P w K mg base CX0 1 I fd ["self", "found"] (spGx K "ValueError.__init__" ["found"])) (hf : ∀ f ∈ (["found"] : List Str), PySem.W.findIn K (.ref C) f = some none) :
    OxkG P w K mg base "NoWord" ["found"] 0 ["found"] [0] := oxkG_of m X i1 i2 F O hf (fun _ _ _ _ _ _ _ us ws hl hk => match us, ws, hl, hk with | [], [_], _, _ => rfl)
theorem xq_NoWord_p1 {P : Program} {w : World} {K : PySem.W.Frag} {mg : Str → Option Value} {base : Heap} {I C : Addr} {fd : FuncData} (m : mg "NoWord" = some (.ref C)) (X : OxG K "ValueError.__init__" C) (i1 : PySem.W.findIn K (.ref C) "__init__" = some (some (.ref I))) (i2 : PySem.W.typeIn K (.ref I) = some (.type "function")) (F : Fun K "__init__" "NoWord.__init__" (inClass (topS 13) 0) I fd) (O : FnOk P w K mg base CX0 1 I fd ["self", "found"] (spGx K "ValueError.__init__" ["found"])) (hf : ∀ f ∈ (["found"] : List Str), PySem.W.findIn K (.ref C) f = some none) :
    OxkG P w K mg base "NoWord" ["found"] 1 [] [0] := oxkG_of m X i1 i2 F O hf (fun _ _ _ _ _ _ _ us ws hl hk => match us, ws, hl, hk with | [_], [], _, _ => rfl)
theorem xo_NoWorths {P : Program} {w : World} {K : PySem.W.Frag} {mg : Str → Option Value} {base : Heap} {I CB : Addr} {fd : FuncData} (B : BaseG K mg "FontError" CB "ValueError.__init__") (F : Fun K "__init__" "NoWorths.__init__" (inClass (topS 15) 0) I fd) :
    FnOk P w K mg base CX0 1 I fd ["self", "found"] (spGx K "ValueError.__init__" ["found"]) := gx1_ok F (fun _ _ _ _ _ _ => ⟨_, ps_expr (pe_ginit B (by decide +kernel) (pa_cons (pv 0) (pa_cons pe_str pa_nil)))⟩) rfl ⟨rfl, rfl, rfl, by decide +kernel, rfl, by decide +kernel, by decide +kernel⟩ rfl rfl (by decide) (by decide)
theorem xq_NoWorths_k_found {P : Program} {w : World} {K : PySem.W.Frag} {mg : Str → Option Value} {base : Heap} {I C : Addr} {fd : FuncData} (m : mg "NoWorths" = some (.ref C)) (X : OxG K "ValueError.__init__" C) (i1 : PySem.W.findIn K (.ref C) "__init__" = some (some (.ref I))) (i2 : PySem.W.typeIn K (.ref I) = some (.type "function")) (F : Fun K "__init__" "NoWorths.__init__" (inClass (topS 15) 0) I fd) (O : FnOk P w K mg base CX0 1 I fd ["self", "found"] (spGx K "ValueError.__init__" ["found"])) (hf : ∀ f ∈ (["found"] : List Str), PySem.W.findIn K (.ref C) f = some none) :
    OxkG P w K mg base "NoWorths" ["found"] 0 ["found"] [0] := oxkG_of m X i1 i2 F O hf (fun _ _ _ _ _ _ _ us ws hl hk => match us, ws, hl, hk with | [], [_], _, _ => rfl)
theorem xq_NoWorths_p1 {P : Program} {w : World} {K : PySem.W.Frag} {mg : Str → Option Value} {base : Heap} {I C : Addr} {fd : FuncData} (m : mg "NoWorths" = some (.ref C)) (X : OxG K "ValueError.__init__" C) (i1 : PySem.W.findIn K (.ref C) "__init__" = some (some (.ref I))) (i2 : PySem.W.typeIn K (.ref I) = some (.type "function")) (F : Fun K "__init__" "NoWorths.__init__" (inClass (topS 15) 0) I fd) (O : FnOk P w K mg base CX0 1 I fd ["self", "found"] (spGx K "ValueError.__init__" ["found"])) (hf : ∀ f ∈ (["found"] : List Str), PySem.W.findIn K (.ref C) f = some none) :
    OxkG P w K mg base "NoWorths" ["found"] 1 [] [0] := oxkG_of m X i1 i2 F O hf (fun _ _ _ _ _ _ _ us ws hl hk => match us, ws, hl, hk with | [_], [], _, _ => rfl)
theorem xo_NoZone {P : Program} {w : World} {K : PySem.W.Frag} {mg : Str → Option Value} {base : Heap} {I CB : Addr} {fd : FuncData} (B : BaseG K mg "FontError" CB "ValueError.__init__") (F : Fun K "__init__" "NoZone.__init__" (inClass (topS 19) 0) I fd) :
    FnOk P w K mg base CX0 1 I fd ["self", "found"] (spGx K "ValueError.__init__" ["found"]) := gx1_ok F (fun _ _ _ _ _ _ => ⟨_, ps_expr (pe_ginit B (by decide +kernel) (pa_cons (pv 0) (pa_cons pe_str pa_nil)))⟩) rfl ⟨rfl, rfl, rfl, by decide +kernel, rfl, by decide +kernel, by decide +kernel⟩ rfl rfl (by decide) (by decide)
theorem xq_NoZone_k_found {P : Program} {w : World} {K : PySem.W.Frag} {mg : Str → Option Value} {base : Heap} {I C : Addr} {fd : FuncData} (m : mg "NoZone" = some (.ref C)) (X : OxG K "ValueError.__init__" C) (i1 : PySem.W.findIn K (.ref C) "__init__" = some (some (.ref I))) (i2 : PySem.W.typeIn K (.ref I) = some (.type "function")) (F : Fun K "__init__" "NoZone.__init__" (inClass (topS 19) 0) I fd) (O : FnOk P w K mg base CX0 1 I fd ["self", "found"] (spGx K "ValueError.__init__" ["found"])) (hf : ∀ f ∈ (["found"] : List Str), PySem.W.findIn K (.ref C) f = some none) :
    OxkG P w K mg base "NoZone" ["found"] 0 ["found"] [0] := oxkG_of m X i1 i2 F O hf (fun _ _ _ _ _ _ _ us ws hl hk => match us, ws, hl, hk with | [], [_], _, _ => rfl)
theorem xq_NoZone_p1 {P : Program} {w : World} {K : PySem.W.Frag} {mg : Str → Option Value} {base : Heap} {I C : Addr} {fd : FuncData} (m : mg "NoZone" = some (.ref C)) (X : OxG K "ValueError.__init__" C) (i1 : PySem.W.findIn K (.ref C) "__init__" = some (some (.ref I))) (i2 : PySem.W.typeIn K (.ref I) = some (.type "function")) (F : Fun K "__init__" "NoZone.__init__" (inClass (topS 19) 0) I fd) (O : FnOk P w K mg base CX0 1 I fd ["self", "found"] (spGx K "ValueError.__init__" ["found"])) (hf : ∀ f ∈ (["found"] : List Str), PySem.W.findIn K (.ref C) f = some none) :
    OxkG P w K mg base "NoZone" ["found"] 1 [] [0] := oxkG_of m X i1 i2 F O hf (fun _ _ _ _ _ _ _ us ws hl hk => match us, ws, hl, hk with | [_], [], _, _ => rfl)
theorem xo_TooMany {P : Program} {w : World} {K : PySem.W.Frag} {mg : Str → Option Value} {base : Heap} {I CB : Addr} {fd : FuncData} (B : BaseG K mg "FontError" CB "ValueError.__init__") (F : Fun K "__init__" "TooMany.__init__" (inClass (topS 25) 0) I fd) :
    FnOk P w K mg base CX0 1 I fd ["self", "many"] (spGx K "ValueError.__init__" ["many"]) := gx1_ok F (fun _ _ _ _ _ _ => ⟨_, ps_expr (pe_ginit B (by decide +kernel) (pa_cons (pv 0) (pa_cons pe_str pa_nil)))⟩) rfl ⟨rfl, rfl, rfl, by decide +kernel, rfl, by decide +kernel, by decide +kernel⟩ rfl rfl (by decide) (by decide)
theorem xq_TooMany_k_many {P : Program} {w : World} {K : PySem.W.Frag} {mg : Str → Option Value} {base : Heap} {I C : Addr} {fd : FuncData} (m : mg "TooMany" = some (.ref C)) (X : OxG K "ValueError.__init__" C) (i1 : PySem.W.findIn K (.ref C) "__init__" = some (some (.ref I))) (i2 : PySem.W.typeIn K (.ref I) = some (.type "function")) (F : Fun K "__init__" "TooMany.__init__" (inClass (topS 25) 0) I fd) (O : FnOk P w K mg base CX0 1 I fd ["self", "many"] (spGx K "ValueError.__init__" ["many"])) (hf : ∀ f ∈ (["many"] : List Str), PySem.W.findIn K (.ref C) f = some none) :
    OxkG P w K mg base "TooMany" ["many"] 0 ["many"] [0] := oxkG_of m X i1 i2 F O hf (fun _ _ _ _ _ _ _ us ws hl hk => match us, ws, hl, hk with | [], [_], _, _ => rfl)
theorem xq_TooMany_p1 {P : Program} {w : World} {K : PySem.W.Frag} {mg : Str → Option Value} {base : Heap} {I C : Addr} {fd : FuncData} (m : mg "TooMany" = some (.ref C)) (X : OxG K "ValueError.__init__" C) (i1 : PySem.W.findIn K (.ref C) "__init__" = some (some (.ref I))) (i2 : PySem.W.typeIn K (.ref I) = some (.type "function")) (F : Fun K "__init__" "TooMany.__init__" (inClass (topS 25) 0) I fd) (O : FnOk P w K mg base CX0 1 I fd ["self", "many"] (spGx K "ValueError.__init__" ["many"])) (hf : ∀ f ∈ (["many"] : List Str), PySem.W.findIn K (.ref C) f = some none) :
    OxkG P w K mg base "TooMany" ["many"] 1 [] [0] := oxkG_of m X i1 i2 F O hf (fun _ _ _ _ _ _ _ us ws hl hk => match us, ws, hl, hk with | [_], [], _, _ => rfl)
theorem xo_Unready {P : Program} {w : World} {K : PySem.W.Frag} {mg : Str → Option Value} {base : Heap} {I CB : Addr} {fd : FuncData} (B : BaseG K mg "Missing" CB "LookupError.__init__") (F : Fun K "__init__" "Unready.__init__" (inClass (topS 30) 0) I fd) :
    FnOk P w K mg base CX0 1 I fd ["self"] (spGx K "LookupError.__init__" []) := gx0_ok F (fun _ _ _ _ _ _ => ⟨_, ps_expr (pe_ginit B (by decide +kernel) (pa_cons (pv 0) (pa_cons pe_str pa_nil)))⟩) rfl ⟨rfl, rfl, rfl, by decide +kernel, rfl, by decide +kernel, by decide +kernel⟩
theorem xq_Unready_p0 {P : Program} {w : World} {K : PySem.W.Frag} {mg : Str → Option Value} {base : Heap} {I C : Addr} {fd : FuncData} (m : mg "Unready" = some (.ref C)) (X : OxG K "LookupError.__init__" C) (i1 : PySem.W.findIn K (.ref C) "__init__" = some (some (.ref I))) (i2 : PySem.W.typeIn K (.ref I) = some (.type "function")) (F : Fun K "__init__" "Unready.__init__" (inClass (topS 30) 0) I fd) (O : FnOk P w K mg base CX0 1 I fd ["self"] (spGx K "LookupError.__init__" [])) (hf : ∀ f ∈ ([] : List Str), PySem.W.findIn K (.ref C) f = some none) :
    OxkG P w K mg base "Unready" [] 0 [] [] := oxkG_of m X i1 i2 F O hf (fun _ _ _ _ _ _ _ us ws hl hk => match us, ws, hl, hk with | [], [], _, _ => rfl)
theorem all_mk {l : PySem.W.OpenLaw} {w : World} {K : PySem.W.Frag} {h : Heap} {mg : Str → Option Value} {fa : Addr} {f__law_cell : Addr} {od__law_cell an__law_cell : Option Addr} {sl__law_cell : Array (Option Value)} {oc__law_cell kV__law_cell dc__law_cell pm__law_cell cd__law_cell ct__law_cell : Value} {f__law_box : Addr} {od__law_box an__law_box : Option Addr} {sl__law_box : Array (Option Value)} {oc__law_box kV__law_box dc__law_box pm__law_box cd__law_box ct__law_box : Value} {f__law_take : Addr} {od__law_take an__law_take : Option Addr} {sl__law_take : Array (Option Value)} {oc__law_take kV__law_take dc__law_take pm__law_take cd__law_take ct__law_take : Value} {f__law_kinds : Addr} {od__law_kinds an__law_kinds : Option Addr} {sl__law_kinds : Array (Option Value)} {oc__law_kinds kV__law_kinds dc__law_kinds pm__law_kinds cd__law_kinds ct__law_kinds : Value} {f__law_made : Addr} {od__law_made an__law_made : Option Addr} {sl__law_made : Array (Option Value)} {oc__law_made kV__law_made dc__law_made pm__law_made cd__law_made ct__law_made : Value} {f__law_named : Addr} {od__law_named an__law_named : Option Addr} {sl__law_named : Array (Option Value)} {oc__law_named kV__law_named dc__law_named pm__law_named cd__law_named ct__law_named : Value} {f__law_fields : Addr} {od__law_fields an__law_fields : Option Addr} {sl__law_fields : Array (Option Value)} {oc__law_fields kV__law_fields dc__law_fields pm__law_fields cd__law_fields ct__law_fields : Value} {f__law_grown : Addr} {od__law_grown an__law_grown : Option Addr} {sl__law_grown : Array (Option Value)} {oc__law_grown kV__law_grown dc__law_grown pm__law_grown cd__law_grown ct__law_grown : Value} {f__law_text : Addr} {od__law_text an__law_text : Option Addr} {sl__law_text : Array (Option Value)} {oc__law_text kV__law_text dc__law_text pm__law_text cd__law_text ct__law_text : Value} {f__law_thing : Addr} {od__law_thing an__law_thing : Option Addr} {sl__law_thing : Array (Option Value)} {oc__law_thing kV__law_thing dc__law_thing pm__law_thing cd__law_thing ct__law_thing : Value} {f__law_right : Addr} {od__law_right an__law_right : Option Addr} {sl__law_right : Array (Option Value)} {oc__law_right kV__law_right dc__law_right pm__law_right cd__law_right ct__law_right : Value} {f_law : Addr} {od_law an_law : Option Addr} {sl_law : Array (Option Value)} {oc_law kV_law dc_law pm_law cd_law ct_law : Value} {C_Crossed : Addr} {C_Deep : Addr} {C_Fault : Addr} {C_FontError : Addr} {C_Missing : Addr} {C_NoBase : Addr} {C_NoCells : Addr} {C_NoChoices : Addr} {C_NoDefinition : Addr} {C_NoEntry : Addr} {C_NoFont : Addr} {C_NoLetter : Addr} {C_NoLimit : Addr} {C_NoLine : Addr} {C_NoName : Addr} {C_NoNumber : Addr} {C_NoOutline : Addr} {C_NoParts : Addr} {C_NoPlace : Addr} {C_NoPoint : Addr} {C_NoProgram : Addr} {C_NoRound : Addr} {C_NoRow : Addr} {C_NoSize : Addr} {C_NoSuch : Addr} {C_NoText : Addr} {C_NoWay : Addr} {C_NoWord : Addr} {C_NoWorths : Addr} {C_NoZone : Addr} {C_TooMany : Addr} {C_Unknown : Addr} {C_Unready : Addr} {nm_Crossed q_Crossed : Str} {N_Crossed : Addr} {bs_Crossed : List Value} {sn_Crossed : List Str} {sub_Crossed : List Value} {ab_Crossed : Bool} {col_Crossed : Option Bool} {dd_Crossed : Option Addr} {x0_Crossed x1_Crossed x2_Crossed x3_Crossed x5_Crossed : Option Value} {nm_Deep q_Deep : Str} {N_Deep : Addr} {bs_Deep : List Value} {sn_Deep : List Str} {sub_Deep : List Value} {ab_Deep : Bool} {col_Deep : Option Bool} {dd_Deep : Option Addr} {x0_Deep x1_Deep x2_Deep x3_Deep x5_Deep : Option Value} {nm_Fault q_Fault : Str} {N_Fault : Addr} {bs_Fault : List Value} {sn_Fault : List Str} {sub_Fault : List Value} {ab_Fault : Bool} {col_Fault : Option Bool} {dd_Fault : Option Addr} {x0_Fault x1_Fault x2_Fault x3_Fault x5_Fault : Option Value} {nm_NoBase q_NoBase : Str} {N_NoBase : Addr} {bs_NoBase : List Value} {sn_NoBase : List Str} {sub_NoBase : List Value} {ab_NoBase : Bool} {col_NoBase : Option Bool} {dd_NoBase : Option Addr} {x0_NoBase x1_NoBase x2_NoBase x3_NoBase x5_NoBase : Option Value} {nm_NoCells q_NoCells : Str} {N_NoCells : Addr} {bs_NoCells : List Value} {sn_NoCells : List Str} {sub_NoCells : List Value} {ab_NoCells : Bool} {col_NoCells : Option Bool} {dd_NoCells : Option Addr} {x0_NoCells x1_NoCells x2_NoCells x3_NoCells x5_NoCells : Option Value} {nm_NoChoices q_NoChoices : Str} {N_NoChoices : Addr} {bs_NoChoices : List Value} {sn_NoChoices : List Str} {sub_NoChoices : List Value} {ab_NoChoices : Bool} {col_NoChoices : Option Bool} {dd_NoChoices : Option Addr} {x0_NoChoices x1_NoChoices x2_NoChoices x3_NoChoices x5_NoChoices : Option Value} {nm_NoDefinition q_NoDefinition : Str} {N_NoDefinition : Addr} {bs_NoDefinition : List Value} {sn_NoDefinition : List Str} {sub_NoDefinition : List Value} {ab_NoDefinition : Bool} {col_NoDefinition : Option Bool} {dd_NoDefinition : Option Addr} {x0_NoDefinition x1_NoDefinition x2_NoDefinition x3_NoDefinition x5_NoDefinition : Option Value} {nm_NoEntry q_NoEntry : Str} {N_NoEntry : Addr} {bs_NoEntry : List Value} {sn_NoEntry : List Str} {sub_NoEntry : List Value} {ab_NoEntry : Bool} {col_NoEntry : Option Bool} {dd_NoEntry : Option Addr} {x0_NoEntry x1_NoEntry x2_NoEntry x3_NoEntry x5_NoEntry : Option Value} {nm_NoFont q_NoFont : Str} {N_NoFont : Addr} {bs_NoFont : List Value} {sn_NoFont : List Str} {sub_NoFont : List Value} {ab_NoFont : Bool} {col_NoFont : Option Bool} {dd_NoFont : Option Addr} {x0_NoFont x1_NoFont x2_NoFont x3_NoFont x5_NoFont : Option Value} {nm_NoLetter q_NoLetter : Str} {N_NoLetter : Addr} {bs_NoLetter : List Value} {sn_NoLetter : List Str} {sub_NoLetter : List Value} {ab_NoLetter : Bool} {col_NoLetter : Option Bool} {dd_NoLetter : Option Addr} {x0_NoLetter x1_NoLetter x2_NoLetter x3_NoLetter x5_NoLetter : Option Value} {nm_NoLimit q_NoLimit : Str} {N_NoLimit : Addr} {bs_NoLimit : List Value} {sn_NoLimit : List Str} {sub_NoLimit : List Value} {ab_NoLimit : Bool} {col_NoLimit : Option Bool} {dd_NoLimit : Option Addr} {x0_NoLimit x1_NoLimit x2_NoLimit x3_NoLimit x5_NoLimit : Option Value} {nm_NoLine q_NoLine : Str} {N_NoLine : Addr} {bs_NoLine : List Value} {sn_NoLine : List Str} {sub_NoLine : List Value} {ab_NoLine : Bool} {col_NoLine : Option Bool} {dd_NoLine : Option Addr} {x0_NoLine x1_NoLine x2_NoLine x3_NoLine x5_NoLine : Option Value} {nm_NoName q_NoName : Str} {N_NoName : Addr} {bs_NoName : List Value} {sn_NoName : List Str} {sub_NoName : List Value} {ab_NoName : Bool} {col_NoName : Option Bool} {dd_NoName : Option Addr} {x0_NoName x1_NoName x2_NoName x3_NoName x5_NoName : Option Value} {nm_NoNumber q_NoNumber : Str} {N_NoNumber : Addr} {bs_NoNumber : List Value} {sn_NoNumber : List Str} {sub_NoNumber : List Value} {ab_NoNumber : Bool} {col_NoNumber : Option Bool} {dd_NoNumber : Option Addr} {x0_NoNumber x1_NoNumber x2_NoNumber x3_NoNumber x5_NoNumber : Option Value} {nm_NoOutline q_NoOutline : Str} {N_NoOutline : Addr} {bs_NoOutline : List Value} {sn_NoOutline : List Str} {sub_NoOutline : List Value} {ab_NoOutline : Bool} {col_NoOutline : Option Bool} {dd_NoOutline : Option Addr} {x0_NoOutline x1_NoOutline x2_NoOutline x3_NoOutline x5_NoOutline : Option Value} {nm_NoParts q_NoParts : Str} {N_NoParts : Addr} {bs_NoParts : List Value} {sn_NoParts : List Str} {sub_NoParts : List Value} {ab_NoParts : Bool} {col_NoParts : Option Bool} {dd_NoParts : Option Addr} {x0_NoParts x1_NoParts x2_NoParts x3_NoParts x5_NoParts : Option Value} {nm_NoPlace q_NoPlace : Str} {N_NoPlace : Addr} {bs_NoPlace : List Value} {sn_NoPlace : List Str} {sub_NoPlace : List Value} {ab_NoPlace : Bool} {col_NoPlace : Option Bool} {dd_NoPlace : Option Addr} {x0_NoPlace x1_NoPlace x2_NoPlace x3_NoPlace x5_NoPlace : Option Value} {nm_NoPoint q_NoPoint : Str} {N_NoPoint : Addr} {bs_NoPoint : List Value} {sn_NoPoint : List Str} {sub_NoPoint : List Value} {ab_NoPoint : Bool} {col_NoPoint : Option Bool} {dd_NoPoint : Option Addr} {x0_NoPoint x1_NoPoint x2_NoPoint x3_NoPoint x5_NoPoint : Option Value} {nm_NoProgram q_NoProgram : Str} {N_NoProgram : Addr} {bs_NoProgram : List Value} {sn_NoProgram : List Str} {sub_NoProgram : List Value} {ab_NoProgram : Bool} {col_NoProgram : Option Bool} {dd_NoProgram : Option Addr} {x0_NoProgram x1_NoProgram x2_NoProgram x3_NoProgram x5_NoProgram : Option Value} {nm_NoRound q_NoRound : Str} {N_NoRound : Addr} {bs_NoRound : List Value} {sn_NoRound : List Str} {sub_NoRound : List Value} {ab_NoRound : Bool} {col_NoRound : Option Bool} {dd_NoRound : Option Addr} {x0_NoRound x1_NoRound x2_NoRound x3_NoRound x5_NoRound : Option Value} {nm_NoRow q_NoRow : Str} {N_NoRow : Addr} {bs_NoRow : List Value} {sn_NoRow : List Str} {sub_NoRow : List Value} {ab_NoRow : Bool} {col_NoRow : Option Bool} {dd_NoRow : Option Addr} {x0_NoRow x1_NoRow x2_NoRow x3_NoRow x5_NoRow : Option Value} {nm_NoSize q_NoSize : Str} {N_NoSize : Addr} {bs_NoSize : List Value} {sn_NoSize : List Str} {sub_NoSize : List Value} {ab_NoSize : Bool} {col_NoSize : Option Bool} {dd_NoSize : Option Addr} {x0_NoSize x1_NoSize x2_NoSize x3_NoSize x5_NoSize : Option Value} {nm_NoSuch q_NoSuch : Str} {N_NoSuch : Addr} {bs_NoSuch : List Value} {sn_NoSuch : List Str} {sub_NoSuch : List Value} {ab_NoSuch : Bool} {col_NoSuch : Option Bool} {dd_NoSuch : Option Addr} {x0_NoSuch x1_NoSuch x2_NoSuch x3_NoSuch x5_NoSuch : Option Value} {nm_NoText q_NoText : Str} {N_NoText : Addr} {bs_NoText : List Value} {sn_NoText : List Str} {sub_NoText : List Value} {ab_NoText : Bool} {col_NoText : Option Bool} {dd_NoText : Option Addr} {x0_NoText x1_NoText x2_NoText x3_NoText x5_NoText : Option Value} {nm_NoWay q_NoWay : Str} {N_NoWay : Addr} {bs_NoWay : List Value} {sn_NoWay : List Str} {sub_NoWay : List Value} {ab_NoWay : Bool} {col_NoWay : Option Bool} {dd_NoWay : Option Addr} {x0_NoWay x1_NoWay x2_NoWay x3_NoWay x5_NoWay : Option Value} {nm_NoWord q_NoWord : Str} {N_NoWord : Addr} {bs_NoWord : List Value} {sn_NoWord : List Str} {sub_NoWord : List Value} {ab_NoWord : Bool} {col_NoWord : Option Bool} {dd_NoWord : Option Addr} {x0_NoWord x1_NoWord x2_NoWord x3_NoWord x5_NoWord : Option Value} {nm_NoWorths q_NoWorths : Str} {N_NoWorths : Addr} {bs_NoWorths : List Value} {sn_NoWorths : List Str} {sub_NoWorths : List Value} {ab_NoWorths : Bool} {col_NoWorths : Option Bool} {dd_NoWorths : Option Addr} {x0_NoWorths x1_NoWorths x2_NoWorths x3_NoWorths x5_NoWorths : Option Value} {nm_NoZone q_NoZone : Str} {N_NoZone : Addr} {bs_NoZone : List Value} {sn_NoZone : List Str} {sub_NoZone : List Value} {ab_NoZone : Bool} {col_NoZone : Option Bool} {dd_NoZone : Option Addr} {x0_NoZone x1_NoZone x2_NoZone x3_NoZone x5_NoZone : Option Value} {nm_TooMany q_TooMany : Str} {N_TooMany : Addr} {bs_TooMany : List Value} {sn_TooMany : List Str} {sub_TooMany : List Value} {ab_TooMany : Bool} {col_TooMany : Option Bool} {dd_TooMany : Option Addr} {x0_TooMany x1_TooMany x2_TooMany x3_TooMany x5_TooMany : Option Value} {nm_Unready q_Unready : Str} {N_Unready : Addr} {bs_Unready : List Value} {sn_Unready : List Str} {sub_Unready : List Value} {ab_Unready : Bool} {col_Unready : Option Bool} {dd_Unready : Option Addr} {x0_Unready x1_Unready x2_Unready x3_Unready x5_Unready : Option Value} {I_Crossed : Addr} {iod_Crossed ian_Crossed : Option Addr} {isl_Crossed : Array (Option Value)} {ioc_Crossed ikV_Crossed idc_Crossed ipm_Crossed icd_Crossed ict_Crossed : Value} {I_Deep : Addr} {iod_Deep ian_Deep : Option Addr} {isl_Deep : Array (Option Value)} {ioc_Deep ikV_Deep idc_Deep ipm_Deep icd_Deep ict_Deep : Value} {I_Fault : Addr} {iod_Fault ian_Fault : Option Addr} {isl_Fault : Array (Option Value)} {ioc_Fault ikV_Fault idc_Fault ipm_Fault icd_Fault ict_Fault : Value} {I_NoBase : Addr} {iod_NoBase ian_NoBase : Option Addr} {isl_NoBase : Array (Option Value)} {ioc_NoBase ikV_NoBase idc_NoBase ipm_NoBase icd_NoBase ict_NoBase : Value} {I_NoCells : Addr} {iod_NoCells ian_NoCells : Option Addr} {isl_NoCells : Array (Option Value)} {ioc_NoCells ikV_NoCells idc_NoCells ipm_NoCells icd_NoCells ict_NoCells : Value} {I_NoChoices : Addr} {iod_NoChoices ian_NoChoices : Option Addr} {isl_NoChoices : Array (Option Value)} {ioc_NoChoices ikV_NoChoices idc_NoChoices ipm_NoChoices icd_NoChoices ict_NoChoices : Value} {I_NoDefinition : Addr} {iod_NoDefinition ian_NoDefinition : Option Addr} {isl_NoDefinition : Array (Option Value)} {ioc_NoDefinition ikV_NoDefinition idc_NoDefinition ipm_NoDefinition icd_NoDefinition ict_NoDefinition : Value} {I_NoEntry : Addr} {iod_NoEntry ian_NoEntry : Option Addr} {isl_NoEntry : Array (Option Value)} {ioc_NoEntry ikV_NoEntry idc_NoEntry ipm_NoEntry icd_NoEntry ict_NoEntry : Value} {I_NoFont : Addr} {iod_NoFont ian_NoFont : Option Addr} {isl_NoFont : Array (Option Value)} {ioc_NoFont ikV_NoFont idc_NoFont ipm_NoFont icd_NoFont ict_NoFont : Value} {I_NoLetter : Addr} {iod_NoLetter ian_NoLetter : Option Addr} {isl_NoLetter : Array (Option Value)} {ioc_NoLetter ikV_NoLetter idc_NoLetter ipm_NoLetter icd_NoLetter ict_NoLetter : Value} {I_NoLimit : Addr} {iod_NoLimit ian_NoLimit : Option Addr} {isl_NoLimit : Array (Option Value)} {ioc_NoLimit ikV_NoLimit idc_NoLimit ipm_NoLimit icd_NoLimit ict_NoLimit : Value} {I_NoLine : Addr} {iod_NoLine ian_NoLine : Option Addr} {isl_NoLine : Array (Option Value)} {ioc_NoLine ikV_NoLine idc_NoLine ipm_NoLine icd_NoLine ict_NoLine : Value} {I_NoName : Addr} {iod_NoName ian_NoName : Option Addr} {isl_NoName : Array (Option Value)} {ioc_NoName ikV_NoName idc_NoName ipm_NoName icd_NoName ict_NoName : Value} {I_NoNumber : Addr} {iod_NoNumber ian_NoNumber : Option Addr} {isl_NoNumber : Array (Option Value)} {ioc_NoNumber ikV_NoNumber idc_NoNumber ipm_NoNumber icd_NoNumber ict_NoNumber : Value} {I_NoOutline : Addr} {iod_NoOutline ian_NoOutline : Option Addr} {isl_NoOutline : Array (Option Value)} {ioc_NoOutline ikV_NoOutline idc_NoOutline ipm_NoOutline icd_NoOutline ict_NoOutline : Value} {I_NoParts : Addr} {iod_NoParts ian_NoParts : Option Addr} {isl_NoParts : Array (Option Value)} {ioc_NoParts ikV_NoParts idc_NoParts ipm_NoParts icd_NoParts ict_NoParts : Value} {I_NoPlace : Addr} {iod_NoPlace ian_NoPlace : Option Addr} {isl_NoPlace : Array (Option Value)} {ioc_NoPlace ikV_NoPlace idc_NoPlace ipm_NoPlace icd_NoPlace ict_NoPlace : Value} {I_NoPoint : Addr} {iod_NoPoint ian_NoPoint : Option Addr} {isl_NoPoint : Array (Option Value)} {ioc_NoPoint ikV_NoPoint idc_NoPoint ipm_NoPoint icd_NoPoint ict_NoPoint : Value} {I_NoProgram : Addr} {iod_NoProgram ian_NoProgram : Option Addr} {isl_NoProgram : Array (Option Value)} {ioc_NoProgram ikV_NoProgram idc_NoProgram ipm_NoProgram icd_NoProgram ict_NoProgram : Value} {I_NoRound : Addr} {iod_NoRound ian_NoRound : Option Addr} {isl_NoRound : Array (Option Value)} {ioc_NoRound ikV_NoRound idc_NoRound ipm_NoRound icd_NoRound ict_NoRound : Value} {I_NoRow : Addr} {iod_NoRow ian_NoRow : Option Addr} {isl_NoRow : Array (Option Value)} {ioc_NoRow ikV_NoRow idc_NoRow ipm_NoRow icd_NoRow ict_NoRow : Value} {I_NoSize : Addr} {iod_NoSize ian_NoSize : Option Addr} {isl_NoSize : Array (Option Value)} {ioc_NoSize ikV_NoSize idc_NoSize ipm_NoSize icd_NoSize ict_NoSize : Value} {I_NoSuch : Addr} {iod_NoSuch ian_NoSuch : Option Addr} {isl_NoSuch : Array (Option Value)} {ioc_NoSuch ikV_NoSuch idc_NoSuch ipm_NoSuch icd_NoSuch ict_NoSuch : Value} {I_NoText : Addr} {iod_NoText ian_NoText : Option Addr} {isl_NoText : Array (Option Value)} {ioc_NoText ikV_NoText idc_NoText ipm_NoText icd_NoText ict_NoText : Value} {I_NoWay : Addr} {iod_NoWay ian_NoWay : Option Addr} {isl_NoWay : Array (Option Value)} {ioc_NoWay ikV_NoWay idc_NoWay ipm_NoWay icd_NoWay ict_NoWay : Value} {I_NoWord : Addr} {iod_NoWord ian_NoWord : Option Addr} {isl_NoWord : Array (Option Value)} {ioc_NoWord ikV_NoWord idc_NoWord ipm_NoWord icd_NoWord ict_NoWord : Value} {I_NoWorths : Addr} {iod_NoWorths ian_NoWorths : Option Addr} {isl_NoWorths : Array (Option Value)} {ioc_NoWorths ikV_NoWorths idc_NoWorths ipm_NoWorths icd_NoWorths ict_NoWorths : Value} {I_NoZone : Addr} {iod_NoZone ian_NoZone : Option Addr} {isl_NoZone : Array (Option Value)} {ioc_NoZone ikV_NoZone idc_NoZone ipm_NoZone icd_NoZone ict_NoZone : Value} {I_TooMany : Addr} {iod_TooMany ian_TooMany : Option Addr} {isl_TooMany : Array (Option Value)} {ioc_TooMany ikV_TooMany idc_TooMany ipm_TooMany icd_TooMany ict_TooMany : Value} {I_Unready : Addr} {iod_Unready ian_Unready : Option Addr} {isl_Unready : Array (Option Value)} {ioc_Unready ikV_Unready idc_Unready ipm_Unready icd_Unready ict_Unready : Value} (X : K.In h) (G : h.Ns mainGlobals mg) (hfa : mg "law" = some (.ref fa))
    (a__law_cell : PySem.W.nsIn K mainGlobals "_law_cell" = some (some (.ref f__law_cell)))
    (l__law_cell : K.lookup f__law_cell = some ⟨oc__law_cell, od__law_cell, .func (PySem.W.fnOf "_law_cell" "_law_cell" (defArgs s__law_cell) (defBody s__law_cell) (defScope s__law_cell) .none kV__law_cell dc__law_cell pm__law_cell an__law_cell cd__law_cell ct__law_cell), sl__law_cell⟩)
    (c__law_cell : PySem.W.codeIn K cd__law_cell "_law_cell" = true)
    (k__law_cell : PySem.W.keepIn K (.ref f__law_cell) = true)
    (a__law_box : PySem.W.nsIn K mainGlobals "_law_box" = some (some (.ref f__law_box)))
    (l__law_box : K.lookup f__law_box = some ⟨oc__law_box, od__law_box, .func (PySem.W.fnOf "_law_box" "_law_box" (defArgs s__law_box) (defBody s__law_box) (defScope s__law_box) .none kV__law_box dc__law_box pm__law_box an__law_box cd__law_box ct__law_box), sl__law_box⟩)
    (c__law_box : PySem.W.codeIn K cd__law_box "_law_box" = true)
    (k__law_box : PySem.W.keepIn K (.ref f__law_box) = true)
    (a__law_take : PySem.W.nsIn K mainGlobals "_law_take" = some (some (.ref f__law_take)))
    (l__law_take : K.lookup f__law_take = some ⟨oc__law_take, od__law_take, .func (PySem.W.fnOf "_law_take" "_law_take" (defArgs s__law_take) (defBody s__law_take) (defScope s__law_take) .none kV__law_take dc__law_take pm__law_take an__law_take cd__law_take ct__law_take), sl__law_take⟩)
    (c__law_take : PySem.W.codeIn K cd__law_take "_law_take" = true)
    (k__law_take : PySem.W.keepIn K (.ref f__law_take) = true)
    (a__law_kinds : PySem.W.nsIn K mainGlobals "_law_kinds" = some (some (.ref f__law_kinds)))
    (l__law_kinds : K.lookup f__law_kinds = some ⟨oc__law_kinds, od__law_kinds, .func (PySem.W.fnOf "_law_kinds" "_law_kinds" (defArgs s__law_kinds) (defBody s__law_kinds) (defScope s__law_kinds) .none kV__law_kinds dc__law_kinds pm__law_kinds an__law_kinds cd__law_kinds ct__law_kinds), sl__law_kinds⟩)
    (c__law_kinds : PySem.W.codeIn K cd__law_kinds "_law_kinds" = true)
    (k__law_kinds : PySem.W.keepIn K (.ref f__law_kinds) = true)
    (a__law_made : PySem.W.nsIn K mainGlobals "_law_made" = some (some (.ref f__law_made)))
    (l__law_made : K.lookup f__law_made = some ⟨oc__law_made, od__law_made, .func (PySem.W.fnOf "_law_made" "_law_made" (defArgs s__law_made) (defBody s__law_made) (defScope s__law_made) .none kV__law_made dc__law_made pm__law_made an__law_made cd__law_made ct__law_made), sl__law_made⟩)
    (c__law_made : PySem.W.codeIn K cd__law_made "_law_made" = true)
    (k__law_made : PySem.W.keepIn K (.ref f__law_made) = true)
    (a__law_named : PySem.W.nsIn K mainGlobals "_law_named" = some (some (.ref f__law_named)))
    (l__law_named : K.lookup f__law_named = some ⟨oc__law_named, od__law_named, .func (PySem.W.fnOf "_law_named" "_law_named" (defArgs s__law_named) (defBody s__law_named) (defScope s__law_named) .none kV__law_named dc__law_named pm__law_named an__law_named cd__law_named ct__law_named), sl__law_named⟩)
    (c__law_named : PySem.W.codeIn K cd__law_named "_law_named" = true)
    (k__law_named : PySem.W.keepIn K (.ref f__law_named) = true)
    (a__law_fields : PySem.W.nsIn K mainGlobals "_law_fields" = some (some (.ref f__law_fields)))
    (l__law_fields : K.lookup f__law_fields = some ⟨oc__law_fields, od__law_fields, .func (PySem.W.fnOf "_law_fields" "_law_fields" (defArgs s__law_fields) (defBody s__law_fields) (defScope s__law_fields) .none kV__law_fields dc__law_fields pm__law_fields an__law_fields cd__law_fields ct__law_fields), sl__law_fields⟩)
    (c__law_fields : PySem.W.codeIn K cd__law_fields "_law_fields" = true)
    (k__law_fields : PySem.W.keepIn K (.ref f__law_fields) = true)
    (a__law_grown : PySem.W.nsIn K mainGlobals "_law_grown" = some (some (.ref f__law_grown)))
    (l__law_grown : K.lookup f__law_grown = some ⟨oc__law_grown, od__law_grown, .func (PySem.W.fnOf "_law_grown" "_law_grown" (defArgs s__law_grown) (defBody s__law_grown) (defScope s__law_grown) .none kV__law_grown dc__law_grown pm__law_grown an__law_grown cd__law_grown ct__law_grown), sl__law_grown⟩)
    (c__law_grown : PySem.W.codeIn K cd__law_grown "_law_grown" = true)
    (k__law_grown : PySem.W.keepIn K (.ref f__law_grown) = true)
    (a__law_text : PySem.W.nsIn K mainGlobals "_law_text" = some (some (.ref f__law_text)))
    (l__law_text : K.lookup f__law_text = some ⟨oc__law_text, od__law_text, .func (PySem.W.fnOf "_law_text" "_law_text" (defArgs s__law_text) (defBody s__law_text) (defScope s__law_text) .none kV__law_text dc__law_text pm__law_text an__law_text cd__law_text ct__law_text), sl__law_text⟩)
    (c__law_text : PySem.W.codeIn K cd__law_text "_law_text" = true)
    (k__law_text : PySem.W.keepIn K (.ref f__law_text) = true)
    (a__law_thing : PySem.W.nsIn K mainGlobals "_law_thing" = some (some (.ref f__law_thing)))
    (l__law_thing : K.lookup f__law_thing = some ⟨oc__law_thing, od__law_thing, .func (PySem.W.fnOf "_law_thing" "_law_thing" (defArgs s__law_thing) (defBody s__law_thing) (defScope s__law_thing) .none kV__law_thing dc__law_thing pm__law_thing an__law_thing cd__law_thing ct__law_thing), sl__law_thing⟩)
    (c__law_thing : PySem.W.codeIn K cd__law_thing "_law_thing" = true)
    (k__law_thing : PySem.W.keepIn K (.ref f__law_thing) = true)
    (a__law_right : PySem.W.nsIn K mainGlobals "_law_right" = some (some (.ref f__law_right)))
    (l__law_right : K.lookup f__law_right = some ⟨oc__law_right, od__law_right, .func (PySem.W.fnOf "_law_right" "_law_right" (defArgs s__law_right) (defBody s__law_right) (defScope s__law_right) .none kV__law_right dc__law_right pm__law_right an__law_right cd__law_right ct__law_right), sl__law_right⟩)
    (c__law_right : PySem.W.codeIn K cd__law_right "_law_right" = true)
    (k__law_right : PySem.W.keepIn K (.ref f__law_right) = true)
    (a_law : PySem.W.nsIn K mainGlobals "law" = some (some (.ref f_law)))
    (l_law : K.lookup f_law = some ⟨oc_law, od_law, .func (PySem.W.fnOf "law" "law" (defArgs s_law) (defBody s_law) (defScope s_law) .none kV_law dc_law pm_law an_law cd_law ct_law), sl_law⟩)
    (c_law : PySem.W.codeIn K cd_law "law" = true)
    (k_law : PySem.W.keepIn K (.ref f_law) = true)
    (z_dict : PySem.W.nsIn K mainGlobals "dict" = some none)
    (z_isinstance : PySem.W.nsIn K mainGlobals "isinstance" = some none)
    (z_len : PySem.W.nsIn K mainGlobals "len" = some none)
    (z_list : PySem.W.nsIn K mainGlobals "list" = some none)
    (z_max : PySem.W.nsIn K mainGlobals "max" = some none)
    (z_min : PySem.W.nsIn K mainGlobals "min" = some none)
    (z_range : PySem.W.nsIn K mainGlobals "range" = some none)
    (z_tuple : PySem.W.nsIn K mainGlobals "tuple" = some none)
    (m_Crossed : PySem.W.nsIn K mainGlobals "Crossed" = some (some (.ref C_Crossed)))
    (m_Deep : PySem.W.nsIn K mainGlobals "Deep" = some (some (.ref C_Deep)))
    (m_Fault : PySem.W.nsIn K mainGlobals "Fault" = some (some (.ref C_Fault)))
    (m_FontError : PySem.W.nsIn K mainGlobals "FontError" = some (some (.ref C_FontError)))
    (m_Missing : PySem.W.nsIn K mainGlobals "Missing" = some (some (.ref C_Missing)))
    (m_NoBase : PySem.W.nsIn K mainGlobals "NoBase" = some (some (.ref C_NoBase)))
    (m_NoCells : PySem.W.nsIn K mainGlobals "NoCells" = some (some (.ref C_NoCells)))
    (m_NoChoices : PySem.W.nsIn K mainGlobals "NoChoices" = some (some (.ref C_NoChoices)))
    (m_NoDefinition : PySem.W.nsIn K mainGlobals "NoDefinition" = some (some (.ref C_NoDefinition)))
    (m_NoEntry : PySem.W.nsIn K mainGlobals "NoEntry" = some (some (.ref C_NoEntry)))
    (m_NoFont : PySem.W.nsIn K mainGlobals "NoFont" = some (some (.ref C_NoFont)))
    (m_NoLetter : PySem.W.nsIn K mainGlobals "NoLetter" = some (some (.ref C_NoLetter)))
    (m_NoLimit : PySem.W.nsIn K mainGlobals "NoLimit" = some (some (.ref C_NoLimit)))
    (m_NoLine : PySem.W.nsIn K mainGlobals "NoLine" = some (some (.ref C_NoLine)))
    (m_NoName : PySem.W.nsIn K mainGlobals "NoName" = some (some (.ref C_NoName)))
    (m_NoNumber : PySem.W.nsIn K mainGlobals "NoNumber" = some (some (.ref C_NoNumber)))
    (m_NoOutline : PySem.W.nsIn K mainGlobals "NoOutline" = some (some (.ref C_NoOutline)))
    (m_NoParts : PySem.W.nsIn K mainGlobals "NoParts" = some (some (.ref C_NoParts)))
    (m_NoPlace : PySem.W.nsIn K mainGlobals "NoPlace" = some (some (.ref C_NoPlace)))
    (m_NoPoint : PySem.W.nsIn K mainGlobals "NoPoint" = some (some (.ref C_NoPoint)))
    (m_NoProgram : PySem.W.nsIn K mainGlobals "NoProgram" = some (some (.ref C_NoProgram)))
    (m_NoRound : PySem.W.nsIn K mainGlobals "NoRound" = some (some (.ref C_NoRound)))
    (m_NoRow : PySem.W.nsIn K mainGlobals "NoRow" = some (some (.ref C_NoRow)))
    (m_NoSize : PySem.W.nsIn K mainGlobals "NoSize" = some (some (.ref C_NoSize)))
    (m_NoSuch : PySem.W.nsIn K mainGlobals "NoSuch" = some (some (.ref C_NoSuch)))
    (m_NoText : PySem.W.nsIn K mainGlobals "NoText" = some (some (.ref C_NoText)))
    (m_NoWay : PySem.W.nsIn K mainGlobals "NoWay" = some (some (.ref C_NoWay)))
    (m_NoWord : PySem.W.nsIn K mainGlobals "NoWord" = some (some (.ref C_NoWord)))
    (m_NoWorths : PySem.W.nsIn K mainGlobals "NoWorths" = some (some (.ref C_NoWorths)))
    (m_NoZone : PySem.W.nsIn K mainGlobals "NoZone" = some (some (.ref C_NoZone)))
    (m_TooMany : PySem.W.nsIn K mainGlobals "TooMany" = some (some (.ref C_TooMany)))
    (m_Unknown : PySem.W.nsIn K mainGlobals "Unknown" = some (some (.ref C_Unknown)))
    (m_Unready : PySem.W.nsIn K mainGlobals "Unready" = some (some (.ref C_Unready)))
    (bg_FontError : PySem.W.specialIn K (.ref C_FontError) "__getattribute__" = some (some (.builtin "type.__getattribute__")))
    (br_FontError : PySem.W.readsIn K C_FontError (.type "type") = true)
    (bi_FontError : PySem.W.findCls K (.ref C_FontError) (.type "type") "__init__" = some (.val (.builtin "ValueError.__init__")))
    (bg_Missing : PySem.W.specialIn K (.ref C_Missing) "__getattribute__" = some (some (.builtin "type.__getattribute__")))
    (br_Missing : PySem.W.readsIn K C_Missing (.type "type") = true)
    (bi_Missing : PySem.W.findCls K (.ref C_Missing) (.type "type") "__init__" = some (.val (.builtin "LookupError.__init__")))
    (bg_Unknown : PySem.W.specialIn K (.ref C_Unknown) "__getattribute__" = some (some (.builtin "type.__getattribute__")))
    (br_Unknown : PySem.W.readsIn K C_Unknown (.type "type") = true)
    (bi_Unknown : PySem.W.findCls K (.ref C_Unknown) (.type "type") "__init__" = some (.val (.builtin "KeyError.__init__")))
    (bz : PySem.W.findCls K (.type "ZeroDivisionError") (.type "type") "__init__" = some (.val (.builtin "ZeroDivisionError.__init__")))
    (z_ZeroDivisionError : PySem.W.nsIn K mainGlobals "ZeroDivisionError" = some none)
    (xl_Crossed : K.lookup C_Crossed = some (excClassObj nm_Crossed q_Crossed C_Crossed N_Crossed bs_Crossed [.ref C_FontError, .type "ValueError", .type "Exception", .type "BaseException", .type "object"] true sn_Crossed sub_Crossed ab_Crossed col_Crossed dd_Crossed x0_Crossed x1_Crossed x2_Crossed x3_Crossed x5_Crossed "ValueError.__new__"))
    (e5_Crossed : excF K C_Crossed = true)
    (xl_Deep : K.lookup C_Deep = some (excClassObj nm_Deep q_Deep C_Deep N_Deep bs_Deep [.ref C_FontError, .type "ValueError", .type "Exception", .type "BaseException", .type "object"] true sn_Deep sub_Deep ab_Deep col_Deep dd_Deep x0_Deep x1_Deep x2_Deep x3_Deep x5_Deep "ValueError.__new__"))
    (e5_Deep : excF K C_Deep = true)
    (xl_Fault : K.lookup C_Fault = some (excClassObj nm_Fault q_Fault C_Fault N_Fault bs_Fault [.ref C_FontError, .type "ValueError", .type "Exception", .type "BaseException", .type "object"] true sn_Fault sub_Fault ab_Fault col_Fault dd_Fault x0_Fault x1_Fault x2_Fault x3_Fault x5_Fault "ValueError.__new__"))
    (e5_Fault : excF K C_Fault = true)
    (xl_NoBase : K.lookup C_NoBase = some (excClassObj nm_NoBase q_NoBase C_NoBase N_NoBase bs_NoBase [.type "ZeroDivisionError", .type "ArithmeticError", .type "Exception", .type "BaseException", .type "object"] true sn_NoBase sub_NoBase ab_NoBase col_NoBase dd_NoBase x0_NoBase x1_NoBase x2_NoBase x3_NoBase x5_NoBase "ZeroDivisionError.__new__"))
    (e5_NoBase : excF K C_NoBase = true)
    (xl_NoCells : K.lookup C_NoCells = some (excClassObj nm_NoCells q_NoCells C_NoCells N_NoCells bs_NoCells [.ref C_FontError, .type "ValueError", .type "Exception", .type "BaseException", .type "object"] true sn_NoCells sub_NoCells ab_NoCells col_NoCells dd_NoCells x0_NoCells x1_NoCells x2_NoCells x3_NoCells x5_NoCells "ValueError.__new__"))
    (e5_NoCells : excF K C_NoCells = true)
    (xl_NoChoices : K.lookup C_NoChoices = some (excClassObj nm_NoChoices q_NoChoices C_NoChoices N_NoChoices bs_NoChoices [.ref C_FontError, .type "ValueError", .type "Exception", .type "BaseException", .type "object"] true sn_NoChoices sub_NoChoices ab_NoChoices col_NoChoices dd_NoChoices x0_NoChoices x1_NoChoices x2_NoChoices x3_NoChoices x5_NoChoices "ValueError.__new__"))
    (e5_NoChoices : excF K C_NoChoices = true)
    (xl_NoDefinition : K.lookup C_NoDefinition = some (excClassObj nm_NoDefinition q_NoDefinition C_NoDefinition N_NoDefinition bs_NoDefinition [.ref C_Unknown, .type "KeyError", .type "LookupError", .type "Exception", .type "BaseException", .type "object"] true sn_NoDefinition sub_NoDefinition ab_NoDefinition col_NoDefinition dd_NoDefinition x0_NoDefinition x1_NoDefinition x2_NoDefinition x3_NoDefinition x5_NoDefinition "LookupError.__new__"))
    (e5_NoDefinition : excF K C_NoDefinition = true)
    (xl_NoEntry : K.lookup C_NoEntry = some (excClassObj nm_NoEntry q_NoEntry C_NoEntry N_NoEntry bs_NoEntry [.ref C_Missing, .type "LookupError", .type "Exception", .type "BaseException", .type "object"] true sn_NoEntry sub_NoEntry ab_NoEntry col_NoEntry dd_NoEntry x0_NoEntry x1_NoEntry x2_NoEntry x3_NoEntry x5_NoEntry "LookupError.__new__"))
    (e5_NoEntry : excF K C_NoEntry = true)
    (xl_NoFont : K.lookup C_NoFont = some (excClassObj nm_NoFont q_NoFont C_NoFont N_NoFont bs_NoFont [.ref C_FontError, .type "ValueError", .type "Exception", .type "BaseException", .type "object"] true sn_NoFont sub_NoFont ab_NoFont col_NoFont dd_NoFont x0_NoFont x1_NoFont x2_NoFont x3_NoFont x5_NoFont "ValueError.__new__"))
    (e5_NoFont : excF K C_NoFont = true)
    (xl_NoLetter : K.lookup C_NoLetter = some (excClassObj nm_NoLetter q_NoLetter C_NoLetter N_NoLetter bs_NoLetter [.ref C_FontError, .type "ValueError", .type "Exception", .type "BaseException", .type "object"] true sn_NoLetter sub_NoLetter ab_NoLetter col_NoLetter dd_NoLetter x0_NoLetter x1_NoLetter x2_NoLetter x3_NoLetter x5_NoLetter "ValueError.__new__"))
    (e5_NoLetter : excF K C_NoLetter = true)
    (xl_NoLimit : K.lookup C_NoLimit = some (excClassObj nm_NoLimit q_NoLimit C_NoLimit N_NoLimit bs_NoLimit [.ref C_FontError, .type "ValueError", .type "Exception", .type "BaseException", .type "object"] true sn_NoLimit sub_NoLimit ab_NoLimit col_NoLimit dd_NoLimit x0_NoLimit x1_NoLimit x2_NoLimit x3_NoLimit x5_NoLimit "ValueError.__new__"))
    (e5_NoLimit : excF K C_NoLimit = true)
    (xl_NoLine : K.lookup C_NoLine = some (excClassObj nm_NoLine q_NoLine C_NoLine N_NoLine bs_NoLine [.ref C_FontError, .type "ValueError", .type "Exception", .type "BaseException", .type "object"] true sn_NoLine sub_NoLine ab_NoLine col_NoLine dd_NoLine x0_NoLine x1_NoLine x2_NoLine x3_NoLine x5_NoLine "ValueError.__new__"))
    (e5_NoLine : excF K C_NoLine = true)
    (xl_NoName : K.lookup C_NoName = some (excClassObj nm_NoName q_NoName C_NoName N_NoName bs_NoName [.ref C_FontError, .type "ValueError", .type "Exception", .type "BaseException", .type "object"] true sn_NoName sub_NoName ab_NoName col_NoName dd_NoName x0_NoName x1_NoName x2_NoName x3_NoName x5_NoName "ValueError.__new__"))
    (e5_NoName : excF K C_NoName = true)
    (xl_NoNumber : K.lookup C_NoNumber = some (excClassObj nm_NoNumber q_NoNumber C_NoNumber N_NoNumber bs_NoNumber [.ref C_FontError, .type "ValueError", .type "Exception", .type "BaseException", .type "object"] true sn_NoNumber sub_NoNumber ab_NoNumber col_NoNumber dd_NoNumber x0_NoNumber x1_NoNumber x2_NoNumber x3_NoNumber x5_NoNumber "ValueError.__new__"))
    (e5_NoNumber : excF K C_NoNumber = true)
    (xl_NoOutline : K.lookup C_NoOutline = some (excClassObj nm_NoOutline q_NoOutline C_NoOutline N_NoOutline bs_NoOutline [.ref C_FontError, .type "ValueError", .type "Exception", .type "BaseException", .type "object"] true sn_NoOutline sub_NoOutline ab_NoOutline col_NoOutline dd_NoOutline x0_NoOutline x1_NoOutline x2_NoOutline x3_NoOutline x5_NoOutline "ValueError.__new__"))
    (e5_NoOutline : excF K C_NoOutline = true)
    (xl_NoParts : K.lookup C_NoParts = some (excClassObj nm_NoParts q_NoParts C_NoParts N_NoParts bs_NoParts [.ref C_FontError, .type "ValueError", .type "Exception", .type "BaseException", .type "object"] true sn_NoParts sub_NoParts ab_NoParts col_NoParts dd_NoParts x0_NoParts x1_NoParts x2_NoParts x3_NoParts x5_NoParts "ValueError.__new__"))
    (e5_NoParts : excF K C_NoParts = true)
    (xl_NoPlace : K.lookup C_NoPlace = some (excClassObj nm_NoPlace q_NoPlace C_NoPlace N_NoPlace bs_NoPlace [.ref C_FontError, .type "ValueError", .type "Exception", .type "BaseException", .type "object"] true sn_NoPlace sub_NoPlace ab_NoPlace col_NoPlace dd_NoPlace x0_NoPlace x1_NoPlace x2_NoPlace x3_NoPlace x5_NoPlace "ValueError.__new__"))
    (e5_NoPlace : excF K C_NoPlace = true)
    (xl_NoPoint : K.lookup C_NoPoint = some (excClassObj nm_NoPoint q_NoPoint C_NoPoint N_NoPoint bs_NoPoint [.ref C_FontError, .type "ValueError", .type "Exception", .type "BaseException", .type "object"] true sn_NoPoint sub_NoPoint ab_NoPoint col_NoPoint dd_NoPoint x0_NoPoint x1_NoPoint x2_NoPoint x3_NoPoint x5_NoPoint "ValueError.__new__"))
    (e5_NoPoint : excF K C_NoPoint = true)
    (xl_NoProgram : K.lookup C_NoProgram = some (excClassObj nm_NoProgram q_NoProgram C_NoProgram N_NoProgram bs_NoProgram [.ref C_FontError, .type "ValueError", .type "Exception", .type "BaseException", .type "object"] true sn_NoProgram sub_NoProgram ab_NoProgram col_NoProgram dd_NoProgram x0_NoProgram x1_NoProgram x2_NoProgram x3_NoProgram x5_NoProgram "ValueError.__new__"))
    (e5_NoProgram : excF K C_NoProgram = true)
    (xl_NoRound : K.lookup C_NoRound = some (excClassObj nm_NoRound q_NoRound C_NoRound N_NoRound bs_NoRound [.ref C_FontError, .type "ValueError", .type "Exception", .type "BaseException", .type "object"] true sn_NoRound sub_NoRound ab_NoRound col_NoRound dd_NoRound x0_NoRound x1_NoRound x2_NoRound x3_NoRound x5_NoRound "ValueError.__new__"))
    (e5_NoRound : excF K C_NoRound = true)
    (xl_NoRow : K.lookup C_NoRow = some (excClassObj nm_NoRow q_NoRow C_NoRow N_NoRow bs_NoRow [.ref C_FontError, .type "ValueError", .type "Exception", .type "BaseException", .type "object"] true sn_NoRow sub_NoRow ab_NoRow col_NoRow dd_NoRow x0_NoRow x1_NoRow x2_NoRow x3_NoRow x5_NoRow "ValueError.__new__"))
    (e5_NoRow : excF K C_NoRow = true)
    (xl_NoSize : K.lookup C_NoSize = some (excClassObj nm_NoSize q_NoSize C_NoSize N_NoSize bs_NoSize [.ref C_FontError, .type "ValueError", .type "Exception", .type "BaseException", .type "object"] true sn_NoSize sub_NoSize ab_NoSize col_NoSize dd_NoSize x0_NoSize x1_NoSize x2_NoSize x3_NoSize x5_NoSize "ValueError.__new__"))
    (e5_NoSize : excF K C_NoSize = true)
    (xl_NoSuch : K.lookup C_NoSuch = some (excClassObj nm_NoSuch q_NoSuch C_NoSuch N_NoSuch bs_NoSuch [.ref C_Unknown, .type "KeyError", .type "LookupError", .type "Exception", .type "BaseException", .type "object"] true sn_NoSuch sub_NoSuch ab_NoSuch col_NoSuch dd_NoSuch x0_NoSuch x1_NoSuch x2_NoSuch x3_NoSuch x5_NoSuch "LookupError.__new__"))
    (e5_NoSuch : excF K C_NoSuch = true)
    (xl_NoText : K.lookup C_NoText = some (excClassObj nm_NoText q_NoText C_NoText N_NoText bs_NoText [.ref C_FontError, .type "ValueError", .type "Exception", .type "BaseException", .type "object"] true sn_NoText sub_NoText ab_NoText col_NoText dd_NoText x0_NoText x1_NoText x2_NoText x3_NoText x5_NoText "ValueError.__new__"))
    (e5_NoText : excF K C_NoText = true)
    (xl_NoWay : K.lookup C_NoWay = some (excClassObj nm_NoWay q_NoWay C_NoWay N_NoWay bs_NoWay [.ref C_FontError, .type "ValueError", .type "Exception", .type "BaseException", .type "object"] true sn_NoWay sub_NoWay ab_NoWay col_NoWay dd_NoWay x0_NoWay x1_NoWay x2_NoWay x3_NoWay x5_NoWay "ValueError.__new__"))
    (e5_NoWay : excF K C_NoWay = true)
    (xl_NoWord : K.lookup C_NoWord = some (excClassObj nm_NoWord q_NoWord C_NoWord N_NoWord bs_NoWord [.ref C_FontError, .type "ValueError", .type "Exception", .type "BaseException", .type "object"] true sn_NoWord sub_NoWord ab_NoWord col_NoWord dd_NoWord x0_NoWord x1_NoWord x2_NoWord x3_NoWord x5_NoWord "ValueError.__new__"))
    (e5_NoWord : excF K C_NoWord = true)
    (xl_NoWorths : K.lookup C_NoWorths = some (excClassObj nm_NoWorths q_NoWorths C_NoWorths N_NoWorths bs_NoWorths [.ref C_FontError, .type "ValueError", .type "Exception", .type "BaseException", .type "object"] true sn_NoWorths sub_NoWorths ab_NoWorths col_NoWorths dd_NoWorths x0_NoWorths x1_NoWorths x2_NoWorths x3_NoWorths x5_NoWorths "ValueError.__new__"))
    (e5_NoWorths : excF K C_NoWorths = true)
    (xl_NoZone : K.lookup C_NoZone = some (excClassObj nm_NoZone q_NoZone C_NoZone N_NoZone bs_NoZone [.ref C_FontError, .type "ValueError", .type "Exception", .type "BaseException", .type "object"] true sn_NoZone sub_NoZone ab_NoZone col_NoZone dd_NoZone x0_NoZone x1_NoZone x2_NoZone x3_NoZone x5_NoZone "ValueError.__new__"))
    (e5_NoZone : excF K C_NoZone = true)
    (xl_TooMany : K.lookup C_TooMany = some (excClassObj nm_TooMany q_TooMany C_TooMany N_TooMany bs_TooMany [.ref C_FontError, .type "ValueError", .type "Exception", .type "BaseException", .type "object"] true sn_TooMany sub_TooMany ab_TooMany col_TooMany dd_TooMany x0_TooMany x1_TooMany x2_TooMany x3_TooMany x5_TooMany "ValueError.__new__"))
    (e5_TooMany : excF K C_TooMany = true)
    (xl_Unready : K.lookup C_Unready = some (excClassObj nm_Unready q_Unready C_Unready N_Unready bs_Unready [.ref C_Missing, .type "LookupError", .type "Exception", .type "BaseException", .type "object"] true sn_Unready sub_Unready ab_Unready col_Unready dd_Unready x0_Unready x1_Unready x2_Unready x3_Unready x5_Unready "LookupError.__new__"))
    (e5_Unready : excF K C_Unready = true)
    (yn : PySem.W.specialIn K (.builtin "object.__class__") "__get__" = some (some (.builtin "getset_descriptor.__get__")))
    (yt : PySem.W.takesIn K (.builtin "object.__class__") = some true)
    (oh_FontError : PySem.W.hasDictIn K C_FontError = true)
    (ot_FontError : PySem.W.typeIn K (.ref C_FontError) = some (.type "type"))
    (oh_Missing : PySem.W.hasDictIn K C_Missing = true)
    (ot_Missing : PySem.W.typeIn K (.ref C_Missing) = some (.type "type"))
    (oh_Unknown : PySem.W.hasDictIn K C_Unknown = true)
    (ot_Unknown : PySem.W.typeIn K (.ref C_Unknown) = some (.type "type"))
    (ndup : ([C_Crossed, C_Deep, C_Fault, C_FontError, C_Missing, C_NoBase, C_NoCells, C_NoChoices, C_NoDefinition, C_NoEntry, C_NoFont, C_NoLetter, C_NoLimit, C_NoLine, C_NoName, C_NoNumber, C_NoOutline, C_NoParts, C_NoPlace, C_NoPoint, C_NoProgram, C_NoRound, C_NoRow, C_NoSize, C_NoSuch, C_NoText, C_NoWay, C_NoWord, C_NoWorths, C_NoZone, C_TooMany, C_Unknown, C_Unready] : List Addr).Nodup)
    (nm_NoName_eq : PySem.W.findIn K (.ref C_NoName) "__eq__" = some (some (.builtin "object.__eq__")))
    (nm_NoName_ne : PySem.W.findIn K (.ref C_NoName) "__ne__" = some (some (.builtin "object.__ne__")))
    (ii_Crossed : PySem.W.findIn K (.ref C_Crossed) "__init__" = some (some (.ref I_Crossed)))
    (il_Crossed : K.lookup I_Crossed = some ⟨ioc_Crossed, iod_Crossed, .func (PySem.W.fnOf "__init__" "Crossed.__init__" (defArgs (inClass (topS 24) 0)) (defBody (inClass (topS 24) 0)) (defScope (inClass (topS 24) 0)) .none ikV_Crossed idc_Crossed ipm_Crossed ian_Crossed icd_Crossed ict_Crossed), isl_Crossed⟩)
    (ig_Crossed : iniF K C_Crossed I_Crossed icd_Crossed "Crossed.__init__" ["one", "other"] = true)
    (ii_Deep : PySem.W.findIn K (.ref C_Deep) "__init__" = some (some (.ref I_Deep)))
    (il_Deep : K.lookup I_Deep = some ⟨ioc_Deep, iod_Deep, .func (PySem.W.fnOf "__init__" "Deep.__init__" (defArgs (inClass (topS 26) 0)) (defBody (inClass (topS 26) 0)) (defScope (inClass (topS 26) 0)) .none ikV_Deep idc_Deep ipm_Deep ian_Deep icd_Deep ict_Deep), isl_Deep⟩)
    (ig_Deep : iniF K C_Deep I_Deep icd_Deep "Deep.__init__" ["at"] = true)
    (ii_Fault : PySem.W.findIn K (.ref C_Fault) "__init__" = some (some (.ref I_Fault)))
    (il_Fault : K.lookup I_Fault = some ⟨ioc_Fault, iod_Fault, .func (PySem.W.fnOf "__init__" "Fault.__init__" (defArgs (inClass (topS 28) 0)) (defBody (inClass (topS 28) 0)) (defScope (inClass (topS 28) 0)) .none ikV_Fault idc_Fault ipm_Fault ian_Fault icd_Fault ict_Fault), isl_Fault⟩)
    (ig_Fault : iniF K C_Fault I_Fault icd_Fault "Fault.__init__" ["done", "why"] = true)
    (ii_NoBase : PySem.W.findIn K (.ref C_NoBase) "__init__" = some (some (.ref I_NoBase)))
    (il_NoBase : K.lookup I_NoBase = some ⟨ioc_NoBase, iod_NoBase, .func (PySem.W.fnOf "__init__" "NoBase.__init__" (defArgs (inClass (topS 33) 0)) (defBody (inClass (topS 33) 0)) (defScope (inClass (topS 33) 0)) .none ikV_NoBase idc_NoBase ipm_NoBase ian_NoBase icd_NoBase ict_NoBase), isl_NoBase⟩)
    (ig_NoBase : iniF K C_NoBase I_NoBase icd_NoBase "NoBase.__init__" ["found"] = true)
    (ii_NoCells : PySem.W.findIn K (.ref C_NoCells) "__init__" = some (some (.ref I_NoCells)))
    (il_NoCells : K.lookup I_NoCells = some ⟨ioc_NoCells, iod_NoCells, .func (PySem.W.fnOf "__init__" "NoCells.__init__" (defArgs (inClass (topS 20) 0)) (defBody (inClass (topS 20) 0)) (defScope (inClass (topS 20) 0)) .none ikV_NoCells idc_NoCells ipm_NoCells ian_NoCells icd_NoCells ict_NoCells), isl_NoCells⟩)
    (ig_NoCells : iniF K C_NoCells I_NoCells icd_NoCells "NoCells.__init__" ["found"] = true)
    (ii_NoChoices : PySem.W.findIn K (.ref C_NoChoices) "__init__" = some (some (.ref I_NoChoices)))
    (il_NoChoices : K.lookup I_NoChoices = some ⟨ioc_NoChoices, iod_NoChoices, .func (PySem.W.fnOf "__init__" "NoChoices.__init__" (defArgs (inClass (topS 21) 0)) (defBody (inClass (topS 21) 0)) (defScope (inClass (topS 21) 0)) .none ikV_NoChoices idc_NoChoices ipm_NoChoices ian_NoChoices icd_NoChoices ict_NoChoices), isl_NoChoices⟩)
    (ig_NoChoices : iniF K C_NoChoices I_NoChoices icd_NoChoices "NoChoices.__init__" ["found"] = true)
    (ii_NoDefinition : PySem.W.findIn K (.ref C_NoDefinition) "__init__" = some (some (.ref I_NoDefinition)))
    (il_NoDefinition : K.lookup I_NoDefinition = some ⟨ioc_NoDefinition, iod_NoDefinition, .func (PySem.W.fnOf "__init__" "NoDefinition.__init__" (defArgs (inClass (topS 31) 0)) (defBody (inClass (topS 31) 0)) (defScope (inClass (topS 31) 0)) .none ikV_NoDefinition idc_NoDefinition ipm_NoDefinition ian_NoDefinition icd_NoDefinition ict_NoDefinition), isl_NoDefinition⟩)
    (ig_NoDefinition : iniF K C_NoDefinition I_NoDefinition icd_NoDefinition "NoDefinition.__init__" ["found"] = true)
    (ii_NoEntry : PySem.W.findIn K (.ref C_NoEntry) "__init__" = some (some (.ref I_NoEntry)))
    (il_NoEntry : K.lookup I_NoEntry = some ⟨ioc_NoEntry, iod_NoEntry, .func (PySem.W.fnOf "__init__" "NoEntry.__init__" (defArgs (inClass (topS 29) 0)) (defBody (inClass (topS 29) 0)) (defScope (inClass (topS 29) 0)) .none ikV_NoEntry idc_NoEntry ipm_NoEntry ian_NoEntry icd_NoEntry ict_NoEntry), isl_NoEntry⟩)
    (ig_NoEntry : iniF K C_NoEntry I_NoEntry icd_NoEntry "NoEntry.__init__" ["found"] = true)
    (ii_NoFont : PySem.W.findIn K (.ref C_NoFont) "__init__" = some (some (.ref I_NoFont)))
    (il_NoFont : K.lookup I_NoFont = some ⟨ioc_NoFont, iod_NoFont, .func (PySem.W.fnOf "__init__" "NoFont.__init__" (defArgs (inClass (topS 14) 0)) (defBody (inClass (topS 14) 0)) (defScope (inClass (topS 14) 0)) .none ikV_NoFont idc_NoFont ipm_NoFont ian_NoFont icd_NoFont ict_NoFont), isl_NoFont⟩)
    (ig_NoFont : iniF K C_NoFont I_NoFont icd_NoFont "NoFont.__init__" ["found"] = true)
    (ii_NoLetter : PySem.W.findIn K (.ref C_NoLetter) "__init__" = some (some (.ref I_NoLetter)))
    (il_NoLetter : K.lookup I_NoLetter = some ⟨ioc_NoLetter, iod_NoLetter, .func (PySem.W.fnOf "__init__" "NoLetter.__init__" (defArgs (inClass (topS 16) 0)) (defBody (inClass (topS 16) 0)) (defScope (inClass (topS 16) 0)) .none ikV_NoLetter idc_NoLetter ipm_NoLetter ian_NoLetter icd_NoLetter ict_NoLetter), isl_NoLetter⟩)
    (ig_NoLetter : iniF K C_NoLetter I_NoLetter icd_NoLetter "NoLetter.__init__" ["found"] = true)
    (ii_NoLimit : PySem.W.findIn K (.ref C_NoLimit) "__init__" = some (some (.ref I_NoLimit)))
    (il_NoLimit : K.lookup I_NoLimit = some ⟨ioc_NoLimit, iod_NoLimit, .func (PySem.W.fnOf "__init__" "NoLimit.__init__" (defArgs (inClass (topS 23) 0)) (defBody (inClass (topS 23) 0)) (defScope (inClass (topS 23) 0)) .none ikV_NoLimit idc_NoLimit ipm_NoLimit ian_NoLimit icd_NoLimit ict_NoLimit), isl_NoLimit⟩)
    (ig_NoLimit : iniF K C_NoLimit I_NoLimit icd_NoLimit "NoLimit.__init__" ["found"] = true)
    (ii_NoLine : PySem.W.findIn K (.ref C_NoLine) "__init__" = some (some (.ref I_NoLine)))
    (il_NoLine : K.lookup I_NoLine = some ⟨ioc_NoLine, iod_NoLine, .func (PySem.W.fnOf "__init__" "NoLine.__init__" (defArgs (inClass (topS 22) 0)) (defBody (inClass (topS 22) 0)) (defScope (inClass (topS 22) 0)) .none ikV_NoLine idc_NoLine ipm_NoLine ian_NoLine icd_NoLine ict_NoLine), isl_NoLine⟩)
    (ig_NoLine : iniF K C_NoLine I_NoLine icd_NoLine "NoLine.__init__" ["found"] = true)
    (ii_NoName : PySem.W.findIn K (.ref C_NoName) "__init__" = some (some (.ref I_NoName)))
    (il_NoName : K.lookup I_NoName = some ⟨ioc_NoName, iod_NoName, .func (PySem.W.fnOf "__init__" "NoName.__init__" (defArgs (inClass (topS 5) 0)) (defBody (inClass (topS 5) 0)) (defScope (inClass (topS 5) 0)) .none ikV_NoName idc_NoName ipm_NoName ian_NoName icd_NoName ict_NoName), isl_NoName⟩)
    (ig_NoName : iniF K C_NoName I_NoName icd_NoName "NoName.__init__" ["found"] = true)
    (ii_NoNumber : PySem.W.findIn K (.ref C_NoNumber) "__init__" = some (some (.ref I_NoNumber)))
    (il_NoNumber : K.lookup I_NoNumber = some ⟨ioc_NoNumber, iod_NoNumber, .func (PySem.W.fnOf "__init__" "NoNumber.__init__" (defArgs (inClass (topS 4) 0)) (defBody (inClass (topS 4) 0)) (defScope (inClass (topS 4) 0)) .none ikV_NoNumber idc_NoNumber ipm_NoNumber ian_NoNumber icd_NoNumber ict_NoNumber), isl_NoNumber⟩)
    (ig_NoNumber : iniF K C_NoNumber I_NoNumber icd_NoNumber "NoNumber.__init__" ["found"] = true)
    (ii_NoOutline : PySem.W.findIn K (.ref C_NoOutline) "__init__" = some (some (.ref I_NoOutline)))
    (il_NoOutline : K.lookup I_NoOutline = some ⟨ioc_NoOutline, iod_NoOutline, .func (PySem.W.fnOf "__init__" "NoOutline.__init__" (defArgs (inClass (topS 10) 0)) (defBody (inClass (topS 10) 0)) (defScope (inClass (topS 10) 0)) .none ikV_NoOutline idc_NoOutline ipm_NoOutline ian_NoOutline icd_NoOutline ict_NoOutline), isl_NoOutline⟩)
    (ig_NoOutline : iniF K C_NoOutline I_NoOutline icd_NoOutline "NoOutline.__init__" ["found"] = true)
    (ii_NoParts : PySem.W.findIn K (.ref C_NoParts) "__init__" = some (some (.ref I_NoParts)))
    (il_NoParts : K.lookup I_NoParts = some ⟨ioc_NoParts, iod_NoParts, .func (PySem.W.fnOf "__init__" "NoParts.__init__" (defArgs (inClass (topS 17) 0)) (defBody (inClass (topS 17) 0)) (defScope (inClass (topS 17) 0)) .none ikV_NoParts idc_NoParts ipm_NoParts ian_NoParts icd_NoParts ict_NoParts), isl_NoParts⟩)
    (ig_NoParts : iniF K C_NoParts I_NoParts icd_NoParts "NoParts.__init__" ["found"] = true)
    (ii_NoPlace : PySem.W.findIn K (.ref C_NoPlace) "__init__" = some (some (.ref I_NoPlace)))
    (il_NoPlace : K.lookup I_NoPlace = some ⟨ioc_NoPlace, iod_NoPlace, .func (PySem.W.fnOf "__init__" "NoPlace.__init__" (defArgs (inClass (topS 7) 0)) (defBody (inClass (topS 7) 0)) (defScope (inClass (topS 7) 0)) .none ikV_NoPlace idc_NoPlace ipm_NoPlace ian_NoPlace icd_NoPlace ict_NoPlace), isl_NoPlace⟩)
    (ig_NoPlace : iniF K C_NoPlace I_NoPlace icd_NoPlace "NoPlace.__init__" ["found"] = true)
    (ii_NoPoint : PySem.W.findIn K (.ref C_NoPoint) "__init__" = some (some (.ref I_NoPoint)))
    (il_NoPoint : K.lookup I_NoPoint = some ⟨ioc_NoPoint, iod_NoPoint, .func (PySem.W.fnOf "__init__" "NoPoint.__init__" (defArgs (inClass (topS 11) 0)) (defBody (inClass (topS 11) 0)) (defScope (inClass (topS 11) 0)) .none ikV_NoPoint idc_NoPoint ipm_NoPoint ian_NoPoint icd_NoPoint ict_NoPoint), isl_NoPoint⟩)
    (ig_NoPoint : iniF K C_NoPoint I_NoPoint icd_NoPoint "NoPoint.__init__" ["found"] = true)
    (ii_NoProgram : PySem.W.findIn K (.ref C_NoProgram) "__init__" = some (some (.ref I_NoProgram)))
    (il_NoProgram : K.lookup I_NoProgram = some ⟨ioc_NoProgram, iod_NoProgram, .func (PySem.W.fnOf "__init__" "NoProgram.__init__" (defArgs (inClass (topS 12) 0)) (defBody (inClass (topS 12) 0)) (defScope (inClass (topS 12) 0)) .none ikV_NoProgram idc_NoProgram ipm_NoProgram ian_NoProgram icd_NoProgram ict_NoProgram), isl_NoProgram⟩)
    (ig_NoProgram : iniF K C_NoProgram I_NoProgram icd_NoProgram "NoProgram.__init__" ["found"] = true)
    (ii_NoRound : PySem.W.findIn K (.ref C_NoRound) "__init__" = some (some (.ref I_NoRound)))
    (il_NoRound : K.lookup I_NoRound = some ⟨ioc_NoRound, iod_NoRound, .func (PySem.W.fnOf "__init__" "NoRound.__init__" (defArgs (inClass (topS 9) 0)) (defBody (inClass (topS 9) 0)) (defScope (inClass (topS 9) 0)) .none ikV_NoRound idc_NoRound ipm_NoRound ian_NoRound icd_NoRound ict_NoRound), isl_NoRound⟩)
    (ig_NoRound : iniF K C_NoRound I_NoRound icd_NoRound "NoRound.__init__" ["found"] = true)
    (ii_NoRow : PySem.W.findIn K (.ref C_NoRow) "__init__" = some (some (.ref I_NoRow)))
    (il_NoRow : K.lookup I_NoRow = some ⟨ioc_NoRow, iod_NoRow, .func (PySem.W.fnOf "__init__" "NoRow.__init__" (defArgs (inClass (topS 27) 0)) (defBody (inClass (topS 27) 0)) (defScope (inClass (topS 27) 0)) .none ikV_NoRow idc_NoRow ipm_NoRow ian_NoRow icd_NoRow ict_NoRow), isl_NoRow⟩)
    (ig_NoRow : iniF K C_NoRow I_NoRow icd_NoRow "NoRow.__init__" ["at"] = true)
    (ii_NoSize : PySem.W.findIn K (.ref C_NoSize) "__init__" = some (some (.ref I_NoSize)))
    (il_NoSize : K.lookup I_NoSize = some ⟨ioc_NoSize, iod_NoSize, .func (PySem.W.fnOf "__init__" "NoSize.__init__" (defArgs (inClass (topS 18) 0)) (defBody (inClass (topS 18) 0)) (defScope (inClass (topS 18) 0)) .none ikV_NoSize idc_NoSize ipm_NoSize ian_NoSize icd_NoSize ict_NoSize), isl_NoSize⟩)
    (ig_NoSize : iniF K C_NoSize I_NoSize icd_NoSize "NoSize.__init__" ["found"] = true)
    (ii_NoSuch : PySem.W.findIn K (.ref C_NoSuch) "__init__" = some (some (.ref I_NoSuch)))
    (il_NoSuch : K.lookup I_NoSuch = some ⟨ioc_NoSuch, iod_NoSuch, .func (PySem.W.fnOf "__init__" "NoSuch.__init__" (defArgs (inClass (topS 32) 0)) (defBody (inClass (topS 32) 0)) (defScope (inClass (topS 32) 0)) .none ikV_NoSuch idc_NoSuch ipm_NoSuch ian_NoSuch icd_NoSuch ict_NoSuch), isl_NoSuch⟩)
    (ig_NoSuch : iniF K C_NoSuch I_NoSuch icd_NoSuch "NoSuch.__init__" ["found"] = true)
    (ii_NoText : PySem.W.findIn K (.ref C_NoText) "__init__" = some (some (.ref I_NoText)))
    (il_NoText : K.lookup I_NoText = some ⟨ioc_NoText, iod_NoText, .func (PySem.W.fnOf "__init__" "NoText.__init__" (defArgs (inClass (topS 6) 0)) (defBody (inClass (topS 6) 0)) (defScope (inClass (topS 6) 0)) .none ikV_NoText idc_NoText ipm_NoText ian_NoText icd_NoText ict_NoText), isl_NoText⟩)
    (ig_NoText : iniF K C_NoText I_NoText icd_NoText "NoText.__init__" ["found"] = true)
    (ii_NoWay : PySem.W.findIn K (.ref C_NoWay) "__init__" = some (some (.ref I_NoWay)))
    (il_NoWay : K.lookup I_NoWay = some ⟨ioc_NoWay, iod_NoWay, .func (PySem.W.fnOf "__init__" "NoWay.__init__" (defArgs (inClass (topS 8) 0)) (defBody (inClass (topS 8) 0)) (defScope (inClass (topS 8) 0)) .none ikV_NoWay idc_NoWay ipm_NoWay ian_NoWay icd_NoWay ict_NoWay), isl_NoWay⟩)
    (ig_NoWay : iniF K C_NoWay I_NoWay icd_NoWay "NoWay.__init__" ["found"] = true)
    (ii_NoWord : PySem.W.findIn K (.ref C_NoWord) "__init__" = some (some (.ref I_NoWord)))
    (il_NoWord : K.lookup I_NoWord = some ⟨ioc_NoWord, iod_NoWord, .func (PySem.W.fnOf "__init__" "NoWord.__init__" (defArgs (inClass (topS 13) 0)) (defBody (inClass (topS 13) 0)) (defScope (inClass (topS 13) 0)) .none ikV_NoWord idc_NoWord ipm_NoWord ian_NoWord icd_NoWord ict_NoWord), isl_NoWord⟩)
    (ig_NoWord : iniF K C_NoWord I_NoWord icd_NoWord "NoWord.__init__" ["found"] = true)
    (ii_NoWorths : PySem.W.findIn K (.ref C_NoWorths) "__init__" = some (some (.ref I_NoWorths)))
    (il_NoWorths : K.lookup I_NoWorths = some ⟨ioc_NoWorths, iod_NoWorths, .func (PySem.W.fnOf "__init__" "NoWorths.__init__" (defArgs (inClass (topS 15) 0)) (defBody (inClass (topS 15) 0)) (defScope (inClass (topS 15) 0)) .none ikV_NoWorths idc_NoWorths ipm_NoWorths ian_NoWorths icd_NoWorths ict_NoWorths), isl_NoWorths⟩)
    (ig_NoWorths : iniF K C_NoWorths I_NoWorths icd_NoWorths "NoWorths.__init__" ["found"] = true)
    (ii_NoZone : PySem.W.findIn K (.ref C_NoZone) "__init__" = some (some (.ref I_NoZone)))
    (il_NoZone : K.lookup I_NoZone = some ⟨ioc_NoZone, iod_NoZone, .func (PySem.W.fnOf "__init__" "NoZone.__init__" (defArgs (inClass (topS 19) 0)) (defBody (inClass (topS 19) 0)) (defScope (inClass (topS 19) 0)) .none ikV_NoZone idc_NoZone ipm_NoZone ian_NoZone icd_NoZone ict_NoZone), isl_NoZone⟩)
    (ig_NoZone : iniF K C_NoZone I_NoZone icd_NoZone "NoZone.__init__" ["found"] = true)
    (ii_TooMany : PySem.W.findIn K (.ref C_TooMany) "__init__" = some (some (.ref I_TooMany)))
    (il_TooMany : K.lookup I_TooMany = some ⟨ioc_TooMany, iod_TooMany, .func (PySem.W.fnOf "__init__" "TooMany.__init__" (defArgs (inClass (topS 25) 0)) (defBody (inClass (topS 25) 0)) (defScope (inClass (topS 25) 0)) .none ikV_TooMany idc_TooMany ipm_TooMany ian_TooMany icd_TooMany ict_TooMany), isl_TooMany⟩)
    (ig_TooMany : iniF K C_TooMany I_TooMany icd_TooMany "TooMany.__init__" ["many"] = true)
    (ii_Unready : PySem.W.findIn K (.ref C_Unready) "__init__" = some (some (.ref I_Unready)))
    (il_Unready : K.lookup I_Unready = some ⟨ioc_Unready, iod_Unready, .func (PySem.W.fnOf "__init__" "Unready.__init__" (defArgs (inClass (topS 30) 0)) (defBody (inClass (topS 30) 0)) (defScope (inClass (topS 30) 0)) .none ikV_Unready idc_Unready ipm_Unready ian_Unready icd_Unready ict_Unready), isl_Unready⟩)
    (ig_Unready : iniF K C_Unready I_Unready icd_Unready "Unready.__init__" [] = true) :
    ∃ fd : FuncData, (∀ (s : Shared) (u : Value), BindsTo s fd ⟨[u], []⟩ [("_law_script", u)]) ∧ ∀ base : Heap, K.In base → base.Ns mainGlobals mg → (∃ o, base.get? sysModules = some o) → FnG l.prog w K mg base 5 fa fd ["_law_script"] sp_law := by
  have e := hfa.symm.trans (glb_of X G a_law)
  cases e
  have D__law_cell := defAt_of X G a__law_cell l__law_cell c__law_cell k__law_cell
  have D__law_box := defAt_of X G a__law_box l__law_box c__law_box k__law_box
  have D__law_take := defAt_of X G a__law_take l__law_take c__law_take k__law_take
  have D__law_kinds := defAt_of X G a__law_kinds l__law_kinds c__law_kinds k__law_kinds
  have D__law_made := defAt_of X G a__law_made l__law_made c__law_made k__law_made
  have D__law_named := defAt_of X G a__law_named l__law_named c__law_named k__law_named
  have D__law_fields := defAt_of X G a__law_fields l__law_fields c__law_fields k__law_fields
  have D__law_grown := defAt_of X G a__law_grown l__law_grown c__law_grown k__law_grown
  have D__law_text := defAt_of X G a__law_text l__law_text c__law_text k__law_text
  have D__law_thing := defAt_of X G a__law_thing l__law_thing c__law_thing k__law_thing
  have D__law_right := defAt_of X G a__law_right l__law_right c__law_right k__law_right
  have D_law := defAt_of X G a_law l_law c_law k_law
  have M_Crossed := glb_of X G m_Crossed
  have M_Deep := glb_of X G m_Deep
  have M_Fault := glb_of X G m_Fault
  have M_FontError := glb_of X G m_FontError
  have M_Missing := glb_of X G m_Missing
  have M_NoBase := glb_of X G m_NoBase
  have M_NoCells := glb_of X G m_NoCells
  have M_NoChoices := glb_of X G m_NoChoices
  have M_NoDefinition := glb_of X G m_NoDefinition
  have M_NoEntry := glb_of X G m_NoEntry
  have M_NoFont := glb_of X G m_NoFont
  have M_NoLetter := glb_of X G m_NoLetter
  have M_NoLimit := glb_of X G m_NoLimit
  have M_NoLine := glb_of X G m_NoLine
  have M_NoName := glb_of X G m_NoName
  have M_NoNumber := glb_of X G m_NoNumber
  have M_NoOutline := glb_of X G m_NoOutline
  have M_NoParts := glb_of X G m_NoParts
  have M_NoPlace := glb_of X G m_NoPlace
  have M_NoPoint := glb_of X G m_NoPoint
  have M_NoProgram := glb_of X G m_NoProgram
  have M_NoRound := glb_of X G m_NoRound
  have M_NoRow := glb_of X G m_NoRow
  have M_NoSize := glb_of X G m_NoSize
  have M_NoSuch := glb_of X G m_NoSuch
  have M_NoText := glb_of X G m_NoText
  have M_NoWay := glb_of X G m_NoWay
  have M_NoWord := glb_of X G m_NoWord
  have M_NoWorths := glb_of X G m_NoWorths
  have M_NoZone := glb_of X G m_NoZone
  have M_TooMany := glb_of X G m_TooMany
  have M_Unknown := glb_of X G m_Unknown
  have M_Unready := glb_of X G m_Unready
  have B_FontError := baseG_of X G m_FontError bg_FontError br_FontError bi_FontError
  have B_Missing := baseG_of X G m_Missing bg_Missing br_Missing bi_Missing
  have B_Unknown := baseG_of X G m_Unknown bg_Unknown br_Unknown bi_Unknown
  have X_Crossed := oxG_of GX.bx_ValueError xl_Crossed rfl (excF_s e5_Crossed) (excF_k e5_Crossed)
  have X_Deep := oxG_of GX.bx_ValueError xl_Deep rfl (excF_s e5_Deep) (excF_k e5_Deep)
  have X_Fault := oxG_of GX.bx_ValueError xl_Fault rfl (excF_s e5_Fault) (excF_k e5_Fault)
  have X_NoBase := oxG_of GX.bx_ZeroDivisionError xl_NoBase rfl (excF_s e5_NoBase) (excF_k e5_NoBase)
  have X_NoCells := oxG_of GX.bx_ValueError xl_NoCells rfl (excF_s e5_NoCells) (excF_k e5_NoCells)
  have X_NoChoices := oxG_of GX.bx_ValueError xl_NoChoices rfl (excF_s e5_NoChoices) (excF_k e5_NoChoices)
  have X_NoDefinition := oxG_of GX.bx_KeyError xl_NoDefinition rfl (excF_s e5_NoDefinition) (excF_k e5_NoDefinition)
  have X_NoEntry := oxG_of GX.bx_LookupError xl_NoEntry rfl (excF_s e5_NoEntry) (excF_k e5_NoEntry)
  have X_NoFont := oxG_of GX.bx_ValueError xl_NoFont rfl (excF_s e5_NoFont) (excF_k e5_NoFont)
  have X_NoLetter := oxG_of GX.bx_ValueError xl_NoLetter rfl (excF_s e5_NoLetter) (excF_k e5_NoLetter)
  have X_NoLimit := oxG_of GX.bx_ValueError xl_NoLimit rfl (excF_s e5_NoLimit) (excF_k e5_NoLimit)
  have X_NoLine := oxG_of GX.bx_ValueError xl_NoLine rfl (excF_s e5_NoLine) (excF_k e5_NoLine)
  have X_NoName := oxG_of GX.bx_ValueError xl_NoName rfl (excF_s e5_NoName) (excF_k e5_NoName)
  have X_NoNumber := oxG_of GX.bx_ValueError xl_NoNumber rfl (excF_s e5_NoNumber) (excF_k e5_NoNumber)
  have X_NoOutline := oxG_of GX.bx_ValueError xl_NoOutline rfl (excF_s e5_NoOutline) (excF_k e5_NoOutline)
  have X_NoParts := oxG_of GX.bx_ValueError xl_NoParts rfl (excF_s e5_NoParts) (excF_k e5_NoParts)
  have X_NoPlace := oxG_of GX.bx_ValueError xl_NoPlace rfl (excF_s e5_NoPlace) (excF_k e5_NoPlace)
  have X_NoPoint := oxG_of GX.bx_ValueError xl_NoPoint rfl (excF_s e5_NoPoint) (excF_k e5_NoPoint)
  have X_NoProgram := oxG_of GX.bx_ValueError xl_NoProgram rfl (excF_s e5_NoProgram) (excF_k e5_NoProgram)
  have X_NoRound := oxG_of GX.bx_ValueError xl_NoRound rfl (excF_s e5_NoRound) (excF_k e5_NoRound)
  have X_NoRow := oxG_of GX.bx_ValueError xl_NoRow rfl (excF_s e5_NoRow) (excF_k e5_NoRow)
  have X_NoSize := oxG_of GX.bx_ValueError xl_NoSize rfl (excF_s e5_NoSize) (excF_k e5_NoSize)
  have X_NoSuch := oxG_of GX.bx_KeyError xl_NoSuch rfl (excF_s e5_NoSuch) (excF_k e5_NoSuch)
  have X_NoText := oxG_of GX.bx_ValueError xl_NoText rfl (excF_s e5_NoText) (excF_k e5_NoText)
  have X_NoWay := oxG_of GX.bx_ValueError xl_NoWay rfl (excF_s e5_NoWay) (excF_k e5_NoWay)
  have X_NoWord := oxG_of GX.bx_ValueError xl_NoWord rfl (excF_s e5_NoWord) (excF_k e5_NoWord)
  have X_NoWorths := oxG_of GX.bx_ValueError xl_NoWorths rfl (excF_s e5_NoWorths) (excF_k e5_NoWorths)
  have X_NoZone := oxG_of GX.bx_ValueError xl_NoZone rfl (excF_s e5_NoZone) (excF_k e5_NoZone)
  have X_TooMany := oxG_of GX.bx_ValueError xl_TooMany rfl (excF_s e5_TooMany) (excF_k e5_TooMany)
  have X_Unready := oxG_of GX.bx_LookupError xl_Unready rfl (excF_s e5_Unready) (excF_k e5_Unready)
  have XF_Crossed : L2.XfC K C_Crossed := ⟨(excF_g e5_Crossed), (excF_a e5_Crossed), (xl_mro xl_Crossed (by rfl)), xl_dict xl_Crossed⟩
  have XF_Deep : L2.XfC K C_Deep := ⟨(excF_g e5_Deep), (excF_a e5_Deep), (xl_mro xl_Deep (by rfl)), xl_dict xl_Deep⟩
  have XF_Fault : L2.XfC K C_Fault := ⟨(excF_g e5_Fault), (excF_a e5_Fault), (xl_mro xl_Fault (by rfl)), xl_dict xl_Fault⟩
  have XF_NoBase : L2.XfC K C_NoBase := ⟨(excF_g e5_NoBase), (excF_a e5_NoBase), (xl_mro xl_NoBase (by rfl)), xl_dict xl_NoBase⟩
  have XF_NoCells : L2.XfC K C_NoCells := ⟨(excF_g e5_NoCells), (excF_a e5_NoCells), (xl_mro xl_NoCells (by rfl)), xl_dict xl_NoCells⟩
  have XF_NoChoices : L2.XfC K C_NoChoices := ⟨(excF_g e5_NoChoices), (excF_a e5_NoChoices), (xl_mro xl_NoChoices (by rfl)), xl_dict xl_NoChoices⟩
  have XF_NoDefinition : L2.XfC K C_NoDefinition := ⟨(excF_g e5_NoDefinition), (excF_a e5_NoDefinition), (xl_mro xl_NoDefinition (by rfl)), xl_dict xl_NoDefinition⟩
  have XF_NoEntry : L2.XfC K C_NoEntry := ⟨(excF_g e5_NoEntry), (excF_a e5_NoEntry), (xl_mro xl_NoEntry (by rfl)), xl_dict xl_NoEntry⟩
  have XF_NoFont : L2.XfC K C_NoFont := ⟨(excF_g e5_NoFont), (excF_a e5_NoFont), (xl_mro xl_NoFont (by rfl)), xl_dict xl_NoFont⟩
  have XF_NoLetter : L2.XfC K C_NoLetter := ⟨(excF_g e5_NoLetter), (excF_a e5_NoLetter), (xl_mro xl_NoLetter (by rfl)), xl_dict xl_NoLetter⟩
  have XF_NoLimit : L2.XfC K C_NoLimit := ⟨(excF_g e5_NoLimit), (excF_a e5_NoLimit), (xl_mro xl_NoLimit (by rfl)), xl_dict xl_NoLimit⟩
  have XF_NoLine : L2.XfC K C_NoLine := ⟨(excF_g e5_NoLine), (excF_a e5_NoLine), (xl_mro xl_NoLine (by rfl)), xl_dict xl_NoLine⟩
  have XF_NoName : L2.XfC K C_NoName := ⟨(excF_g e5_NoName), (excF_a e5_NoName), (xl_mro xl_NoName (by rfl)), xl_dict xl_NoName⟩
  have XF_NoNumber : L2.XfC K C_NoNumber := ⟨(excF_g e5_NoNumber), (excF_a e5_NoNumber), (xl_mro xl_NoNumber (by rfl)), xl_dict xl_NoNumber⟩
  have XF_NoOutline : L2.XfC K C_NoOutline := ⟨(excF_g e5_NoOutline), (excF_a e5_NoOutline), (xl_mro xl_NoOutline (by rfl)), xl_dict xl_NoOutline⟩
  have XF_NoParts : L2.XfC K C_NoParts := ⟨(excF_g e5_NoParts), (excF_a e5_NoParts), (xl_mro xl_NoParts (by rfl)), xl_dict xl_NoParts⟩
  have XF_NoPlace : L2.XfC K C_NoPlace := ⟨(excF_g e5_NoPlace), (excF_a e5_NoPlace), (xl_mro xl_NoPlace (by rfl)), xl_dict xl_NoPlace⟩
  have XF_NoPoint : L2.XfC K C_NoPoint := ⟨(excF_g e5_NoPoint), (excF_a e5_NoPoint), (xl_mro xl_NoPoint (by rfl)), xl_dict xl_NoPoint⟩
  have XF_NoProgram : L2.XfC K C_NoProgram := ⟨(excF_g e5_NoProgram), (excF_a e5_NoProgram), (xl_mro xl_NoProgram (by rfl)), xl_dict xl_NoProgram⟩
  have XF_NoRound : L2.XfC K C_NoRound := ⟨(excF_g e5_NoRound), (excF_a e5_NoRound), (xl_mro xl_NoRound (by rfl)), xl_dict xl_NoRound⟩
  have XF_NoRow : L2.XfC K C_NoRow := ⟨(excF_g e5_NoRow), (excF_a e5_NoRow), (xl_mro xl_NoRow (by rfl)), xl_dict xl_NoRow⟩
  have XF_NoSize : L2.XfC K C_NoSize := ⟨(excF_g e5_NoSize), (excF_a e5_NoSize), (xl_mro xl_NoSize (by rfl)), xl_dict xl_NoSize⟩
  have XF_NoSuch : L2.XfC K C_NoSuch := ⟨(excF_g e5_NoSuch), (excF_a e5_NoSuch), (xl_mro xl_NoSuch (by rfl)), xl_dict xl_NoSuch⟩
  have XF_NoText : L2.XfC K C_NoText := ⟨(excF_g e5_NoText), (excF_a e5_NoText), (xl_mro xl_NoText (by rfl)), xl_dict xl_NoText⟩
  have XF_NoWay : L2.XfC K C_NoWay := ⟨(excF_g e5_NoWay), (excF_a e5_NoWay), (xl_mro xl_NoWay (by rfl)), xl_dict xl_NoWay⟩
  have XF_NoWord : L2.XfC K C_NoWord := ⟨(excF_g e5_NoWord), (excF_a e5_NoWord), (xl_mro xl_NoWord (by rfl)), xl_dict xl_NoWord⟩
  have XF_NoWorths : L2.XfC K C_NoWorths := ⟨(excF_g e5_NoWorths), (excF_a e5_NoWorths), (xl_mro xl_NoWorths (by rfl)), xl_dict xl_NoWorths⟩
  have XF_NoZone : L2.XfC K C_NoZone := ⟨(excF_g e5_NoZone), (excF_a e5_NoZone), (xl_mro xl_NoZone (by rfl)), xl_dict xl_NoZone⟩
  have XF_TooMany : L2.XfC K C_TooMany := ⟨(excF_g e5_TooMany), (excF_a e5_TooMany), (xl_mro xl_TooMany (by rfl)), xl_dict xl_TooMany⟩
  have Y_Crossed : L2.ExcC K C_Crossed := ⟨(excF_g e5_Crossed), (excF_a e5_Crossed), (xl_mro xl_Crossed (by rfl)), (xl_dict xl_Crossed), (excF_c e5_Crossed), yn, yt, (xl_mro xl_Crossed (by rfl))⟩
  have Y_Deep : L2.ExcC K C_Deep := ⟨(excF_g e5_Deep), (excF_a e5_Deep), (xl_mro xl_Deep (by rfl)), (xl_dict xl_Deep), (excF_c e5_Deep), yn, yt, (xl_mro xl_Deep (by rfl))⟩
  have Y_Fault : L2.ExcC K C_Fault := ⟨(excF_g e5_Fault), (excF_a e5_Fault), (xl_mro xl_Fault (by rfl)), (xl_dict xl_Fault), (excF_c e5_Fault), yn, yt, (xl_mro xl_Fault (by rfl))⟩
  have Y_NoBase : L2.ExcC K C_NoBase := ⟨(excF_g e5_NoBase), (excF_a e5_NoBase), (xl_mro xl_NoBase (by rfl)), (xl_dict xl_NoBase), (excF_c e5_NoBase), yn, yt, (xl_mro xl_NoBase (by rfl))⟩
  have Y_NoCells : L2.ExcC K C_NoCells := ⟨(excF_g e5_NoCells), (excF_a e5_NoCells), (xl_mro xl_NoCells (by rfl)), (xl_dict xl_NoCells), (excF_c e5_NoCells), yn, yt, (xl_mro xl_NoCells (by rfl))⟩
  have Y_NoChoices : L2.ExcC K C_NoChoices := ⟨(excF_g e5_NoChoices), (excF_a e5_NoChoices), (xl_mro xl_NoChoices (by rfl)), (xl_dict xl_NoChoices), (excF_c e5_NoChoices), yn, yt, (xl_mro xl_NoChoices (by rfl))⟩
  have Y_NoDefinition : L2.ExcC K C_NoDefinition := ⟨(excF_g e5_NoDefinition), (excF_a e5_NoDefinition), (xl_mro xl_NoDefinition (by rfl)), (xl_dict xl_NoDefinition), (excF_c e5_NoDefinition), yn, yt, (xl_mro xl_NoDefinition (by rfl))⟩
  have Y_NoEntry : L2.ExcC K C_NoEntry := ⟨(excF_g e5_NoEntry), (excF_a e5_NoEntry), (xl_mro xl_NoEntry (by rfl)), (xl_dict xl_NoEntry), (excF_c e5_NoEntry), yn, yt, (xl_mro xl_NoEntry (by rfl))⟩
  have Y_NoFont : L2.ExcC K C_NoFont := ⟨(excF_g e5_NoFont), (excF_a e5_NoFont), (xl_mro xl_NoFont (by rfl)), (xl_dict xl_NoFont), (excF_c e5_NoFont), yn, yt, (xl_mro xl_NoFont (by rfl))⟩
  have Y_NoLetter : L2.ExcC K C_NoLetter := ⟨(excF_g e5_NoLetter), (excF_a e5_NoLetter), (xl_mro xl_NoLetter (by rfl)), (xl_dict xl_NoLetter), (excF_c e5_NoLetter), yn, yt, (xl_mro xl_NoLetter (by rfl))⟩
  have Y_NoLimit : L2.ExcC K C_NoLimit := ⟨(excF_g e5_NoLimit), (excF_a e5_NoLimit), (xl_mro xl_NoLimit (by rfl)), (xl_dict xl_NoLimit), (excF_c e5_NoLimit), yn, yt, (xl_mro xl_NoLimit (by rfl))⟩
  have Y_NoLine : L2.ExcC K C_NoLine := ⟨(excF_g e5_NoLine), (excF_a e5_NoLine), (xl_mro xl_NoLine (by rfl)), (xl_dict xl_NoLine), (excF_c e5_NoLine), yn, yt, (xl_mro xl_NoLine (by rfl))⟩
  have Y_NoName : L2.ExcC K C_NoName := ⟨(excF_g e5_NoName), (excF_a e5_NoName), (xl_mro xl_NoName (by rfl)), (xl_dict xl_NoName), (excF_c e5_NoName), yn, yt, (xl_mro xl_NoName (by rfl))⟩
  have Y_NoNumber : L2.ExcC K C_NoNumber := ⟨(excF_g e5_NoNumber), (excF_a e5_NoNumber), (xl_mro xl_NoNumber (by rfl)), (xl_dict xl_NoNumber), (excF_c e5_NoNumber), yn, yt, (xl_mro xl_NoNumber (by rfl))⟩
  have Y_NoOutline : L2.ExcC K C_NoOutline := ⟨(excF_g e5_NoOutline), (excF_a e5_NoOutline), (xl_mro xl_NoOutline (by rfl)), (xl_dict xl_NoOutline), (excF_c e5_NoOutline), yn, yt, (xl_mro xl_NoOutline (by rfl))⟩
  have Y_NoParts : L2.ExcC K C_NoParts := ⟨(excF_g e5_NoParts), (excF_a e5_NoParts), (xl_mro xl_NoParts (by rfl)), (xl_dict xl_NoParts), (excF_c e5_NoParts), yn, yt, (xl_mro xl_NoParts (by rfl))⟩
  have Y_NoPlace : L2.ExcC K C_NoPlace := ⟨(excF_g e5_NoPlace), (excF_a e5_NoPlace), (xl_mro xl_NoPlace (by rfl)), (xl_dict xl_NoPlace), (excF_c e5_NoPlace), yn, yt, (xl_mro xl_NoPlace (by rfl))⟩
  have Y_NoPoint : L2.ExcC K C_NoPoint := ⟨(excF_g e5_NoPoint), (excF_a e5_NoPoint), (xl_mro xl_NoPoint (by rfl)), (xl_dict xl_NoPoint), (excF_c e5_NoPoint), yn, yt, (xl_mro xl_NoPoint (by rfl))⟩
  have Y_NoProgram : L2.ExcC K C_NoProgram := ⟨(excF_g e5_NoProgram), (excF_a e5_NoProgram), (xl_mro xl_NoProgram (by rfl)), (xl_dict xl_NoProgram), (excF_c e5_NoProgram), yn, yt, (xl_mro xl_NoProgram (by rfl))⟩
  have Y_NoRound : L2.ExcC K C_NoRound := ⟨(excF_g e5_NoRound), (excF_a e5_NoRound), (xl_mro xl_NoRound (by rfl)), (xl_dict xl_NoRound), (excF_c e5_NoRound), yn, yt, (xl_mro xl_NoRound (by rfl))⟩
  have Y_NoRow : L2.ExcC K C_NoRow := ⟨(excF_g e5_NoRow), (excF_a e5_NoRow), (xl_mro xl_NoRow (by rfl)), (xl_dict xl_NoRow), (excF_c e5_NoRow), yn, yt, (xl_mro xl_NoRow (by rfl))⟩
  have Y_NoSize : L2.ExcC K C_NoSize := ⟨(excF_g e5_NoSize), (excF_a e5_NoSize), (xl_mro xl_NoSize (by rfl)), (xl_dict xl_NoSize), (excF_c e5_NoSize), yn, yt, (xl_mro xl_NoSize (by rfl))⟩
  have Y_NoSuch : L2.ExcC K C_NoSuch := ⟨(excF_g e5_NoSuch), (excF_a e5_NoSuch), (xl_mro xl_NoSuch (by rfl)), (xl_dict xl_NoSuch), (excF_c e5_NoSuch), yn, yt, (xl_mro xl_NoSuch (by rfl))⟩
  have Y_NoText : L2.ExcC K C_NoText := ⟨(excF_g e5_NoText), (excF_a e5_NoText), (xl_mro xl_NoText (by rfl)), (xl_dict xl_NoText), (excF_c e5_NoText), yn, yt, (xl_mro xl_NoText (by rfl))⟩
  have Y_NoWay : L2.ExcC K C_NoWay := ⟨(excF_g e5_NoWay), (excF_a e5_NoWay), (xl_mro xl_NoWay (by rfl)), (xl_dict xl_NoWay), (excF_c e5_NoWay), yn, yt, (xl_mro xl_NoWay (by rfl))⟩
  have Y_NoWord : L2.ExcC K C_NoWord := ⟨(excF_g e5_NoWord), (excF_a e5_NoWord), (xl_mro xl_NoWord (by rfl)), (xl_dict xl_NoWord), (excF_c e5_NoWord), yn, yt, (xl_mro xl_NoWord (by rfl))⟩
  have Y_NoWorths : L2.ExcC K C_NoWorths := ⟨(excF_g e5_NoWorths), (excF_a e5_NoWorths), (xl_mro xl_NoWorths (by rfl)), (xl_dict xl_NoWorths), (excF_c e5_NoWorths), yn, yt, (xl_mro xl_NoWorths (by rfl))⟩
  have Y_NoZone : L2.ExcC K C_NoZone := ⟨(excF_g e5_NoZone), (excF_a e5_NoZone), (xl_mro xl_NoZone (by rfl)), (xl_dict xl_NoZone), (excF_c e5_NoZone), yn, yt, (xl_mro xl_NoZone (by rfl))⟩
  have Y_TooMany : L2.ExcC K C_TooMany := ⟨(excF_g e5_TooMany), (excF_a e5_TooMany), (xl_mro xl_TooMany (by rfl)), (xl_dict xl_TooMany), (excF_c e5_TooMany), yn, yt, (xl_mro xl_TooMany (by rfl))⟩
  have Y_Unready : L2.ExcC K C_Unready := ⟨(excF_g e5_Unready), (excF_a e5_Unready), (xl_mro xl_Unready (by rfl)), (xl_dict xl_Unready), (excF_c e5_Unready), yn, yt, (xl_mro xl_Unready (by rfl))⟩
  have INR_0 := self_in ([(("Crossed" : Str), C_Crossed), (("Deep" : Str), C_Deep), (("Fault" : Str), C_Fault), (("FontError" : Str), C_FontError), (("Missing" : Str), C_Missing), (("NoBase" : Str), C_NoBase), (("NoCells" : Str), C_NoCells), (("NoChoices" : Str), C_NoChoices), (("NoDefinition" : Str), C_NoDefinition), (("NoEntry" : Str), C_NoEntry), (("NoFont" : Str), C_NoFont), (("NoLetter" : Str), C_NoLetter), (("NoLimit" : Str), C_NoLimit), (("NoLine" : Str), C_NoLine), (("NoName" : Str), C_NoName), (("NoNumber" : Str), C_NoNumber), (("NoOutline" : Str), C_NoOutline), (("NoParts" : Str), C_NoParts), (("NoPlace" : Str), C_NoPlace), (("NoPoint" : Str), C_NoPoint), (("NoProgram" : Str), C_NoProgram), (("NoRound" : Str), C_NoRound), (("NoRow" : Str), C_NoRow), (("NoSize" : Str), C_NoSize), (("NoSuch" : Str), C_NoSuch), (("NoText" : Str), C_NoText), (("NoWay" : Str), C_NoWay), (("NoWord" : Str), C_NoWord), (("NoWorths" : Str), C_NoWorths), (("NoZone" : Str), C_NoZone), (("TooMany" : Str), C_TooMany), (("Unknown" : Str), C_Unknown), (("Unready" : Str), C_Unready)] : List (Str × Addr))
  have IN_Crossed := (List.forall_mem_cons.mp INR_0).1
  have INR_1 := (List.forall_mem_cons.mp INR_0).2
  have IN_Deep := (List.forall_mem_cons.mp INR_1).1
  have INR_2 := (List.forall_mem_cons.mp INR_1).2
  have IN_Fault := (List.forall_mem_cons.mp INR_2).1
  have INR_3 := (List.forall_mem_cons.mp INR_2).2
  have IN_FontError := (List.forall_mem_cons.mp INR_3).1
  have INR_4 := (List.forall_mem_cons.mp INR_3).2
  have IN_Missing := (List.forall_mem_cons.mp INR_4).1
  have INR_5 := (List.forall_mem_cons.mp INR_4).2
  have IN_NoBase := (List.forall_mem_cons.mp INR_5).1
  have INR_6 := (List.forall_mem_cons.mp INR_5).2
  have IN_NoCells := (List.forall_mem_cons.mp INR_6).1
  have INR_7 := (List.forall_mem_cons.mp INR_6).2
  have IN_NoChoices := (List.forall_mem_cons.mp INR_7).1
  have INR_8 := (List.forall_mem_cons.mp INR_7).2
  have IN_NoDefinition := (List.forall_mem_cons.mp INR_8).1
  have INR_9 := (List.forall_mem_cons.mp INR_8).2
  have IN_NoEntry := (List.forall_mem_cons.mp INR_9).1
  have INR_10 := (List.forall_mem_cons.mp INR_9).2
  have IN_NoFont := (List.forall_mem_cons.mp INR_10).1
  have INR_11 := (List.forall_mem_cons.mp INR_10).2
  have IN_NoLetter := (List.forall_mem_cons.mp INR_11).1
  have INR_12 := (List.forall_mem_cons.mp INR_11).2
  have IN_NoLimit := (List.forall_mem_cons.mp INR_12).1
  have INR_13 := (List.forall_mem_cons.mp INR_12).2
  have IN_NoLine := (List.forall_mem_cons.mp INR_13).1
  have INR_14 := (List.forall_mem_cons.mp INR_13).2
  have IN_NoName := (List.forall_mem_cons.mp INR_14).1
  have INR_15 := (List.forall_mem_cons.mp INR_14).2
  have IN_NoNumber := (List.forall_mem_cons.mp INR_15).1
  have INR_16 := (List.forall_mem_cons.mp INR_15).2
  have IN_NoOutline := (List.forall_mem_cons.mp INR_16).1
  have INR_17 := (List.forall_mem_cons.mp INR_16).2
  have IN_NoParts := (List.forall_mem_cons.mp INR_17).1
  have INR_18 := (List.forall_mem_cons.mp INR_17).2
  have IN_NoPlace := (List.forall_mem_cons.mp INR_18).1
  have INR_19 := (List.forall_mem_cons.mp INR_18).2
  have IN_NoPoint := (List.forall_mem_cons.mp INR_19).1
  have INR_20 := (List.forall_mem_cons.mp INR_19).2
  have IN_NoProgram := (List.forall_mem_cons.mp INR_20).1
  have INR_21 := (List.forall_mem_cons.mp INR_20).2
  have IN_NoRound := (List.forall_mem_cons.mp INR_21).1
  have INR_22 := (List.forall_mem_cons.mp INR_21).2
  have IN_NoRow := (List.forall_mem_cons.mp INR_22).1
  have INR_23 := (List.forall_mem_cons.mp INR_22).2
  have IN_NoSize := (List.forall_mem_cons.mp INR_23).1
  have INR_24 := (List.forall_mem_cons.mp INR_23).2
  have IN_NoSuch := (List.forall_mem_cons.mp INR_24).1
  have INR_25 := (List.forall_mem_cons.mp INR_24).2
  have IN_NoText := (List.forall_mem_cons.mp INR_25).1
  have INR_26 := (List.forall_mem_cons.mp INR_25).2
  have IN_NoWay := (List.forall_mem_cons.mp INR_26).1
  have INR_27 := (List.forall_mem_cons.mp INR_26).2
  have IN_NoWord := (List.forall_mem_cons.mp INR_27).1
  have INR_28 := (List.forall_mem_cons.mp INR_27).2
  have IN_NoWorths := (List.forall_mem_cons.mp INR_28).1
  have INR_29 := (List.forall_mem_cons.mp INR_28).2
  have IN_NoZone := (List.forall_mem_cons.mp INR_29).1
  have INR_30 := (List.forall_mem_cons.mp INR_29).2
  have IN_TooMany := (List.forall_mem_cons.mp INR_30).1
  have INR_31 := (List.forall_mem_cons.mp INR_30).2
  have IN_Unknown := (List.forall_mem_cons.mp INR_31).1
  have INR_32 := (List.forall_mem_cons.mp INR_31).2
  have IN_Unready := (List.forall_mem_cons.mp INR_32).1
  have KX1 : KitT K mg (ktX xrowsT xown xbts) := kitX_of (own := [(("Crossed" : Str), C_Crossed), (("Deep" : Str), C_Deep), (("Fault" : Str), C_Fault), (("FontError" : Str), C_FontError), (("Missing" : Str), C_Missing), (("NoBase" : Str), C_NoBase), (("NoCells" : Str), C_NoCells), (("NoChoices" : Str), C_NoChoices), (("NoDefinition" : Str), C_NoDefinition), (("NoEntry" : Str), C_NoEntry), (("NoFont" : Str), C_NoFont), (("NoLetter" : Str), C_NoLetter), (("NoLimit" : Str), C_NoLimit), (("NoLine" : Str), C_NoLine), (("NoName" : Str), C_NoName), (("NoNumber" : Str), C_NoNumber), (("NoOutline" : Str), C_NoOutline), (("NoParts" : Str), C_NoParts), (("NoPlace" : Str), C_NoPlace), (("NoPoint" : Str), C_NoPoint), (("NoProgram" : Str), C_NoProgram), (("NoRound" : Str), C_NoRound), (("NoRow" : Str), C_NoRow), (("NoSize" : Str), C_NoSize), (("NoSuch" : Str), C_NoSuch), (("NoText" : Str), C_NoText), (("NoWay" : Str), C_NoWay), (("NoWord" : Str), C_NoWord), (("NoWorths" : Str), C_NoWorths), (("NoZone" : Str), C_NoZone), (("TooMany" : Str), C_TooMany), (("Unknown" : Str), C_Unknown), (("Unready" : Str), C_Unready)]) (List.forall_mem_cons.mpr ⟨⟨M_Crossed, ((xl_own xl_Crossed).1), ((xl_own xl_Crossed).2)⟩, List.forall_mem_cons.mpr ⟨⟨M_Deep, ((xl_own xl_Deep).1), ((xl_own xl_Deep).2)⟩, List.forall_mem_cons.mpr ⟨⟨M_Fault, ((xl_own xl_Fault).1), ((xl_own xl_Fault).2)⟩, List.forall_mem_cons.mpr ⟨⟨M_FontError, (cls_some oh_FontError), ot_FontError⟩, List.forall_mem_cons.mpr ⟨⟨M_Missing, (cls_some oh_Missing), ot_Missing⟩, List.forall_mem_cons.mpr ⟨⟨M_NoBase, ((xl_own xl_NoBase).1), ((xl_own xl_NoBase).2)⟩, List.forall_mem_cons.mpr ⟨⟨M_NoCells, ((xl_own xl_NoCells).1), ((xl_own xl_NoCells).2)⟩, List.forall_mem_cons.mpr ⟨⟨M_NoChoices, ((xl_own xl_NoChoices).1), ((xl_own xl_NoChoices).2)⟩, List.forall_mem_cons.mpr ⟨⟨M_NoDefinition, ((xl_own xl_NoDefinition).1), ((xl_own xl_NoDefinition).2)⟩, List.forall_mem_cons.mpr ⟨⟨M_NoEntry, ((xl_own xl_NoEntry).1), ((xl_own xl_NoEntry).2)⟩, List.forall_mem_cons.mpr ⟨⟨M_NoFont, ((xl_own xl_NoFont).1), ((xl_own xl_NoFont).2)⟩, List.forall_mem_cons.mpr ⟨⟨M_NoLetter, ((xl_own xl_NoLetter).1), ((xl_own xl_NoLetter).2)⟩, List.forall_mem_cons.mpr ⟨⟨M_NoLimit, ((xl_own xl_NoLimit).1), ((xl_own xl_NoLimit).2)⟩, List.forall_mem_cons.mpr ⟨⟨M_NoLine, ((xl_own xl_NoLine).1), ((xl_own xl_NoLine).2)⟩, List.forall_mem_cons.mpr ⟨⟨M_NoName, ((xl_own xl_NoName).1), ((xl_own xl_NoName).2)⟩, List.forall_mem_cons.mpr ⟨⟨M_NoNumber, ((xl_own xl_NoNumber).1), ((xl_own xl_NoNumber).2)⟩, List.forall_mem_cons.mpr ⟨⟨M_NoOutline, ((xl_own xl_NoOutline).1), ((xl_own xl_NoOutline).2)⟩, List.forall_mem_cons.mpr ⟨⟨M_NoParts, ((xl_own xl_NoParts).1), ((xl_own xl_NoParts).2)⟩, List.forall_mem_cons.mpr ⟨⟨M_NoPlace, ((xl_own xl_NoPlace).1), ((xl_own xl_NoPlace).2)⟩, List.forall_mem_cons.mpr ⟨⟨M_NoPoint, ((xl_own xl_NoPoint).1), ((xl_own xl_NoPoint).2)⟩, List.forall_mem_cons.mpr ⟨⟨M_NoProgram, ((xl_own xl_NoProgram).1), ((xl_own xl_NoProgram).2)⟩, List.forall_mem_cons.mpr ⟨⟨M_NoRound, ((xl_own xl_NoRound).1), ((xl_own xl_NoRound).2)⟩, List.forall_mem_cons.mpr ⟨⟨M_NoRow, ((xl_own xl_NoRow).1), ((xl_own xl_NoRow).2)⟩, List.forall_mem_cons.mpr ⟨⟨M_NoSize, ((xl_own xl_NoSize).1), ((xl_own xl_NoSize).2)⟩, List.forall_mem_cons.mpr ⟨⟨M_NoSuch, ((xl_own xl_NoSuch).1), ((xl_own xl_NoSuch).2)⟩, List.forall_mem_cons.mpr ⟨⟨M_NoText, ((xl_own xl_NoText).1), ((xl_own xl_NoText).2)⟩, List.forall_mem_cons.mpr ⟨⟨M_NoWay, ((xl_own xl_NoWay).1), ((xl_own xl_NoWay).2)⟩, List.forall_mem_cons.mpr ⟨⟨M_NoWord, ((xl_own xl_NoWord).1), ((xl_own xl_NoWord).2)⟩, List.forall_mem_cons.mpr ⟨⟨M_NoWorths, ((xl_own xl_NoWorths).1), ((xl_own xl_NoWorths).2)⟩, List.forall_mem_cons.mpr ⟨⟨M_NoZone, ((xl_own xl_NoZone).1), ((xl_own xl_NoZone).2)⟩, List.forall_mem_cons.mpr ⟨⟨M_TooMany, ((xl_own xl_TooMany).1), ((xl_own xl_TooMany).2)⟩, List.forall_mem_cons.mpr ⟨⟨M_Unknown, (cls_some oh_Unknown), ot_Unknown⟩, List.forall_mem_cons.mpr ⟨⟨M_Unready, ((xl_own xl_Unready).1), ((xl_own xl_Unready).2)⟩, fun p hp => (nomatch hp)⟩⟩⟩⟩⟩⟩⟩⟩⟩⟩⟩⟩⟩⟩⟩⟩⟩⟩⟩⟩⟩⟩⟩⟩⟩⟩⟩⟩⟩⟩⟩⟩⟩) ndup (by decide +kernel) (List.forall_mem_cons.mpr ⟨xrow_of (tl := ["ValueError", "Exception", "BaseException", "object"]) (ups := [(("FontError" : Str), C_FontError)]) xl_Crossed IN_Crossed (List.forall_mem_cons.mpr ⟨IN_FontError, fun p hp => (nomatch hp)⟩) Y_Crossed, List.forall_mem_cons.mpr ⟨xrow_of (tl := ["ValueError", "Exception", "BaseException", "object"]) (ups := [(("FontError" : Str), C_FontError)]) xl_Deep IN_Deep (List.forall_mem_cons.mpr ⟨IN_FontError, fun p hp => (nomatch hp)⟩) Y_Deep, List.forall_mem_cons.mpr ⟨xrow_of (tl := ["ValueError", "Exception", "BaseException", "object"]) (ups := [(("FontError" : Str), C_FontError)]) xl_Fault IN_Fault (List.forall_mem_cons.mpr ⟨IN_FontError, fun p hp => (nomatch hp)⟩) Y_Fault, List.forall_mem_cons.mpr ⟨xrow_of (tl := ["ZeroDivisionError", "ArithmeticError", "Exception", "BaseException", "object"]) (ups := []) xl_NoBase IN_NoBase (fun p hp => (nomatch hp)) Y_NoBase, List.forall_mem_cons.mpr ⟨xrow_of (tl := ["ValueError", "Exception", "BaseException", "object"]) (ups := [(("FontError" : Str), C_FontError)]) xl_NoCells IN_NoCells (List.forall_mem_cons.mpr ⟨IN_FontError, fun p hp => (nomatch hp)⟩) Y_NoCells, List.forall_mem_cons.mpr ⟨xrow_of (tl := ["ValueError", "Exception", "BaseException", "object"]) (ups := [(("FontError" : Str), C_FontError)]) xl_NoChoices IN_NoChoices (List.forall_mem_cons.mpr ⟨IN_FontError, fun p hp => (nomatch hp)⟩) Y_NoChoices, List.forall_mem_cons.mpr ⟨xrow_of (tl := ["KeyError", "LookupError", "Exception", "BaseException", "object"]) (ups := [(("Unknown" : Str), C_Unknown)]) xl_NoDefinition IN_NoDefinition (List.forall_mem_cons.mpr ⟨IN_Unknown, fun p hp => (nomatch hp)⟩) Y_NoDefinition, List.forall_mem_cons.mpr ⟨xrow_of (tl := ["LookupError", "Exception", "BaseException", "object"]) (ups := [(("Missing" : Str), C_Missing)]) xl_NoEntry IN_NoEntry (List.forall_mem_cons.mpr ⟨IN_Missing, fun p hp => (nomatch hp)⟩) Y_NoEntry, List.forall_mem_cons.mpr ⟨xrow_of (tl := ["ValueError", "Exception", "BaseException", "object"]) (ups := [(("FontError" : Str), C_FontError)]) xl_NoFont IN_NoFont (List.forall_mem_cons.mpr ⟨IN_FontError, fun p hp => (nomatch hp)⟩) Y_NoFont, List.forall_mem_cons.mpr ⟨xrow_of (tl := ["ValueError", "Exception", "BaseException", "object"]) (ups := [(("FontError" : Str), C_FontError)]) xl_NoLetter IN_NoLetter (List.forall_mem_cons.mpr ⟨IN_FontError, fun p hp => (nomatch hp)⟩) Y_NoLetter, List.forall_mem_cons.mpr ⟨xrow_of (tl := ["ValueError", "Exception", "BaseException", "object"]) (ups := [(("FontError" : Str), C_FontError)]) xl_NoLimit IN_NoLimit (List.forall_mem_cons.mpr ⟨IN_FontError, fun p hp => (nomatch hp)⟩) Y_NoLimit, List.forall_mem_cons.mpr ⟨xrow_of (tl := ["ValueError", "Exception", "BaseException", "object"]) (ups := [(("FontError" : Str), C_FontError)]) xl_NoLine IN_NoLine (List.forall_mem_cons.mpr ⟨IN_FontError, fun p hp => (nomatch hp)⟩) Y_NoLine, List.forall_mem_cons.mpr ⟨xrow_of (tl := ["ValueError", "Exception", "BaseException", "object"]) (ups := [(("FontError" : Str), C_FontError)]) xl_NoName IN_NoName (List.forall_mem_cons.mpr ⟨IN_FontError, fun p hp => (nomatch hp)⟩) Y_NoName, List.forall_mem_cons.mpr ⟨xrow_of (tl := ["ValueError", "Exception", "BaseException", "object"]) (ups := [(("FontError" : Str), C_FontError)]) xl_NoNumber IN_NoNumber (List.forall_mem_cons.mpr ⟨IN_FontError, fun p hp => (nomatch hp)⟩) Y_NoNumber, List.forall_mem_cons.mpr ⟨xrow_of (tl := ["ValueError", "Exception", "BaseException", "object"]) (ups := [(("FontError" : Str), C_FontError)]) xl_NoOutline IN_NoOutline (List.forall_mem_cons.mpr ⟨IN_FontError, fun p hp => (nomatch hp)⟩) Y_NoOutline, List.forall_mem_cons.mpr ⟨xrow_of (tl := ["ValueError", "Exception", "BaseException", "object"]) (ups := [(("FontError" : Str), C_FontError)]) xl_NoParts IN_NoParts (List.forall_mem_cons.mpr ⟨IN_FontError, fun p hp => (nomatch hp)⟩) Y_NoParts, List.forall_mem_cons.mpr ⟨xrow_of (tl := ["ValueError", "Exception", "BaseException", "object"]) (ups := [(("FontError" : Str), C_FontError)]) xl_NoPlace IN_NoPlace (List.forall_mem_cons.mpr ⟨IN_FontError, fun p hp => (nomatch hp)⟩) Y_NoPlace, List.forall_mem_cons.mpr ⟨xrow_of (tl := ["ValueError", "Exception", "BaseException", "object"]) (ups := [(("FontError" : Str), C_FontError)]) xl_NoPoint IN_NoPoint (List.forall_mem_cons.mpr ⟨IN_FontError, fun p hp => (nomatch hp)⟩) Y_NoPoint, List.forall_mem_cons.mpr ⟨xrow_of (tl := ["ValueError", "Exception", "BaseException", "object"]) (ups := [(("FontError" : Str), C_FontError)]) xl_NoProgram IN_NoProgram (List.forall_mem_cons.mpr ⟨IN_FontError, fun p hp => (nomatch hp)⟩) Y_NoProgram, List.forall_mem_cons.mpr ⟨xrow_of (tl := ["ValueError", "Exception", "BaseException", "object"]) (ups := [(("FontError" : Str), C_FontError)]) xl_NoRound IN_NoRound (List.forall_mem_cons.mpr ⟨IN_FontError, fun p hp => (nomatch hp)⟩) Y_NoRound, List.forall_mem_cons.mpr ⟨xrow_of (tl := ["ValueError", "Exception", "BaseException", "object"]) (ups := [(("FontError" : Str), C_FontError)]) xl_NoRow IN_NoRow (List.forall_mem_cons.mpr ⟨IN_FontError, fun p hp => (nomatch hp)⟩) Y_NoRow, List.forall_mem_cons.mpr ⟨xrow_of (tl := ["ValueError", "Exception", "BaseException", "object"]) (ups := [(("FontError" : Str), C_FontError)]) xl_NoSize IN_NoSize (List.forall_mem_cons.mpr ⟨IN_FontError, fun p hp => (nomatch hp)⟩) Y_NoSize, List.forall_mem_cons.mpr ⟨xrow_of (tl := ["KeyError", "LookupError", "Exception", "BaseException", "object"]) (ups := [(("Unknown" : Str), C_Unknown)]) xl_NoSuch IN_NoSuch (List.forall_mem_cons.mpr ⟨IN_Unknown, fun p hp => (nomatch hp)⟩) Y_NoSuch, List.forall_mem_cons.mpr ⟨xrow_of (tl := ["ValueError", "Exception", "BaseException", "object"]) (ups := [(("FontError" : Str), C_FontError)]) xl_NoText IN_NoText (List.forall_mem_cons.mpr ⟨IN_FontError, fun p hp => (nomatch hp)⟩) Y_NoText, List.forall_mem_cons.mpr ⟨xrow_of (tl := ["ValueError", "Exception", "BaseException", "object"]) (ups := [(("FontError" : Str), C_FontError)]) xl_NoWay IN_NoWay (List.forall_mem_cons.mpr ⟨IN_FontError, fun p hp => (nomatch hp)⟩) Y_NoWay, List.forall_mem_cons.mpr ⟨xrow_of (tl := ["ValueError", "Exception", "BaseException", "object"]) (ups := [(("FontError" : Str), C_FontError)]) xl_NoWord IN_NoWord (List.forall_mem_cons.mpr ⟨IN_FontError, fun p hp => (nomatch hp)⟩) Y_NoWord, List.forall_mem_cons.mpr ⟨xrow_of (tl := ["ValueError", "Exception", "BaseException", "object"]) (ups := [(("FontError" : Str), C_FontError)]) xl_NoWorths IN_NoWorths (List.forall_mem_cons.mpr ⟨IN_FontError, fun p hp => (nomatch hp)⟩) Y_NoWorths, List.forall_mem_cons.mpr ⟨xrow_of (tl := ["ValueError", "Exception", "BaseException", "object"]) (ups := [(("FontError" : Str), C_FontError)]) xl_NoZone IN_NoZone (List.forall_mem_cons.mpr ⟨IN_FontError, fun p hp => (nomatch hp)⟩) Y_NoZone, List.forall_mem_cons.mpr ⟨xrow_of (tl := ["ValueError", "Exception", "BaseException", "object"]) (ups := [(("FontError" : Str), C_FontError)]) xl_TooMany IN_TooMany (List.forall_mem_cons.mpr ⟨IN_FontError, fun p hp => (nomatch hp)⟩) Y_TooMany, List.forall_mem_cons.mpr ⟨xrow_of (tl := ["LookupError", "Exception", "BaseException", "object"]) (ups := [(("Missing" : Str), C_Missing)]) xl_Unready IN_Unready (List.forall_mem_cons.mpr ⟨IN_Missing, fun p hp => (nomatch hp)⟩) Y_Unready, fun p hp => (nomatch hp)⟩⟩⟩⟩⟩⟩⟩⟩⟩⟩⟩⟩⟩⟩⟩⟩⟩⟩⟩⟩⟩⟩⟩⟩⟩⟩⟩⟩⟩⟩)
  have T : Tz K mg := { kit := kitJ KX1 (kitT_of (fun p hp => (nomatch hp))), xf := xfOk_of (List.forall_mem_cons.mpr ⟨⟨_, M_Crossed, XF_Crossed, (iniF_f ig_Crossed "one" (by simp))⟩, List.forall_mem_cons.mpr ⟨⟨_, M_Crossed, XF_Crossed, (iniF_f ig_Crossed "other" (by simp))⟩, List.forall_mem_cons.mpr ⟨⟨_, M_Deep, XF_Deep, (iniF_f ig_Deep "at" (by simp))⟩, List.forall_mem_cons.mpr ⟨⟨_, M_Fault, XF_Fault, (iniF_f ig_Fault "done" (by simp))⟩, List.forall_mem_cons.mpr ⟨⟨_, M_Fault, XF_Fault, (iniF_f ig_Fault "why" (by simp))⟩, List.forall_mem_cons.mpr ⟨⟨_, M_NoBase, XF_NoBase, (iniF_f ig_NoBase "found" (by simp))⟩, List.forall_mem_cons.mpr ⟨⟨_, M_NoCells, XF_NoCells, (iniF_f ig_NoCells "found" (by simp))⟩, List.forall_mem_cons.mpr ⟨⟨_, M_NoChoices, XF_NoChoices, (iniF_f ig_NoChoices "found" (by simp))⟩, List.forall_mem_cons.mpr ⟨⟨_, M_NoDefinition, XF_NoDefinition, (iniF_f ig_NoDefinition "found" (by simp))⟩, List.forall_mem_cons.mpr ⟨⟨_, M_NoEntry, XF_NoEntry, (iniF_f ig_NoEntry "found" (by simp))⟩, List.forall_mem_cons.mpr ⟨⟨_, M_NoFont, XF_NoFont, (iniF_f ig_NoFont "found" (by simp))⟩, List.forall_mem_cons.mpr ⟨⟨_, M_NoLetter, XF_NoLetter, (iniF_f ig_NoLetter "found" (by simp))⟩, List.forall_mem_cons.mpr ⟨⟨_, M_NoLimit, XF_NoLimit, (iniF_f ig_NoLimit "found" (by simp))⟩, List.forall_mem_cons.mpr ⟨⟨_, M_NoLine, XF_NoLine, (iniF_f ig_NoLine "found" (by simp))⟩, List.forall_mem_cons.mpr ⟨⟨_, M_NoName, XF_NoName, (iniF_f ig_NoName "found" (by simp))⟩, List.forall_mem_cons.mpr ⟨⟨_, M_NoNumber, XF_NoNumber, (iniF_f ig_NoNumber "found" (by simp))⟩, List.forall_mem_cons.mpr ⟨⟨_, M_NoOutline, XF_NoOutline, (iniF_f ig_NoOutline "found" (by simp))⟩, List.forall_mem_cons.mpr ⟨⟨_, M_NoParts, XF_NoParts, (iniF_f ig_NoParts "found" (by simp))⟩, List.forall_mem_cons.mpr ⟨⟨_, M_NoPlace, XF_NoPlace, (iniF_f ig_NoPlace "found" (by simp))⟩, List.forall_mem_cons.mpr ⟨⟨_, M_NoPoint, XF_NoPoint, (iniF_f ig_NoPoint "found" (by simp))⟩, List.forall_mem_cons.mpr ⟨⟨_, M_NoProgram, XF_NoProgram, (iniF_f ig_NoProgram "found" (by simp))⟩, List.forall_mem_cons.mpr ⟨⟨_, M_NoRound, XF_NoRound, (iniF_f ig_NoRound "found" (by simp))⟩, List.forall_mem_cons.mpr ⟨⟨_, M_NoRow, XF_NoRow, (iniF_f ig_NoRow "at" (by simp))⟩, List.forall_mem_cons.mpr ⟨⟨_, M_NoSize, XF_NoSize, (iniF_f ig_NoSize "found" (by simp))⟩, List.forall_mem_cons.mpr ⟨⟨_, M_NoSuch, XF_NoSuch, (iniF_f ig_NoSuch "found" (by simp))⟩, List.forall_mem_cons.mpr ⟨⟨_, M_NoText, XF_NoText, (iniF_f ig_NoText "found" (by simp))⟩, List.forall_mem_cons.mpr ⟨⟨_, M_NoWay, XF_NoWay, (iniF_f ig_NoWay "found" (by simp))⟩, List.forall_mem_cons.mpr ⟨⟨_, M_NoWord, XF_NoWord, (iniF_f ig_NoWord "found" (by simp))⟩, List.forall_mem_cons.mpr ⟨⟨_, M_NoWorths, XF_NoWorths, (iniF_f ig_NoWorths "found" (by simp))⟩, List.forall_mem_cons.mpr ⟨⟨_, M_NoZone, XF_NoZone, (iniF_f ig_NoZone "found" (by simp))⟩, List.forall_mem_cons.mpr ⟨⟨_, M_TooMany, XF_TooMany, (iniF_f ig_TooMany "many" (by simp))⟩, fun p hp => (nomatch hp)⟩⟩⟩⟩⟩⟩⟩⟩⟩⟩⟩⟩⟩⟩⟩⟩⟩⟩⟩⟩⟩⟩⟩⟩⟩⟩⟩⟩⟩⟩⟩), nx := nxOk_of (List.forall_mem_cons.mpr ⟨⟨C_NoName, M_NoName, neC_of (xl_mro xl_NoName (by rfl)) nm_NoName_eq nm_NoName_ne⟩, fun c hc => (nomatch hc)⟩), z_dict := bltn_of X G z_dict, z_isinstance := bltn_of X G z_isinstance, z_len := bltn_of X G z_len, z_list := bltn_of X G z_list, z_max := bltn_of X G z_max, z_min := bltn_of X G z_min, z_range := bltn_of X G z_range, z_tuple := bltn_of X G z_tuple, c_Crossed := ⟨_, M_Crossed⟩, c_Deep := ⟨_, M_Deep⟩, c_Fault := ⟨_, M_Fault⟩, c_NoBase := ⟨_, M_NoBase⟩, c_NoCells := ⟨_, M_NoCells⟩, c_NoChoices := ⟨_, M_NoChoices⟩, c_NoDefinition := ⟨_, M_NoDefinition⟩, c_NoEntry := ⟨_, M_NoEntry⟩, c_NoFont := ⟨_, M_NoFont⟩, c_NoLetter := ⟨_, M_NoLetter⟩, c_NoLimit := ⟨_, M_NoLimit⟩, c_NoLine := ⟨_, M_NoLine⟩, c_NoName := ⟨_, M_NoName⟩, c_NoNumber := ⟨_, M_NoNumber⟩, c_NoOutline := ⟨_, M_NoOutline⟩, c_NoParts := ⟨_, M_NoParts⟩, c_NoPlace := ⟨_, M_NoPlace⟩, c_NoPoint := ⟨_, M_NoPoint⟩, c_NoProgram := ⟨_, M_NoProgram⟩, c_NoRound := ⟨_, M_NoRound⟩, c_NoRow := ⟨_, M_NoRow⟩, c_NoSize := ⟨_, M_NoSize⟩, c_NoSuch := ⟨_, M_NoSuch⟩, c_NoText := ⟨_, M_NoText⟩, c_NoWay := ⟨_, M_NoWay⟩, c_NoWord := ⟨_, M_NoWord⟩, c_NoWorths := ⟨_, M_NoWorths⟩, c_NoZone := ⟨_, M_NoZone⟩, c_TooMany := ⟨_, M_TooMany⟩, c_Unready := ⟨_, M_Unready⟩ }
  refine ⟨PySem.W.fnOf "law" "law" (defArgs s_law) (defBody s_law) (defScope s_law) .none kV_law dc_law pm_law an_law cd_law ct_law, fun s u => .of_eq rfl, fun base Kb Gb sm => ?_⟩
  have F_Crossed := fun_mk (st := inClass (topS 24) 0) il_Crossed (iniF_c ig_Crossed) (iniF_k ig_Crossed)
  have O_Crossed : FnOk l.prog w K mg base CX0 1 I_Crossed _ ["self", "one", "other"] (spGx K "ValueError.__init__" ["other", "one"]) := xo_Crossed B_FontError F_Crossed
  have Q_Crossed_k_other_one : OxkG l.prog w K mg base "Crossed" ["other", "one"] 0 ["other", "one"] [1, 0] := xq_Crossed_k_other_one M_Crossed X_Crossed ii_Crossed (iniF_t ig_Crossed) F_Crossed O_Crossed (List.forall_mem_cons.mpr ⟨(iniF_f ig_Crossed "other" (by simp)), List.forall_mem_cons.mpr ⟨(iniF_f ig_Crossed "one" (by simp)), fun f hf => (nomatch hf)⟩⟩)
  have Q_Crossed_p2 : OxkG l.prog w K mg base "Crossed" ["other", "one"] 2 [] [0, 1] := xq_Crossed_p2 M_Crossed X_Crossed ii_Crossed (iniF_t ig_Crossed) F_Crossed O_Crossed (List.forall_mem_cons.mpr ⟨(iniF_f ig_Crossed "other" (by simp)), List.forall_mem_cons.mpr ⟨(iniF_f ig_Crossed "one" (by simp)), fun f hf => (nomatch hf)⟩⟩)
  have F_Deep := fun_mk (st := inClass (topS 26) 0) il_Deep (iniF_c ig_Deep) (iniF_k ig_Deep)
  have O_Deep : FnOk l.prog w K mg base CX0 1 I_Deep _ ["self", "at"] (spGx K "ValueError.__init__" ["at"]) := xo_Deep B_FontError F_Deep
  have Q_Deep_k_at : OxkG l.prog w K mg base "Deep" ["at"] 0 ["at"] [0] := xq_Deep_k_at M_Deep X_Deep ii_Deep (iniF_t ig_Deep) F_Deep O_Deep (List.forall_mem_cons.mpr ⟨(iniF_f ig_Deep "at" (by simp)), fun f hf => (nomatch hf)⟩)
  have Q_Deep_p1 : OxkG l.prog w K mg base "Deep" ["at"] 1 [] [0] := xq_Deep_p1 M_Deep X_Deep ii_Deep (iniF_t ig_Deep) F_Deep O_Deep (List.forall_mem_cons.mpr ⟨(iniF_f ig_Deep "at" (by simp)), fun f hf => (nomatch hf)⟩)
  have F_Fault := fun_mk (st := inClass (topS 28) 0) il_Fault (iniF_c ig_Fault) (iniF_k ig_Fault)
  have O_Fault : FnOk l.prog w K mg base CX0 1 I_Fault _ ["self", "done", "why"] (spGx K "ValueError.__init__" ["why", "done"]) := xo_Fault B_FontError F_Fault
  have Q_Fault_k_why_done : OxkG l.prog w K mg base "Fault" ["why", "done"] 0 ["why", "done"] [1, 0] := xq_Fault_k_why_done M_Fault X_Fault ii_Fault (iniF_t ig_Fault) F_Fault O_Fault (List.forall_mem_cons.mpr ⟨(iniF_f ig_Fault "why" (by simp)), List.forall_mem_cons.mpr ⟨(iniF_f ig_Fault "done" (by simp)), fun f hf => (nomatch hf)⟩⟩)
  have Q_Fault_p2 : OxkG l.prog w K mg base "Fault" ["why", "done"] 2 [] [0, 1] := xq_Fault_p2 M_Fault X_Fault ii_Fault (iniF_t ig_Fault) F_Fault O_Fault (List.forall_mem_cons.mpr ⟨(iniF_f ig_Fault "why" (by simp)), List.forall_mem_cons.mpr ⟨(iniF_f ig_Fault "done" (by simp)), fun f hf => (nomatch hf)⟩⟩)
  have F_NoBase := fun_mk (st := inClass (topS 33) 0) il_NoBase (iniF_c ig_NoBase) (iniF_k ig_NoBase)
  have O_NoBase : FnOk l.prog w K mg base CX0 1 I_NoBase _ ["self", "found"] (spGx K "ZeroDivisionError.__init__" ["found"]) := xo_NoBase (bltn_of X G z_ZeroDivisionError) bz F_NoBase
  have Q_NoBase_k_found : OxkG l.prog w K mg base "NoBase" ["found"] 0 ["found"] [0] := xq_NoBase_k_found M_NoBase X_NoBase ii_NoBase (iniF_t ig_NoBase) F_NoBase O_NoBase (List.forall_mem_cons.mpr ⟨(iniF_f ig_NoBase "found" (by simp)), fun f hf => (nomatch hf)⟩)
  have Q_NoBase_p1 : OxkG l.prog w K mg base "NoBase" ["found"] 1 [] [0] := xq_NoBase_p1 M_NoBase X_NoBase ii_NoBase (iniF_t ig_NoBase) F_NoBase O_NoBase (List.forall_mem_cons.mpr ⟨(iniF_f ig_NoBase "found" (by simp)), fun f hf => (nomatch hf)⟩)
  have F_NoCells := fun_mk (st := inClass (topS 20) 0) il_NoCells (iniF_c ig_NoCells) (iniF_k ig_NoCells)
  have O_NoCells : FnOk l.prog w K mg base CX0 1 I_NoCells _ ["self", "found"] (spGx K "ValueError.__init__" ["found"]) := xo_NoCells B_FontError F_NoCells
  have Q_NoCells_k_found : OxkG l.prog w K mg base "NoCells" ["found"] 0 ["found"] [0] := xq_NoCells_k_found M_NoCells X_NoCells ii_NoCells (iniF_t ig_NoCells) F_NoCells O_NoCells (List.forall_mem_cons.mpr ⟨(iniF_f ig_NoCells "found" (by simp)), fun f hf => (nomatch hf)⟩)
  have Q_NoCells_p1 : OxkG l.prog w K mg base "NoCells" ["found"] 1 [] [0] := xq_NoCells_p1 M_NoCells X_NoCells ii_NoCells (iniF_t ig_NoCells) F_NoCells O_NoCells (List.forall_mem_cons.mpr ⟨(iniF_f ig_NoCells "found" (by simp)), fun f hf => (nomatch hf)⟩)
  have F_NoChoices := fun_mk (st := inClass (topS 21) 0) il_NoChoices (iniF_c ig_NoChoices) (iniF_k ig_NoChoices)
  have O_NoChoices : FnOk l.prog w K mg base CX0 1 I_NoChoices _ ["self", "found"] (spGx K "ValueError.__init__" ["found"]) := xo_NoChoices B_FontError F_NoChoices
  have Q_NoChoices_k_found : OxkG l.prog w K mg base "NoChoices" ["found"] 0 ["found"] [0] := xq_NoChoices_k_found M_NoChoices X_NoChoices ii_NoChoices (iniF_t ig_NoChoices) F_NoChoices O_NoChoices (List.forall_mem_cons.mpr ⟨(iniF_f ig_NoChoices "found" (by simp)), fun f hf => (nomatch hf)⟩)
  have Q_NoChoices_p1 : OxkG l.prog w K mg base "NoChoices" ["found"] 1 [] [0] := xq_NoChoices_p1 M_NoChoices X_NoChoices ii_NoChoices (iniF_t ig_NoChoices) F_NoChoices O_NoChoices (List.forall_mem_cons.mpr ⟨(iniF_f ig_NoChoices "found" (by simp)), fun f hf => (nomatch hf)⟩)
  have F_NoDefinition := fun_mk (st := inClass (topS 31) 0) il_NoDefinition (iniF_c ig_NoDefinition) (iniF_k ig_NoDefinition)
  have O_NoDefinition : FnOk l.prog w K mg base CX0 1 I_NoDefinition _ ["self", "found"] (spGx K "KeyError.__init__" ["found"]) := xo_NoDefinition B_Unknown F_NoDefinition
  have Q_NoDefinition_k_found : OxkG l.prog w K mg base "NoDefinition" ["found"] 0 ["found"] [0] := xq_NoDefinition_k_found M_NoDefinition X_NoDefinition ii_NoDefinition (iniF_t ig_NoDefinition) F_NoDefinition O_NoDefinition (List.forall_mem_cons.mpr ⟨(iniF_f ig_NoDefinition "found" (by simp)), fun f hf => (nomatch hf)⟩)
  have Q_NoDefinition_p1 : OxkG l.prog w K mg base "NoDefinition" ["found"] 1 [] [0] := xq_NoDefinition_p1 M_NoDefinition X_NoDefinition ii_NoDefinition (iniF_t ig_NoDefinition) F_NoDefinition O_NoDefinition (List.forall_mem_cons.mpr ⟨(iniF_f ig_NoDefinition "found" (by simp)), fun f hf => (nomatch hf)⟩)
  have F_NoEntry := fun_mk (st := inClass (topS 29) 0) il_NoEntry (iniF_c ig_NoEntry) (iniF_k ig_NoEntry)
  have O_NoEntry : FnOk l.prog w K mg base CX0 1 I_NoEntry _ ["self", "found"] (spGx K "LookupError.__init__" ["found"]) := xo_NoEntry B_Missing F_NoEntry
  have Q_NoEntry_k_found : OxkG l.prog w K mg base "NoEntry" ["found"] 0 ["found"] [0] := xq_NoEntry_k_found M_NoEntry X_NoEntry ii_NoEntry (iniF_t ig_NoEntry) F_NoEntry O_NoEntry (List.forall_mem_cons.mpr ⟨(iniF_f ig_NoEntry "found" (by simp)), fun f hf => (nomatch hf)⟩)
  have Q_NoEntry_p1 : OxkG l.prog w K mg base "NoEntry" ["found"] 1 [] [0] := xq_NoEntry_p1 M_NoEntry X_NoEntry ii_NoEntry (iniF_t ig_NoEntry) F_NoEntry O_NoEntry (List.forall_mem_cons.mpr ⟨(iniF_f ig_NoEntry "found" (by simp)), fun f hf => (nomatch hf)⟩)
  have F_NoFont := fun_mk (st := inClass (topS 14) 0) il_NoFont (iniF_c ig_NoFont) (iniF_k ig_NoFont)
  have O_NoFont : FnOk l.prog w K mg base CX0 1 I_NoFont _ ["self", "found"] (spGx K "ValueError.__init__" ["found"]) := xo_NoFont B_FontError F_NoFont
  have Q_NoFont_k_found : OxkG l.prog w K mg base "NoFont" ["found"] 0 ["found"] [0] := xq_NoFont_k_found M_NoFont X_NoFont ii_NoFont (iniF_t ig_NoFont) F_NoFont O_NoFont (List.forall_mem_cons.mpr ⟨(iniF_f ig_NoFont "found" (by simp)), fun f hf => (nomatch hf)⟩)
  have Q_NoFont_p1 : OxkG l.prog w K mg base "NoFont" ["found"] 1 [] [0] := xq_NoFont_p1 M_NoFont X_NoFont ii_NoFont (iniF_t ig_NoFont) F_NoFont O_NoFont (List.forall_mem_cons.mpr ⟨(iniF_f ig_NoFont "found" (by simp)), fun f hf => (nomatch hf)⟩)
  have F_NoLetter := fun_mk (st := inClass (topS 16) 0) il_NoLetter (iniF_c ig_NoLetter) (iniF_k ig_NoLetter)
  have O_NoLetter : FnOk l.prog w K mg base CX0 1 I_NoLetter _ ["self", "found"] (spGx K "ValueError.__init__" ["found"]) := xo_NoLetter B_FontError F_NoLetter
  have Q_NoLetter_k_found : OxkG l.prog w K mg base "NoLetter" ["found"] 0 ["found"] [0] := xq_NoLetter_k_found M_NoLetter X_NoLetter ii_NoLetter (iniF_t ig_NoLetter) F_NoLetter O_NoLetter (List.forall_mem_cons.mpr ⟨(iniF_f ig_NoLetter "found" (by simp)), fun f hf => (nomatch hf)⟩)
  have Q_NoLetter_p1 : OxkG l.prog w K mg base "NoLetter" ["found"] 1 [] [0] := xq_NoLetter_p1 M_NoLetter X_NoLetter ii_NoLetter (iniF_t ig_NoLetter) F_NoLetter O_NoLetter (List.forall_mem_cons.mpr ⟨(iniF_f ig_NoLetter "found" (by simp)), fun f hf => (nomatch hf)⟩)
  have F_NoLimit := fun_mk (st := inClass (topS 23) 0) il_NoLimit (iniF_c ig_NoLimit) (iniF_k ig_NoLimit)
  have O_NoLimit : FnOk l.prog w K mg base CX0 1 I_NoLimit _ ["self", "found"] (spGx K "ValueError.__init__" ["found"]) := xo_NoLimit B_FontError F_NoLimit
  have Q_NoLimit_k_found : OxkG l.prog w K mg base "NoLimit" ["found"] 0 ["found"] [0] := xq_NoLimit_k_found M_NoLimit X_NoLimit ii_NoLimit (iniF_t ig_NoLimit) F_NoLimit O_NoLimit (List.forall_mem_cons.mpr ⟨(iniF_f ig_NoLimit "found" (by simp)), fun f hf => (nomatch hf)⟩)
  have Q_NoLimit_p1 : OxkG l.prog w K mg base "NoLimit" ["found"] 1 [] [0] := xq_NoLimit_p1 M_NoLimit X_NoLimit ii_NoLimit (iniF_t ig_NoLimit) F_NoLimit O_NoLimit (List.forall_mem_cons.mpr ⟨(iniF_f ig_NoLimit "found" (by simp)), fun f hf => (nomatch hf)⟩)
  have F_NoLine := fun_mk (st := inClass (topS 22) 0) il_NoLine (iniF_c ig_NoLine) (iniF_k ig_NoLine)
  have O_NoLine : FnOk l.prog w K mg base CX0 1 I_NoLine _ ["self", "found"] (spGx K "ValueError.__init__" ["found"]) := xo_NoLine B_FontError F_NoLine
  have Q_NoLine_k_found : OxkG l.prog w K mg base "NoLine" ["found"] 0 ["found"] [0] := xq_NoLine_k_found M_NoLine X_NoLine ii_NoLine (iniF_t ig_NoLine) F_NoLine O_NoLine (List.forall_mem_cons.mpr ⟨(iniF_f ig_NoLine "found" (by simp)), fun f hf => (nomatch hf)⟩)
  have Q_NoLine_p1 : OxkG l.prog w K mg base "NoLine" ["found"] 1 [] [0] := xq_NoLine_p1 M_NoLine X_NoLine ii_NoLine (iniF_t ig_NoLine) F_NoLine O_NoLine (List.forall_mem_cons.mpr ⟨(iniF_f ig_NoLine "found" (by simp)), fun f hf => (nomatch hf)⟩)
  have F_NoName := fun_mk (st := inClass (topS 5) 0) il_NoName (iniF_c ig_NoName) (iniF_k ig_NoName)
  have O_NoName : FnOk l.prog w K mg base CX0 1 I_NoName _ ["self", "found"] (spGx K "ValueError.__init__" ["found"]) := xo_NoName B_FontError F_NoName
  have Q_NoName_k_found : OxkG l.prog w K mg base "NoName" ["found"] 0 ["found"] [0] := xq_NoName_k_found M_NoName X_NoName ii_NoName (iniF_t ig_NoName) F_NoName O_NoName (List.forall_mem_cons.mpr ⟨(iniF_f ig_NoName "found" (by simp)), fun f hf => (nomatch hf)⟩)
  have Q_NoName_p1 : OxkG l.prog w K mg base "NoName" ["found"] 1 [] [0] := xq_NoName_p1 M_NoName X_NoName ii_NoName (iniF_t ig_NoName) F_NoName O_NoName (List.forall_mem_cons.mpr ⟨(iniF_f ig_NoName "found" (by simp)), fun f hf => (nomatch hf)⟩)
  have F_NoNumber := fun_mk (st := inClass (topS 4) 0) il_NoNumber (iniF_c ig_NoNumber) (iniF_k ig_NoNumber)
  have O_NoNumber : FnOk l.prog w K mg base CX0 1 I_NoNumber _ ["self", "found"] (spGx K "ValueError.__init__" ["found"]) := xo_NoNumber B_FontError F_NoNumber
  have Q_NoNumber_k_found : OxkG l.prog w K mg base "NoNumber" ["found"] 0 ["found"] [0] := xq_NoNumber_k_found M_NoNumber X_NoNumber ii_NoNumber (iniF_t ig_NoNumber) F_NoNumber O_NoNumber (List.forall_mem_cons.mpr ⟨(iniF_f ig_NoNumber "found" (by simp)), fun f hf => (nomatch hf)⟩)
  have Q_NoNumber_p1 : OxkG l.prog w K mg base "NoNumber" ["found"] 1 [] [0] := xq_NoNumber_p1 M_NoNumber X_NoNumber ii_NoNumber (iniF_t ig_NoNumber) F_NoNumber O_NoNumber (List.forall_mem_cons.mpr ⟨(iniF_f ig_NoNumber "found" (by simp)), fun f hf => (nomatch hf)⟩)
  have F_NoOutline := fun_mk (st := inClass (topS 10) 0) il_NoOutline (iniF_c ig_NoOutline) (iniF_k ig_NoOutline)
  have O_NoOutline : FnOk l.prog w K mg base CX0 1 I_NoOutline _ ["self", "found"] (spGx K "ValueError.__init__" ["found"]) := xo_NoOutline B_FontError F_NoOutline
  have Q_NoOutline_k_found : OxkG l.prog w K mg base "NoOutline" ["found"] 0 ["found"] [0] := xq_NoOutline_k_found M_NoOutline X_NoOutline ii_NoOutline (iniF_t ig_NoOutline) F_NoOutline O_NoOutline (List.forall_mem_cons.mpr ⟨(iniF_f ig_NoOutline "found" (by simp)), fun f hf => (nomatch hf)⟩)
  have Q_NoOutline_p1 : OxkG l.prog w K mg base "NoOutline" ["found"] 1 [] [0] := xq_NoOutline_p1 M_NoOutline X_NoOutline ii_NoOutline (iniF_t ig_NoOutline) F_NoOutline O_NoOutline (List.forall_mem_cons.mpr ⟨(iniF_f ig_NoOutline "found" (by simp)), fun f hf => (nomatch hf)⟩)
  have F_NoParts := fun_mk (st := inClass (topS 17) 0) il_NoParts (iniF_c ig_NoParts) (iniF_k ig_NoParts)
  have O_NoParts : FnOk l.prog w K mg base CX0 1 I_NoParts _ ["self", "found"] (spGx K "ValueError.__init__" ["found"]) := xo_NoParts B_FontError F_NoParts
  have Q_NoParts_k_found : OxkG l.prog w K mg base "NoParts" ["found"] 0 ["found"] [0] := xq_NoParts_k_found M_NoParts X_NoParts ii_NoParts (iniF_t ig_NoParts) F_NoParts O_NoParts (List.forall_mem_cons.mpr ⟨(iniF_f ig_NoParts "found" (by simp)), fun f hf => (nomatch hf)⟩)
  have Q_NoParts_p1 : OxkG l.prog w K mg base "NoParts" ["found"] 1 [] [0] := xq_NoParts_p1 M_NoParts X_NoParts ii_NoParts (iniF_t ig_NoParts) F_NoParts O_NoParts (List.forall_mem_cons.mpr ⟨(iniF_f ig_NoParts "found" (by simp)), fun f hf => (nomatch hf)⟩)
  have F_NoPlace := fun_mk (st := inClass (topS 7) 0) il_NoPlace (iniF_c ig_NoPlace) (iniF_k ig_NoPlace)
  have O_NoPlace : FnOk l.prog w K mg base CX0 1 I_NoPlace _ ["self", "found"] (spGx K "ValueError.__init__" ["found"]) := xo_NoPlace B_FontError F_NoPlace
  have Q_NoPlace_k_found : OxkG l.prog w K mg base "NoPlace" ["found"] 0 ["found"] [0] := xq_NoPlace_k_found M_NoPlace X_NoPlace ii_NoPlace (iniF_t ig_NoPlace) F_NoPlace O_NoPlace (List.forall_mem_cons.mpr ⟨(iniF_f ig_NoPlace "found" (by simp)), fun f hf => (nomatch hf)⟩)
  have Q_NoPlace_p1 : OxkG l.prog w K mg base "NoPlace" ["found"] 1 [] [0] := xq_NoPlace_p1 M_NoPlace X_NoPlace ii_NoPlace (iniF_t ig_NoPlace) F_NoPlace O_NoPlace (List.forall_mem_cons.mpr ⟨(iniF_f ig_NoPlace "found" (by simp)), fun f hf => (nomatch hf)⟩)
  have F_NoPoint := fun_mk (st := inClass (topS 11) 0) il_NoPoint (iniF_c ig_NoPoint) (iniF_k ig_NoPoint)
  have O_NoPoint : FnOk l.prog w K mg base CX0 1 I_NoPoint _ ["self", "found"] (spGx K "ValueError.__init__" ["found"]) := xo_NoPoint B_FontError F_NoPoint
  have Q_NoPoint_k_found : OxkG l.prog w K mg base "NoPoint" ["found"] 0 ["found"] [0] := xq_NoPoint_k_found M_NoPoint X_NoPoint ii_NoPoint (iniF_t ig_NoPoint) F_NoPoint O_NoPoint (List.forall_mem_cons.mpr ⟨(iniF_f ig_NoPoint "found" (by simp)), fun f hf => (nomatch hf)⟩)
  have Q_NoPoint_p1 : OxkG l.prog w K mg base "NoPoint" ["found"] 1 [] [0] := xq_NoPoint_p1 M_NoPoint X_NoPoint ii_NoPoint (iniF_t ig_NoPoint) F_NoPoint O_NoPoint (List.forall_mem_cons.mpr ⟨(iniF_f ig_NoPoint "found" (by simp)), fun f hf => (nomatch hf)⟩)
  have F_NoProgram := fun_mk (st := inClass (topS 12) 0) il_NoProgram (iniF_c ig_NoProgram) (iniF_k ig_NoProgram)
  have O_NoProgram : FnOk l.prog w K mg base CX0 1 I_NoProgram _ ["self", "found"] (spGx K "ValueError.__init__" ["found"]) := xo_NoProgram B_FontError F_NoProgram
  have Q_NoProgram_k_found : OxkG l.prog w K mg base "NoProgram" ["found"] 0 ["found"] [0] := xq_NoProgram_k_found M_NoProgram X_NoProgram ii_NoProgram (iniF_t ig_NoProgram) F_NoProgram O_NoProgram (List.forall_mem_cons.mpr ⟨(iniF_f ig_NoProgram "found" (by simp)), fun f hf => (nomatch hf)⟩)
  have Q_NoProgram_p1 : OxkG l.prog w K mg base "NoProgram" ["found"] 1 [] [0] := xq_NoProgram_p1 M_NoProgram X_NoProgram ii_NoProgram (iniF_t ig_NoProgram) F_NoProgram O_NoProgram (List.forall_mem_cons.mpr ⟨(iniF_f ig_NoProgram "found" (by simp)), fun f hf => (nomatch hf)⟩)
  have F_NoRound := fun_mk (st := inClass (topS 9) 0) il_NoRound (iniF_c ig_NoRound) (iniF_k ig_NoRound)
  have O_NoRound : FnOk l.prog w K mg base CX0 1 I_NoRound _ ["self", "found"] (spGx K "ValueError.__init__" ["found"]) := xo_NoRound B_FontError F_NoRound
  have Q_NoRound_k_found : OxkG l.prog w K mg base "NoRound" ["found"] 0 ["found"] [0] := xq_NoRound_k_found M_NoRound X_NoRound ii_NoRound (iniF_t ig_NoRound) F_NoRound O_NoRound (List.forall_mem_cons.mpr ⟨(iniF_f ig_NoRound "found" (by simp)), fun f hf => (nomatch hf)⟩)
  have Q_NoRound_p1 : OxkG l.prog w K mg base "NoRound" ["found"] 1 [] [0] := xq_NoRound_p1 M_NoRound X_NoRound ii_NoRound (iniF_t ig_NoRound) F_NoRound O_NoRound (List.forall_mem_cons.mpr ⟨(iniF_f ig_NoRound "found" (by simp)), fun f hf => (nomatch hf)⟩)
  have F_NoRow := fun_mk (st := inClass (topS 27) 0) il_NoRow (iniF_c ig_NoRow) (iniF_k ig_NoRow)
  have O_NoRow : FnOk l.prog w K mg base CX0 1 I_NoRow _ ["self", "at"] (spGx K "ValueError.__init__" ["at"]) := xo_NoRow B_FontError F_NoRow
  have Q_NoRow_k_at : OxkG l.prog w K mg base "NoRow" ["at"] 0 ["at"] [0] := xq_NoRow_k_at M_NoRow X_NoRow ii_NoRow (iniF_t ig_NoRow) F_NoRow O_NoRow (List.forall_mem_cons.mpr ⟨(iniF_f ig_NoRow "at" (by simp)), fun f hf => (nomatch hf)⟩)
  have Q_NoRow_p1 : OxkG l.prog w K mg base "NoRow" ["at"] 1 [] [0] := xq_NoRow_p1 M_NoRow X_NoRow ii_NoRow (iniF_t ig_NoRow) F_NoRow O_NoRow (List.forall_mem_cons.mpr ⟨(iniF_f ig_NoRow "at" (by simp)), fun f hf => (nomatch hf)⟩)
  have F_NoSize := fun_mk (st := inClass (topS 18) 0) il_NoSize (iniF_c ig_NoSize) (iniF_k ig_NoSize)
  have O_NoSize : FnOk l.prog w K mg base CX0 1 I_NoSize _ ["self", "found"] (spGx K "ValueError.__init__" ["found"]) := xo_NoSize B_FontError F_NoSize
  have Q_NoSize_k_found : OxkG l.prog w K mg base "NoSize" ["found"] 0 ["found"] [0] := xq_NoSize_k_found M_NoSize X_NoSize ii_NoSize (iniF_t ig_NoSize) F_NoSize O_NoSize (List.forall_mem_cons.mpr ⟨(iniF_f ig_NoSize "found" (by simp)), fun f hf => (nomatch hf)⟩)
  have Q_NoSize_p1 : OxkG l.prog w K mg base "NoSize" ["found"] 1 [] [0] := xq_NoSize_p1 M_NoSize X_NoSize ii_NoSize (iniF_t ig_NoSize) F_NoSize O_NoSize (List.forall_mem_cons.mpr ⟨(iniF_f ig_NoSize "found" (by simp)), fun f hf => (nomatch hf)⟩)
  have F_NoSuch := fun_mk (st := inClass (topS 32) 0) il_NoSuch (iniF_c ig_NoSuch) (iniF_k ig_NoSuch)
  have O_NoSuch : FnOk l.prog w K mg base CX0 1 I_NoSuch _ ["self", "found"] (spGx K "KeyError.__init__" ["found"]) := xo_NoSuch B_Unknown F_NoSuch
  have Q_NoSuch_k_found : OxkG l.prog w K mg base "NoSuch" ["found"] 0 ["found"] [0] := xq_NoSuch_k_found M_NoSuch X_NoSuch ii_NoSuch (iniF_t ig_NoSuch) F_NoSuch O_NoSuch (List.forall_mem_cons.mpr ⟨(iniF_f ig_NoSuch "found" (by simp)), fun f hf => (nomatch hf)⟩)
  have Q_NoSuch_p1 : OxkG l.prog w K mg base "NoSuch" ["found"] 1 [] [0] := xq_NoSuch_p1 M_NoSuch X_NoSuch ii_NoSuch (iniF_t ig_NoSuch) F_NoSuch O_NoSuch (List.forall_mem_cons.mpr ⟨(iniF_f ig_NoSuch "found" (by simp)), fun f hf => (nomatch hf)⟩)
  have F_NoText := fun_mk (st := inClass (topS 6) 0) il_NoText (iniF_c ig_NoText) (iniF_k ig_NoText)
  have O_NoText : FnOk l.prog w K mg base CX0 1 I_NoText _ ["self", "found"] (spGx K "ValueError.__init__" ["found"]) := xo_NoText B_FontError F_NoText
  have Q_NoText_k_found : OxkG l.prog w K mg base "NoText" ["found"] 0 ["found"] [0] := xq_NoText_k_found M_NoText X_NoText ii_NoText (iniF_t ig_NoText) F_NoText O_NoText (List.forall_mem_cons.mpr ⟨(iniF_f ig_NoText "found" (by simp)), fun f hf => (nomatch hf)⟩)
  have Q_NoText_p1 : OxkG l.prog w K mg base "NoText" ["found"] 1 [] [0] := xq_NoText_p1 M_NoText X_NoText ii_NoText (iniF_t ig_NoText) F_NoText O_NoText (List.forall_mem_cons.mpr ⟨(iniF_f ig_NoText "found" (by simp)), fun f hf => (nomatch hf)⟩)
  have F_NoWay := fun_mk (st := inClass (topS 8) 0) il_NoWay (iniF_c ig_NoWay) (iniF_k ig_NoWay)
  have O_NoWay : FnOk l.prog w K mg base CX0 1 I_NoWay _ ["self", "found"] (spGx K "ValueError.__init__" ["found"]) := xo_NoWay B_FontError F_NoWay
  have Q_NoWay_k_found : OxkG l.prog w K mg base "NoWay" ["found"] 0 ["found"] [0] := xq_NoWay_k_found M_NoWay X_NoWay ii_NoWay (iniF_t ig_NoWay) F_NoWay O_NoWay (List.forall_mem_cons.mpr ⟨(iniF_f ig_NoWay "found" (by simp)), fun f hf => (nomatch hf)⟩)
  have Q_NoWay_p1 : OxkG l.prog w K mg base "NoWay" ["found"] 1 [] [0] := xq_NoWay_p1 M_NoWay X_NoWay ii_NoWay (iniF_t ig_NoWay) F_NoWay O_NoWay (List.forall_mem_cons.mpr ⟨(iniF_f ig_NoWay "found" (by simp)), fun f hf => (nomatch hf)⟩)
  have F_NoWord := fun_mk (st := inClass (topS 13) 0) il_NoWord (iniF_c ig_NoWord) (iniF_k ig_NoWord)
  have O_NoWord : FnOk l.prog w K mg base CX0 1 I_NoWord _ ["self", "found"] (spGx K "ValueError.__init__" ["found"]) := xo_NoWord B_FontError F_NoWord
  have Q_NoWord_k_found : OxkG l.prog w K mg base "NoWord" ["found"] 0 ["found"] [0] := xq_NoWord_k_found M_NoWord X_NoWord ii_NoWord (iniF_t ig_NoWord) F_NoWord O_NoWord (List.forall_mem_cons.mpr ⟨(iniF_f ig_NoWord "found" (by simp)), fun f hf => (nomatch hf)⟩)
  have Q_NoWord_p1 : OxkG l.prog w K mg base "NoWord" ["found"] 1 [] [0] := xq_NoWord_p1 M_NoWord X_NoWord ii_NoWord (iniF_t ig_NoWord) F_NoWord O_NoWord (List.forall_mem_cons.mpr ⟨(iniF_f ig_NoWord "found" (by simp)), fun f hf => (nomatch hf)⟩)
  have F_NoWorths := fun_mk (st := inClass (topS 15) 0) il_NoWorths (iniF_c ig_NoWorths) (iniF_k ig_NoWorths)
  have O_NoWorths : FnOk l.prog w K mg base CX0 1 I_NoWorths _ ["self", "found"] (spGx K "ValueError.__init__" ["found"]) := xo_NoWorths B_FontError F_NoWorths
  have Q_NoWorths_k_found : OxkG l.prog w K mg base "NoWorths" ["found"] 0 ["found"] [0] := xq_NoWorths_k_found M_NoWorths X_NoWorths ii_NoWorths (iniF_t ig_NoWorths) F_NoWorths O_NoWorths (List.forall_mem_cons.mpr ⟨(iniF_f ig_NoWorths "found" (by simp)), fun f hf => (nomatch hf)⟩)
  have Q_NoWorths_p1 : OxkG l.prog w K mg base "NoWorths" ["found"] 1 [] [0] := xq_NoWorths_p1 M_NoWorths X_NoWorths ii_NoWorths (iniF_t ig_NoWorths) F_NoWorths O_NoWorths (List.forall_mem_cons.mpr ⟨(iniF_f ig_NoWorths "found" (by simp)), fun f hf => (nomatch hf)⟩)
  have F_NoZone := fun_mk (st := inClass (topS 19) 0) il_NoZone (iniF_c ig_NoZone) (iniF_k ig_NoZone)
  have O_NoZone : FnOk l.prog w K mg base CX0 1 I_NoZone _ ["self", "found"] (spGx K "ValueError.__init__" ["found"]) := xo_NoZone B_FontError F_NoZone
  have Q_NoZone_k_found : OxkG l.prog w K mg base "NoZone" ["found"] 0 ["found"] [0] := xq_NoZone_k_found M_NoZone X_NoZone ii_NoZone (iniF_t ig_NoZone) F_NoZone O_NoZone (List.forall_mem_cons.mpr ⟨(iniF_f ig_NoZone "found" (by simp)), fun f hf => (nomatch hf)⟩)
  have Q_NoZone_p1 : OxkG l.prog w K mg base "NoZone" ["found"] 1 [] [0] := xq_NoZone_p1 M_NoZone X_NoZone ii_NoZone (iniF_t ig_NoZone) F_NoZone O_NoZone (List.forall_mem_cons.mpr ⟨(iniF_f ig_NoZone "found" (by simp)), fun f hf => (nomatch hf)⟩)
  have F_TooMany := fun_mk (st := inClass (topS 25) 0) il_TooMany (iniF_c ig_TooMany) (iniF_k ig_TooMany)
  have O_TooMany : FnOk l.prog w K mg base CX0 1 I_TooMany _ ["self", "many"] (spGx K "ValueError.__init__" ["many"]) := xo_TooMany B_FontError F_TooMany
  have Q_TooMany_k_many : OxkG l.prog w K mg base "TooMany" ["many"] 0 ["many"] [0] := xq_TooMany_k_many M_TooMany X_TooMany ii_TooMany (iniF_t ig_TooMany) F_TooMany O_TooMany (List.forall_mem_cons.mpr ⟨(iniF_f ig_TooMany "many" (by simp)), fun f hf => (nomatch hf)⟩)
  have Q_TooMany_p1 : OxkG l.prog w K mg base "TooMany" ["many"] 1 [] [0] := xq_TooMany_p1 M_TooMany X_TooMany ii_TooMany (iniF_t ig_TooMany) F_TooMany O_TooMany (List.forall_mem_cons.mpr ⟨(iniF_f ig_TooMany "many" (by simp)), fun f hf => (nomatch hf)⟩)
  have F_Unready := fun_mk (st := inClass (topS 30) 0) il_Unready (iniF_c ig_Unready) (iniF_k ig_Unready)
  have O_Unready : FnOk l.prog w K mg base CX0 1 I_Unready _ ["self"] (spGx K "LookupError.__init__" []) := xo_Unready B_Missing F_Unready
  have Q_Unready_p0 : OxkG l.prog w K mg base "Unready" [] 0 [] [] := xq_Unready_p0 M_Unready X_Unready ii_Unready (iniF_t ig_Unready) F_Unready O_Unready (fun f hf => (nomatch hf))
  have O__law_cell := ok__law_cell (P := l.prog) (w := w) (base := base) T D__law_cell sm 
  have O__law_box := ok__law_box (P := l.prog) (w := w) (base := base) T D__law_box sm 
  have O__law_take := ok__law_take (P := l.prog) (w := w) (base := base) T D__law_take sm 
  have O__law_kinds := ok__law_kinds (P := l.prog) (w := w) (base := base) T D__law_kinds sm 
  have O__law_made := ok__law_made (P := l.prog) (w := w) (base := base) T D__law_made sm Q_Crossed_p2 Q_Deep_p1 Q_Fault_p2 Q_NoBase_p1 Q_NoCells_p1 Q_NoChoices_p1 Q_NoDefinition_p1 Q_NoEntry_p1 Q_NoFont_p1 Q_NoLetter_p1 Q_NoLimit_p1 Q_NoLine_p1 Q_NoName_p1 Q_NoNumber_p1 Q_NoOutline_p1 Q_NoParts_p1 Q_NoPlace_p1 Q_NoPoint_p1 Q_NoProgram_p1 Q_NoRound_p1 Q_NoRow_p1 Q_NoSize_p1 Q_NoSuch_p1 Q_NoText_p1 Q_NoWay_p1 Q_NoWord_p1 Q_NoWorths_p1 Q_NoZone_p1 Q_TooMany_p1 Q_Unready_p0
  have O__law_named := ok__law_named (P := l.prog) (w := w) (base := base) T D__law_named sm Q_Crossed_k_other_one Q_Deep_k_at Q_Fault_k_why_done Q_NoBase_k_found Q_NoCells_k_found Q_NoChoices_k_found Q_NoDefinition_k_found Q_NoEntry_k_found Q_NoFont_k_found Q_NoLetter_k_found Q_NoLimit_k_found Q_NoLine_k_found Q_NoName_k_found Q_NoNumber_k_found Q_NoOutline_k_found Q_NoParts_k_found Q_NoPlace_k_found Q_NoPoint_k_found Q_NoProgram_k_found Q_NoRound_k_found Q_NoRow_k_at Q_NoSize_k_found Q_NoSuch_k_found Q_NoText_k_found Q_NoWay_k_found Q_NoWord_k_found Q_NoWorths_k_found Q_NoZone_k_found Q_TooMany_k_many Q_Unready_p0
  have O__law_fields := ok__law_fields (P := l.prog) (w := w) (base := base) T D__law_fields sm 
  have O__law_grown := ok__law_grown (P := l.prog) (w := w) (base := base) T D__law_grown sm 
  have O__law_text := ok__law_text (P := l.prog) (w := w) (base := base) T D__law_text sm O__law_take
  have O__law_thing := ok__law_thing (P := l.prog) (w := w) (base := base) T D__law_thing sm O__law_take O__law_text Q_NoName_p1
  have O__law_right := ok__law_right (P := l.prog) (w := w) (base := base) T D__law_right sm O__law_fields O__law_grown O__law_kinds O__law_made O__law_named
  exact fn_law T D_law sm O__law_box O__law_cell O__law_right O__law_thing
end L_k13
open PySem PySem.W PyProof.Rows
set_option maxHeartbeats 0 in
theorem PySem.Challenge.cw_hintedpoints_k13_refusals_by_names_holds : PySem.Challenge.rw_hintedpoints_k13_refusals_by_names.Holds := by
  w_on; o_law; k_headL; (case hw => w_witness2)
  as_aux_lemma =>
  k_fill
  refine DL.walkD (l := PySem.Challenge.rw_hintedpoints_k13_refusals_by_names) (n := 63) (k := 5) (x := "_law_script") (sp := L_k13.sp_law) rfl (by decide) rfl ⟨rfl, by decide, by decide⟩ (by decide +kernel) (fun w h Y => PySem.W.kIn_of Y) ?F L_k13.law_true
  case F =>
    intro w mg fa h KX G hmg
    refine' L_k13.all_mk KX G hmg ?a__law_cell ?l__law_cell ?c__law_cell ?k__law_cell ?a__law_box ?l__law_box ?c__law_box ?k__law_box ?a__law_take ?l__law_take ?c__law_take ?k__law_take ?a__law_kinds ?l__law_kinds ?c__law_kinds ?k__law_kinds ?a__law_made ?l__law_made ?c__law_made ?k__law_made ?a__law_named ?l__law_named ?c__law_named ?k__law_named ?a__law_fields ?l__law_fields ?c__law_fields ?k__law_fields ?a__law_grown ?l__law_grown ?c__law_grown ?k__law_grown ?a__law_text ?l__law_text ?c__law_text ?k__law_text ?a__law_thing ?l__law_thing ?c__law_thing ?k__law_thing ?a__law_right ?l__law_right ?c__law_right ?k__law_right ?a_law ?l_law ?c_law ?k_law ?z_dict ?z_isinstance ?z_len ?z_list ?z_max ?z_min ?z_range ?z_tuple ?m_Crossed ?m_Deep ?m_Fault ?m_FontError ?m_Missing ?m_NoBase ?m_NoCells ?m_NoChoices ?m_NoDefinition ?m_NoEntry ?m_NoFont ?m_NoLetter ?m_NoLimit ?m_NoLine ?m_NoName ?m_NoNumber ?m_NoOutline ?m_NoParts ?m_NoPlace ?m_NoPoint ?m_NoProgram ?m_NoRound ?m_NoRow ?m_NoSize ?m_NoSuch ?m_NoText ?m_NoWay ?m_NoWord ?m_NoWorths ?m_NoZone ?m_TooMany ?m_Unknown ?m_Unready ?bg_FontError ?br_FontError ?bi_FontError ?bg_Missing ?br_Missing ?bi_Missing ?bg_Unknown ?br_Unknown ?bi_Unknown ?bz ?z_ZeroDivisionError ?xl_Crossed ?e5_Crossed ?xl_Deep ?e5_Deep ?xl_Fault ?e5_Fault ?xl_NoBase ?e5_NoBase ?xl_NoCells ?e5_NoCells ?xl_NoChoices ?e5_NoChoices ?xl_NoDefinition ?e5_NoDefinition ?xl_NoEntry ?e5_NoEntry ?xl_NoFont ?e5_NoFont ?xl_NoLetter ?e5_NoLetter ?xl_NoLimit ?e5_NoLimit ?xl_NoLine ?e5_NoLine ?xl_NoName ?e5_NoName ?xl_NoNumber ?e5_NoNumber ?xl_NoOutline ?e5_NoOutline ?xl_NoParts ?e5_NoParts ?xl_NoPlace ?e5_NoPlace ?xl_NoPoint ?e5_NoPoint ?xl_NoProgram ?e5_NoProgram ?xl_NoRound ?e5_NoRound ?xl_NoRow ?e5_NoRow ?xl_NoSize ?e5_NoSize ?xl_NoSuch ?e5_NoSuch ?xl_NoText ?e5_NoText ?xl_NoWay ?e5_NoWay ?xl_NoWord ?e5_NoWord ?xl_NoWorths ?e5_NoWorths ?xl_NoZone ?e5_NoZone ?xl_TooMany ?e5_TooMany ?xl_Unready ?e5_Unready ?yn ?yt ?oh_FontError ?ot_FontError ?oh_Missing ?ot_Missing ?oh_Unknown ?ot_Unknown ?ndup ?nm_NoName_eq ?nm_NoName_ne ?ii_Crossed ?il_Crossed ?ig_Crossed ?ii_Deep ?il_Deep ?ig_Deep ?ii_Fault ?il_Fault ?ig_Fault ?ii_NoBase ?il_NoBase ?ig_NoBase ?ii_NoCells ?il_NoCells ?ig_NoCells ?ii_NoChoices ?il_NoChoices ?ig_NoChoices ?ii_NoDefinition ?il_NoDefinition ?ig_NoDefinition ?ii_NoEntry ?il_NoEntry ?ig_NoEntry ?ii_NoFont ?il_NoFont ?ig_NoFont ?ii_NoLetter ?il_NoLetter ?ig_NoLetter ?ii_NoLimit ?il_NoLimit ?ig_NoLimit ?ii_NoLine ?il_NoLine ?ig_NoLine ?ii_NoName ?il_NoName ?ig_NoName ?ii_NoNumber ?il_NoNumber ?ig_NoNumber ?ii_NoOutline ?il_NoOutline ?ig_NoOutline ?ii_NoParts ?il_NoParts ?ig_NoParts ?ii_NoPlace ?il_NoPlace ?ig_NoPlace ?ii_NoPoint ?il_NoPoint ?ig_NoPoint ?ii_NoProgram ?il_NoProgram ?ig_NoProgram ?ii_NoRound ?il_NoRound ?ig_NoRound ?ii_NoRow ?il_NoRow ?ig_NoRow ?ii_NoSize ?il_NoSize ?ig_NoSize ?ii_NoSuch ?il_NoSuch ?ig_NoSuch ?ii_NoText ?il_NoText ?ig_NoText ?ii_NoWay ?il_NoWay ?ig_NoWay ?ii_NoWord ?il_NoWord ?ig_NoWord ?ii_NoWorths ?il_NoWorths ?ig_NoWorths ?ii_NoZone ?il_NoZone ?ig_NoZone ?ii_TooMany ?il_TooMany ?ig_TooMany ?ii_Unready ?il_Unready ?ig_Unready
    (case m_Crossed => k_is)
    (case m_Deep => k_is)
    (case m_Fault => k_is)
    (case m_FontError => k_is)
    (case m_Missing => k_is)
    (case m_NoBase => k_is)
    (case m_NoCells => k_is)
    (case m_NoChoices => k_is)
    (case m_NoDefinition => k_is)
    (case m_NoEntry => k_is)
    (case m_NoFont => k_is)
    (case m_NoLetter => k_is)
    (case m_NoLimit => k_is)
    (case m_NoLine => k_is)
    (case m_NoName => k_is)
    (case m_NoNumber => k_is)
    (case m_NoOutline => k_is)
    (case m_NoParts => k_is)
    (case m_NoPlace => k_is)
    (case m_NoPoint => k_is)
    (case m_NoProgram => k_is)
    (case m_NoRound => k_is)
    (case m_NoRow => k_is)
    (case m_NoSize => k_is)
    (case m_NoSuch => k_is)
    (case m_NoText => k_is)
    (case m_NoWay => k_is)
    (case m_NoWord => k_is)
    (case m_NoWorths => k_is)
    (case m_NoZone => k_is)
    (case m_TooMany => k_is)
    (case m_Unknown => k_is)
    (case m_Unready => k_is)
    (case a__law_cell => k_is)
    (case l__law_cell => k_is)
    (case c__law_cell => k_is)
    (case k__law_cell => k_is)
    (case a__law_box => k_is)
    (case l__law_box => k_is)
    (case c__law_box => k_is)
    (case k__law_box => k_is)
    (case a__law_take => k_is)
    (case l__law_take => k_is)
    (case c__law_take => k_is)
    (case k__law_take => k_is)
    (case a__law_kinds => k_is)
    (case l__law_kinds => k_is)
    (case c__law_kinds => k_is)
    (case k__law_kinds => k_is)
    (case a__law_made => k_is)
    (case l__law_made => k_is)
    (case c__law_made => k_is)
    (case k__law_made => k_is)
    (case a__law_named => k_is)
    (case l__law_named => k_is)
    (case c__law_named => k_is)
    (case k__law_named => k_is)
    (case a__law_fields => k_is)
    (case l__law_fields => k_is)
    (case c__law_fields => k_is)
    (case k__law_fields => k_is)
    (case a__law_grown => k_is)
    (case l__law_grown => k_is)
    (case c__law_grown => k_is)
    (case k__law_grown => k_is)
    (case a__law_text => k_is)
    (case l__law_text => k_is)
    (case c__law_text => k_is)
    (case k__law_text => k_is)
    (case a__law_thing => k_is)
    (case l__law_thing => k_is)
    (case c__law_thing => k_is)
    (case k__law_thing => k_is)
    (case a__law_right => k_is)
    (case l__law_right => k_is)
    (case c__law_right => k_is)
    (case k__law_right => k_is)
    (case a_law => k_is)
    (case l_law => k_is)
    (case c_law => k_is)
    (case k_law => k_is)
    (case z_dict => k_is)
    (case z_isinstance => k_is)
    (case z_len => k_is)
    (case z_list => k_is)
    (case z_max => k_is)
    (case z_min => k_is)
    (case z_range => k_is)
    (case z_tuple => k_is)
    (case bg_FontError => k_is)
    (case br_FontError => k_is)
    (case bi_FontError => k_is)
    (case bg_Missing => k_is)
    (case br_Missing => k_is)
    (case bi_Missing => k_is)
    (case bg_Unknown => k_is)
    (case br_Unknown => k_is)
    (case bi_Unknown => k_is)
    (case bz => k_is)
    (case z_ZeroDivisionError => k_is)
    (case xl_Crossed => k_is)
    (case e5_Crossed => first | kernel_rfl | rfl | k_is)
    (case xl_Deep => k_is)
    (case e5_Deep => first | kernel_rfl | rfl | k_is)
    (case xl_Fault => k_is)
    (case e5_Fault => first | kernel_rfl | rfl | k_is)
    (case xl_NoBase => k_is)
    (case e5_NoBase => first | kernel_rfl | rfl | k_is)
    (case xl_NoCells => k_is)
    (case e5_NoCells => first | kernel_rfl | rfl | k_is)
    (case xl_NoChoices => k_is)
    (case e5_NoChoices => first | kernel_rfl | rfl | k_is)
    (case xl_NoDefinition => k_is)
    (case e5_NoDefinition => first | kernel_rfl | rfl | k_is)
    (case xl_NoEntry => k_is)
    (case e5_NoEntry => first | kernel_rfl | rfl | k_is)
    (case xl_NoFont => k_is)
    (case e5_NoFont => first | kernel_rfl | rfl | k_is)
    (case xl_NoLetter => k_is)
    (case e5_NoLetter => first | kernel_rfl | rfl | k_is)
    (case xl_NoLimit => k_is)
    (case e5_NoLimit => first | kernel_rfl | rfl | k_is)
    (case xl_NoLine => k_is)
    (case e5_NoLine => first | kernel_rfl | rfl | k_is)
    (case xl_NoName => k_is)
    (case e5_NoName => first | kernel_rfl | rfl | k_is)
    (case xl_NoNumber => k_is)
    (case e5_NoNumber => first | kernel_rfl | rfl | k_is)
    (case xl_NoOutline => k_is)
    (case e5_NoOutline => first | kernel_rfl | rfl | k_is)
    (case xl_NoParts => k_is)
    (case e5_NoParts => first | kernel_rfl | rfl | k_is)
    (case xl_NoPlace => k_is)
    (case e5_NoPlace => first | kernel_rfl | rfl | k_is)
    (case xl_NoPoint => k_is)
    (case e5_NoPoint => first | kernel_rfl | rfl | k_is)
    (case xl_NoProgram => k_is)
    (case e5_NoProgram => first | kernel_rfl | rfl | k_is)
    (case xl_NoRound => k_is)
    (case e5_NoRound => first | kernel_rfl | rfl | k_is)
    (case xl_NoRow => k_is)
    (case e5_NoRow => first | kernel_rfl | rfl | k_is)
    (case xl_NoSize => k_is)
    (case e5_NoSize => first | kernel_rfl | rfl | k_is)
    (case xl_NoSuch => k_is)
    (case e5_NoSuch => first | kernel_rfl | rfl | k_is)
    (case xl_NoText => k_is)
    (case e5_NoText => first | kernel_rfl | rfl | k_is)
    (case xl_NoWay => k_is)
    (case e5_NoWay => first | kernel_rfl | rfl | k_is)
    (case xl_NoWord => k_is)
    (case e5_NoWord => first | kernel_rfl | rfl | k_is)
    (case xl_NoWorths => k_is)
    (case e5_NoWorths => first | kernel_rfl | rfl | k_is)
    (case xl_NoZone => k_is)
    (case e5_NoZone => first | kernel_rfl | rfl | k_is)
    (case xl_TooMany => k_is)
    (case e5_TooMany => first | kernel_rfl | rfl | k_is)
    (case xl_Unready => k_is)
    (case e5_Unready => first | kernel_rfl | rfl | k_is)
    (case yn => k_is)
    (case yt => k_is)
    (case oh_FontError => k_is)
    (case ot_FontError => k_is)
    (case oh_Missing => k_is)
    (case ot_Missing => k_is)
    (case oh_Unknown => k_is)
    (case ot_Unknown => k_is)
    (case ndup => first | decide | decide +kernel)
    (case nm_NoName_eq => k_is)
    (case nm_NoName_ne => k_is)
    (case ii_Crossed => k_is)
    (case il_Crossed => k_is)
    (case ig_Crossed => first | kernel_rfl | rfl | k_is)
    (case ii_Deep => k_is)
    (case il_Deep => k_is)
    (case ig_Deep => first | kernel_rfl | rfl | k_is)
    (case ii_Fault => k_is)
    (case il_Fault => k_is)
    (case ig_Fault => first | kernel_rfl | rfl | k_is)
    (case ii_NoBase => k_is)
    (case il_NoBase => k_is)
    (case ig_NoBase => first | kernel_rfl | rfl | k_is)
    (case ii_NoCells => k_is)
    (case il_NoCells => k_is)
    (case ig_NoCells => first | kernel_rfl | rfl | k_is)
    (case ii_NoChoices => k_is)
    (case il_NoChoices => k_is)
    (case ig_NoChoices => first | kernel_rfl | rfl | k_is)
    (case ii_NoDefinition => k_is)
    (case il_NoDefinition => k_is)
    (case ig_NoDefinition => first | kernel_rfl | rfl | k_is)
    (case ii_NoEntry => k_is)
    (case il_NoEntry => k_is)
    (case ig_NoEntry => first | kernel_rfl | rfl | k_is)
    (case ii_NoFont => k_is)
    (case il_NoFont => k_is)
    (case ig_NoFont => first | kernel_rfl | rfl | k_is)
    (case ii_NoLetter => k_is)
    (case il_NoLetter => k_is)
    (case ig_NoLetter => first | kernel_rfl | rfl | k_is)
    (case ii_NoLimit => k_is)
    (case il_NoLimit => k_is)
    (case ig_NoLimit => first | kernel_rfl | rfl | k_is)
    (case ii_NoLine => k_is)
    (case il_NoLine => k_is)
    (case ig_NoLine => first | kernel_rfl | rfl | k_is)
    (case ii_NoName => k_is)
    (case il_NoName => k_is)
    (case ig_NoName => first | kernel_rfl | rfl | k_is)
    (case ii_NoNumber => k_is)
    (case il_NoNumber => k_is)
    (case ig_NoNumber => first | kernel_rfl | rfl | k_is)
    (case ii_NoOutline => k_is)
    (case il_NoOutline => k_is)
    (case ig_NoOutline => first | kernel_rfl | rfl | k_is)
    (case ii_NoParts => k_is)
    (case il_NoParts => k_is)
    (case ig_NoParts => first | kernel_rfl | rfl | k_is)
    (case ii_NoPlace => k_is)
    (case il_NoPlace => k_is)
    (case ig_NoPlace => first | kernel_rfl | rfl | k_is)
    (case ii_NoPoint => k_is)
    (case il_NoPoint => k_is)
    (case ig_NoPoint => first | kernel_rfl | rfl | k_is)
    (case ii_NoProgram => k_is)
    (case il_NoProgram => k_is)
    (case ig_NoProgram => first | kernel_rfl | rfl | k_is)
    (case ii_NoRound => k_is)
    (case il_NoRound => k_is)
    (case ig_NoRound => first | kernel_rfl | rfl | k_is)
    (case ii_NoRow => k_is)
    (case il_NoRow => k_is)
    (case ig_NoRow => first | kernel_rfl | rfl | k_is)
    (case ii_NoSize => k_is)
    (case il_NoSize => k_is)
    (case ig_NoSize => first | kernel_rfl | rfl | k_is)
    (case ii_NoSuch => k_is)
    (case il_NoSuch => k_is)
    (case ig_NoSuch => first | kernel_rfl | rfl | k_is)
    (case ii_NoText => k_is)
    (case il_NoText => k_is)
    (case ig_NoText => first | kernel_rfl | rfl | k_is)
    (case ii_NoWay => k_is)
    (case il_NoWay => k_is)
    (case ig_NoWay => first | kernel_rfl | rfl | k_is)
    (case ii_NoWord => k_is)
    (case il_NoWord => k_is)
    (case ig_NoWord => first | kernel_rfl | rfl | k_is)
    (case ii_NoWorths => k_is)
    (case il_NoWorths => k_is)
    (case ig_NoWorths => first | kernel_rfl | rfl | k_is)
    (case ii_NoZone => k_is)
    (case il_NoZone => k_is)
    (case ig_NoZone => first | kernel_rfl | rfl | k_is)
    (case ii_TooMany => k_is)
    (case il_TooMany => k_is)
    (case ig_TooMany => first | kernel_rfl | rfl | k_is)
    (case ii_Unready => k_is)
    (case il_Unready => k_is)
    (case ig_Unready => first | kernel_rfl | rfl | k_is)
