import PyProof.Rows.All
import Wide.All
import OpenK.AllK
import Wide.FinOn
import HandS.ForMost
import HandS.ForExc
import HandS.Flow
import HandS.IsInst
import HandS.Lambda
import KE.KNestM
import HandS.Wide
import HandS.TryMany
import HandS.ExcInit
import HandS.RaiseMore
import HandS.ExcCtx
import HandS.SuiteRaise
import HandS.ExcInitHot
import HandS.Deep
import KE.KExcIs
import HandS.ExcIs
import HandS.Defaults
import HandS.MakeKw
import HandS.MakeKwOnly
import HandS.ExcField
import HandS.Small
import HandS.Style
import HandS.Conv
import HandS.CallLocal
import HandS.WrittenGet
import PyProof.ReprRoads
import HandS.HeadHook3
import PyProof.MaxThree
import HandS.Text
import HandS.StrMore
import HandS.FStr
import PyProof.StrBlock2
import KE.IntTextLaws
import PyProof.CollectIter
import PyProof.Walks
import HandS.Zip0
import HandS.SortInts
import HandS.OwnIter
import HandS.TupAny
import HandS.DictTup
import HandS.SortOrd
import HandS.SortRule
import HandS.SortKw
import HandS.ExcValue
import PyProof.LongRange
import PyProof.ListMulRoad
import PyProof.Rows.ListMul
import HandS.TupLe
import HandS.Nested
import HandS.EndTab
import KE.SortKeyHeap
import PySem.Challenge.RW_hintedpoints_k05_numbers_in_order
set_option Elab.async false
set_option linter.all false
set_option maxRecDepth 100000
set_option maxHeartbeats 4000000
set_option exponentiation.threshold 10000
/-! DL: a layer of plain data trees over the hand layer: D (data without addresses), kept parts and cells, readings over D. -/
namespace DL
open PySem PySem.Spec PyProof.Rows L2
/-! ### data -/
inductive Kd where
  | lst | tup | klst
  | dct (ks : List Key)
  | obj (c : Str) (ns : List Str)
  | exc (c : Str) (ns : List Str)
  | exa (c : Str) (ns : List Str) (a : Addr)
  | cau (c : Str) (a C : Addr) (dd : Option Addr)
  | tbk (x : Str)
  | cod (q : Str)
  | clo (j : Nat) (a : Addr) (ws : List V)
  | fnk (x : Str) (fr : List Str)
  deriving DecidableEq
inductive D where
  | non | bl (b : Bool) | int (i : Int) | str (x : Str) | ty (n : String) | glb (x : Str) | cell (n : Nat)
  | node (k : Kd) (xs : List D)
abbrev D.lst (xs : List D) : D := .node .lst xs
abbrev D.tup (xs : List D) : D := .node .tup xs
inductive Cell where
  | live (k : Kd) (xs : List D)
  | dead
abbrev Kap := Nat → Option Cell
def kset (κ : Kap) (n : Nat) (c : Cell) : Kap := fun m => if m = n then some c else κ m
theorem kset_same {κ : Kap} {n : Nat} {c : Cell} : kset κ n c n = some c := if_pos rfl
theorem kset_ne {κ : Kap} {n m : Nat} {c : Cell} (h : m ≠ n) : kset κ n c m = κ m := if_neg h
theorem kset_kset {κ : Kap} {n : Nat} {c d : Cell} : kset (kset κ n c) n d = kset κ n d := by
  funext m; unfold kset; split <;> rfl
theorem kne {κ : Kap} {n m : Nat} {c : Cell} (h : κ n = some c) (h' : κ m = none) : n ≠ m := by
  intro e; rw [e, h'] at h; cases h
abbrev DEnv := List (Option D)
abbrev DQ := D → Kap → Prop
abbrev DX := DEnv → Str → List D → Kap → Prop
structure DEnds where
  nx : DEnv → Kap → Prop
  rt : DQ
  bk : DEnv → Kap → Prop := fun _ _ => False
  ct : DEnv → Kap → Prop := fun _ _ => False
/-- readings over data: an expression's, a test's, an argument list's, a statement's -/
abbrev DE := DEnv → Kap → DX → DQ → Prop
abbrev DT := DEnv → Kap → DX → (Bool → Kap → Prop) → Prop
abbrev DA := DEnv → Kap → DX → (List D → Kap → Prop) → Prop
abbrev DS := DEnv → Kap → DX → DEnds → Prop
/-- what a def is worth, over data -/
abbrev DSp := List D → Kap → (Str → List D → Kap → Prop) → DQ → Prop
/-! ### how data lies in the abstract heap -/
structure Ctx where
  K : PySem.W.Frag
  mg : Str → Option Value
abbrev Loc0 := Nat → Option Addr
/-- names and values, in turn -/
def xflat : List (Str × V) → List V
  | [] => []
  | p :: r => V.str p.1 :: p.2 :: xflat r
/-- P: the table of code objects of the def that x names -/
def TabIs (C : Ctx) (x : Str) (P : Addr) : Prop := ∃ (f c : Addr) (oc : Value) (od : Option Addr) (fd : FuncData) (sl : Array (Option Value)), C.mg x = some (.ref f) ∧ C.K.lookup f = some ⟨oc, od, .func fd, sl⟩ ∧ fd.code = .ref c ∧ PySem.W.codeHdIn C.K c P = true
def TabH (C : Ctx) (H : Hp) (x : Str) (a : Addr) (vs : List V) : Prop := TabIs C x a ∧ ∃ ps : Array Value, H a = some (.tbl ps) ∧ TriplesOk ps.toList ∧ ∀ (pos : Pos) (cv : Value), codeAmong pos ps.toList = some cv → ∃ c, cv = .ref c ∧ V.ref c ∈ vs
/-- the object at a is o -/
def SameO (a : Addr) (o : Obj) : HO := .ext fun h => h.get? a = some o
/-- the lambda that a def returns at its end -/
def retLam (b : List Stmt) : Option (Arguments × Expr × Scope) := match b.getLast? with
  | some (.Return (some (.Lambda p e s _)) _) => some (p, e, s)
  | _ => none
def LamOf (C : Ctx) (x : Str) (p : Arguments) (e : Expr) (s : Scope) : Prop := ∃ (f : Addr) (oc : Value) (od : Option Addr) (fd : FuncData) (sl : Array (Option Value)) (b : List Stmt), C.mg x = some (.ref f) ∧ C.K.lookup f = some ⟨oc, od, .func fd, sl⟩ ∧ fd.body = .stmts b ∧ retLam b = some (p, e, s)
abbrev lamQ (x : Str) : Str := (x ++ ".<locals>.") ++ "<lambda>"
/-- the captured cells, as they lie -/
structure CapF (F : Hp) (cl : List (Str × Addr)) (fr : List Str) (ws : List V) : Prop where
  len : ws.length = fr.length
  all : ∀ y c, cl.lookup y = some c → ∃ o v, F c = some (SameO c o) ∧ o.data = .cell v
  inj : ∀ x y c, cl.lookup x = some c → cl.lookup y = some c → x = y
  has : ∀ (i : Nat) (y : Str), fr[i]? = some y → ∃ c, cl.lookup y = some c ∧ ∀ v, ws[i]? = some v → ∃ u o, L2.RelV v u ∧ F c = some (SameO c o) ∧ o.data = .cell (some u)
theorem CapF.ext {F F' : Hp} {cl : List (Str × Addr)} {fr : List Str} {ws : List V} (e : ∀ a o, F a = some o → F' a = some o) (h : CapF F cl fr ws) : CapF F' cl fr ws :=
  ⟨h.len, fun y c q => let ⟨o, v, h1, h2⟩ := h.all y c q; ⟨o, v, e _ _ h1, h2⟩, h.inj, fun i y q => let ⟨c, h1, h2⟩ := h.has i y q; ⟨c, h1, fun v z => let ⟨u, o, g1, g2, g3⟩ := h2 v z; ⟨u, o, g1, e _ _ g2, g3⟩⟩⟩
/-- a lambda that x has returned, and what it holds -/
def FnkH (C : Ctx) (F : Hp) (x : Str) (fr : List Str) (a : Addr) (vs : List V) : Prop := ∃ (p : Arguments) (e : Expr) (s : Scope) (cl : List (Str × Addr)) (pm ctv : Value) (c' : Addr) (ws : List V),
  LamOf C x p e s ∧ F a = some (SameO a (PySem.W.kla_obj "<lambda>" (lamQ x) p e s cl pm c' ctv)) ∧ vs = V.ref c' :: ws ∧ CapF F cl fr ws
def HoldK (C : Ctx) (F : Hp) (k : Kd) (a : Addr) (vs : List V) : Prop := match k with
  | .lst => F a = some (.lst vs)
  | .klst => SqL C.K F a vs
  | .tup => SqT C.K F a vs
  | .dct ks => ∃ kvs, F a = some (.dK kvs) ∧ kvs.map (·.1) = ks ∧ kvs.map (·.2) = vs
  | .obj c ns => ∃ (ca dx : Addr) (fs : List (Str × V)), C.mg c = some (.ref ca) ∧ F a = some (.ins ca dx fs) ∧ fs.map (·.1) = ns ∧ fs.map (·.2) = vs
  | .exc c ns => ∃ ca : Addr, C.mg c = some (.ref ca) ∧ ((ns = [] ∧ vs = [] ∧ F a = some (exo a ca none)) ∨ ∃ (d : Addr) (fs : List (Str × V)), F a = some (exo a ca (some d)) ∧ F d = some (exd d fs) ∧ fs.map (·.1) = ns ∧ fs.map (·.2) = vs)
  | .exa c ns a1 => a = a1 ∧ ∃ ca : Addr, C.mg c = some (.ref ca) ∧ ((ns = [] ∧ vs = [] ∧ F a = some (exo a ca none)) ∨ ∃ (d : Addr) (fs : List (Str × V)), F a = some (exo a ca (some d)) ∧ F d = some (exd d fs) ∧ fs.map (·.1) = ns ∧ fs.map (·.2) = vs)
  | .cau c a1 C1 dd => a = a1 ∧ C.mg c = some (.ref C1) ∧ ((dd = none ∧ vs = []) ∨ ∃ (d : Addr) (fs : List (Str × V)), dd = some d ∧ F d = some (.xd fs) ∧ vs = xflat fs)
  | .tbk x => TabH C F x a vs
  | .cod q => vs = [] ∧ F a = some (LamX.CodeO a q)
  | .clo _ a1 ws => a = a1 ∧ vs = ws
  | .fnk x fr => FnkH C F x fr a vs
mutual
inductive Rep (C : Ctx) (F : Hp) (ρ : Loc0) : D → V → Prop
  | non : Rep C F ρ .non .non
  | bl (b : Bool) : Rep C F ρ (.bl b) (.bl b)
  | int (i : Int) : Rep C F ρ (.int i) (.int i)
  | str (x : Str) : Rep C F ρ (.str x) (.str x)
  | ty (n : String) : Rep C F ρ (.ty n) (.ty n)
  | glb {x : Str} {a : Addr} (h : C.mg x = some (.ref a)) : Rep C F ρ (.glb x) (.ref a)
  | cell {n : Nat} {a : Addr} (h : ρ n = some a) : Rep C F ρ (.cell n) (.ref a)
  | node {k : Kd} {xs : List D} {a : Addr} {vs : List V} (h : HoldK C F k a vs) (r : RepL C F ρ xs vs) : Rep C F ρ (.node k xs) (.ref a)
inductive RepL (C : Ctx) (F : Hp) (ρ : Loc0) : List D → List V → Prop
  | nil : RepL C F ρ [] []
  | cons {d : D} {ds : List D} {v : V} {vs : List V} (h : Rep C F ρ d v) (t : RepL C F ρ ds vs) : RepL C F ρ (d :: ds) (v :: vs)
end
/-- the kept part and the cells' places only grow -/
structure Ext (F : Hp) (ρ : Loc0) (F' : Hp) (ρ' : Loc0) : Prop where
  f : ∀ a o, F a = some o → F' a = some o
  r : ∀ n a, ρ n = some a → ρ' n = some a
theorem Ext.refl (F : Hp) (ρ : Loc0) : Ext F ρ F ρ := ⟨fun _ _ h => h, fun _ _ h => h⟩
theorem Ext.trans {F F1 F2 : Hp} {ρ ρ1 ρ2 : Loc0} (a : Ext F ρ F1 ρ1) (b : Ext F1 ρ1 F2 ρ2) : Ext F ρ F2 ρ2 := ⟨fun x o h => b.f x o (a.f x o h), fun n x h => b.r n x (a.r n x h)⟩
section
variable {C : Ctx} {F F' : Hp} {ρ ρ' : Loc0}
theorem rd_ext (h : ∀ a o, F a = some o → F' a = some o) {a : Addr} {u : HO} (r : Rd F a u) : Rd F' a u := by
  rcases r with r | ⟨o, r⟩
  · exact .inl (h _ _ r)
  · exact .inr ⟨o, h _ _ r⟩
theorem sql_ext (h : ∀ a o, F a = some o → F' a = some o) {K : PySem.W.Frag} {a : Addr} {xs : List V} (r : SqL K F a xs) : SqL K F' a xs := by
  rcases r with r | r
  · exact .inl (rd_ext h r)
  · exact .inr r
theorem sqt_ext (h : ∀ a o, F a = some o → F' a = some o) {K : PySem.W.Frag} {a : Addr} {xs : List V} (r : SqT K F a xs) : SqT K F' a xs := by
  rcases r with r | r
  · exact .inl (rd_ext h r)
  · exact .inr r
theorem HoldK.ext (e : ∀ a o, F a = some o → F' a = some o) {k : Kd} {a : Addr} {vs : List V} (h : HoldK C F k a vs) : HoldK C F' k a vs := by
  cases k with
  | lst => exact e _ _ h
  | klst => exact sql_ext e h
  | tup => exact sqt_ext e h
  | dct ks => obtain ⟨kvs, h1, h2⟩ := h; exact ⟨kvs, e _ _ h1, h2⟩
  | obj c ns => obtain ⟨ca, dx, fs, h1, h2, h3⟩ := h; exact ⟨ca, dx, fs, h1, e _ _ h2, h3⟩
  | exc c ns =>
    obtain ⟨ca, h1, h2⟩ := h
    refine ⟨ca, h1, ?_⟩
    rcases h2 with ⟨h2, h3, h4⟩ | ⟨d, fs, h2, h3, h4⟩
    · exact .inl ⟨h2, h3, e _ _ h4⟩
    · exact .inr ⟨d, fs, e _ _ h2, e _ _ h3, h4⟩
  | exa c ns a1 =>
    obtain ⟨h0, ca, h1, h2⟩ := h
    refine ⟨h0, ca, h1, ?_⟩
    rcases h2 with ⟨h2, h3, h4⟩ | ⟨d, fs, h2, h3, h4⟩
    · exact .inl ⟨h2, h3, e _ _ h4⟩
    · exact .inr ⟨d, fs, e _ _ h2, e _ _ h3, h4⟩
  | cau c a1 C1 dd =>
    obtain ⟨h1, h2, h3⟩ := h
    refine ⟨h1, h2, ?_⟩
    rcases h3 with h3 | ⟨d, fs, h3, h4, h5⟩
    · exact .inl h3
    · exact .inr ⟨d, fs, h3, e _ _ h4, h5⟩
  | tbk x => obtain ⟨h1, ps, h2, h3⟩ := h; exact ⟨h1, ps, e _ _ h2, h3⟩
  | cod q => exact ⟨h.1, e _ _ h.2⟩
  | clo j a1 ws => exact h
  | fnk x fr => obtain ⟨p, f, s, cl, pm, ctv, c', ws, h1, h2, h3, h4⟩ := h; exact ⟨p, f, s, cl, pm, ctv, c', ws, h1, e _ _ h2, h3, h4.ext e⟩
mutual
theorem Rep.ext (e : Ext F ρ F' ρ') : ∀ {d : D} {v : V}, Rep C F ρ d v → Rep C F' ρ' d v
  | _, _, .non => .non
  | _, _, .bl b => .bl b
  | _, _, .int i => .int i
  | _, _, .str x => .str x
  | _, _, .ty n => .ty n
  | _, _, .glb h => .glb h
  | _, _, .cell h => .cell (e.r _ _ h)
  | _, _, .node h r => .node (h.ext e.f) (RepL.ext e r)
theorem RepL.ext (e : Ext F ρ F' ρ') : ∀ {d : List D} {v : List V}, RepL C F ρ d v → RepL C F' ρ' d v
  | _, _, .nil => .nil
  | _, _, .cons h t => .cons (Rep.ext e h) (RepL.ext e t)
end
theorem RepL.length : ∀ {ds : List D} {vs : List V}, RepL C F ρ ds vs → ds.length = vs.length
  | _, _, .nil => rfl
  | _, _, .cons _ t => congrArg (· + 1) (RepL.length t)
theorem RepL.get : ∀ {ds : List D} {vs : List V} {i : Nat} {d : D}, RepL C F ρ ds vs → ds[i]? = some d → ∃ v, vs[i]? = some v ∧ Rep C F ρ d v
  | _, _, _, _, .nil, e => by simp at e
  | _, _, 0, _, .cons h _, e => by simp at e; subst e; exact ⟨_, rfl, h⟩
  | _, _, i + 1, d, .cons _ t, e => by
    obtain ⟨v, h1, h2⟩ := RepL.get (i := i) (d := d) t (by simpa using e)
    exact ⟨v, by simpa using h1, h2⟩
theorem RepL.append : ∀ {xs ys : List D} {us ws : List V}, RepL C F ρ xs us → RepL C F ρ ys ws → RepL C F ρ (xs ++ ys) (us ++ ws)
  | _, _, _, _, .nil, s => s
  | _, _, _, _, .cons h t, s => .cons h (RepL.append t s)
theorem RepL.set {d : D} {v : V} (r : Rep C F ρ d v) : ∀ {xs : List D} {vs : List V} (i : Nat), RepL C F ρ xs vs → RepL C F ρ (xs.set i d) (vs.set i v)
  | _, _, _, .nil => .nil
  | _, _, 0, .cons _ t => .cons r t
  | _, _, i + 1, .cons q t => .cons q (RepL.set r i t)
theorem RepL.take : ∀ {xs : List D} {vs : List V} (n : Nat), RepL C F ρ xs vs → RepL C F ρ (xs.take n) (vs.take n)
  | _, _, 0, _ => .nil
  | _, _, _ + 1, .nil => .nil
  | _, _, n + 1, .cons h t => .cons h (RepL.take n t)
theorem RepL.drop : ∀ {xs : List D} {vs : List V} (n : Nat), RepL C F ρ xs vs → RepL C F ρ (xs.drop n) (vs.drop n)
  | _, _, 0, r => r
  | _, _, _ + 1, .nil => .nil
  | _, _, n + 1, .cons _ t => RepL.drop n t
theorem RepL.ofInts : ∀ {ns : List Int}, RepL C F ρ (ns.map D.int) (ns.map V.int)
  | [] => .nil
  | n :: ns => .cons (.int n) (RepL.ofInts (ns := ns))
end
/-- how a cell's content lies -/
def HoldM (C : Ctx) (H : Hp) (k : Kd) (a : Addr) (vs : List V) : Prop := match k with
  | .lst => H a = some (.lst vs)
  | .dct ks => ∃ kvs, H a = some (.dK kvs) ∧ kvs.map (·.1) = ks ∧ kvs.map (·.2) = vs
  | .obj c ns => ∃ (ca dx : Addr) (fs : List (Str × V)), C.mg c = some (.ref ca) ∧ H a = some (.ins ca dx fs) ∧ fs.map (·.1) = ns ∧ fs.map (·.2) = vs
  | .tbk x => TabH C H x a vs
  | _ => False
/-- the state: the kept part F, the cells' places ρ, the cells κ, the abstract heap H -/
structure StR (C : Ctx) (F : Hp) (ρ : Loc0) (κ : Kap) (H : Hp) : Prop where
  sub : ∀ a o, F a = some o → H a = some o
  live : ∀ n k xs, κ n = some (.live k xs) → ∃ a vs, ρ n = some a ∧ F a = none ∧ HoldM C H k a vs ∧ RepL C F ρ xs vs
  inj : ∀ n m a k xs k' xs', κ n = some (.live k xs) → κ m = some (.live k' xs') → ρ n = some a → ρ m = some a → n = m
  free : ∀ n, κ n = none → ρ n = none
  fin : ∃ N, ∀ n, N ≤ n → κ n = none
theorem HoldM.is {C : Ctx} {H : Hp} {k : Kd} {a : Addr} {vs : List V} (h : HoldM C H k a vs) : ∃ o, H a = some o := by
  cases k with
  | lst => exact ⟨_, h⟩
  | dct ks => obtain ⟨kvs, h1, _⟩ := h; exact ⟨_, h1⟩
  | obj c ns => obtain ⟨_, _, _, _, h1, _⟩ := h; exact ⟨_, h1⟩
  | tbk x => obtain ⟨_, ps, h1, _⟩ := h; exact ⟨_, h1⟩
  | _ => exact h.elim
theorem HoldM.same {C : Ctx} {H H' : Hp} {k : Kd} {a : Addr} {vs : List V} (h : HoldM C H k a vs) (e : H' a = H a) : HoldM C H' k a vs := by
  cases k with
  | lst => exact e.trans h
  | dct ks => obtain ⟨kvs, h1, h2⟩ := h; exact ⟨kvs, e.trans h1, h2⟩
  | obj c ns => obtain ⟨ca, dx, fs, h0, h1, h2⟩ := h; exact ⟨ca, dx, fs, h0, e.trans h1, h2⟩
  | tbk x => obtain ⟨h0, ps, h1, h2⟩ := h; exact ⟨h0, ps, e.trans h1, h2⟩
  | _ => exact h.elim
section
variable {C : Ctx} {F : Hp} {ρ : Loc0} {κ : Kap} {H : Hp}
/-- a new object, kept -/
theorem StR.laid (S : StR C F ρ κ H) {p : Addr} {o : HO} (h : H p = none) : Ext F ρ (upd F p o) ρ ∧ StR C (upd F p o) ρ κ (upd H p o) := by
  have fp : F p = none := by
    cases e : F p with
    | none => rfl
    | some u => rw [S.sub p u e] at h; cases h
  have ex : Ext F ρ (upd F p o) ρ := ⟨fun a u e => by rw [upd_ne (ne_of_none e fp)]; exact e, fun _ _ e => e⟩
  refine ⟨ex, ⟨fun a u e => ?_, fun n k xs e => ?_, S.inj, S.free, S.fin⟩⟩
  · by_cases ha : a = p
    · subst ha; rw [upd_same] at e; rw [upd_same]; exact e
    · rw [upd_ne ha] at e; rw [upd_ne ha]; exact S.sub a u e
  · obtain ⟨a, vs, h1, h2, h3, h4⟩ := S.live n k xs e
    obtain ⟨u, hu⟩ := h3.is
    have ne : a ≠ p := ne_of_none hu h
    exact ⟨a, vs, h1, by rw [upd_ne ne]; exact h2, h3.same (upd_ne ne), h4.ext ex⟩
/-- a new object, a cell -/
theorem StR.cell (S : StR C F ρ κ H) {p : Addr} {o : HO} {k : Kd} {vs : List V} {xs : List D} (h : H p = none) (hm : ∀ H', H' p = some o → HoldM C H' k p vs) (r : RepL C F ρ xs vs) {n : Nat} (hn : κ n = none) :
    ∃ ρ', Ext F ρ F ρ' ∧ ρ' n = some p ∧ StR C F ρ' (kset κ n (.live k xs)) (upd H p o) := by
  have ex : Ext F ρ F (fun m => if m = n then some p else ρ m) := ⟨fun _ _ e => e, fun m a e => by
    have : m ≠ n := fun z => by rw [z, S.free n hn] at e; cases e
    show (if m = n then some p else ρ m) = some a
    rw [if_neg this]; exact e⟩
  have fp : F p = none := by
    cases e : F p with
    | none => rfl
    | some u => rw [S.sub p u e] at h; cases h
  refine ⟨_, ex, if_pos rfl, ⟨fun a u e => ?_, fun m k' xs' e => ?_, fun m m' a k1 x1 k2 x2 e e' r1 r2 => ?_, fun m e => ?_, ?_⟩⟩
  · rw [upd_ne (ne_of_none (S.sub a u e) h)]; exact S.sub a u e
  · by_cases hm' : m = n
    · subst hm'
      rw [kset_same] at e
      cases e
      exact ⟨p, vs, if_pos rfl, fp, hm _ upd_same, r.ext ex⟩
    · rw [kset_ne hm'] at e
      obtain ⟨a, ws, h1, h2, h3, h4⟩ := S.live m k' xs' e
      obtain ⟨u, hu⟩ := h3.is
      have ne : a ≠ p := ne_of_none hu h
      exact ⟨a, ws, by rw [if_neg hm']; exact h1, h2, h3.same (upd_ne ne), h4.ext ex⟩
  · have key : ∀ {m a k1 x1}, m ≠ n → kset κ n (.live k xs) m = some (.live k1 x1) → (if m = n then some p else ρ m) = some a → a ≠ p := by
      intro m a k1 x1 hm' e r1
      rw [kset_ne hm'] at e
      obtain ⟨b, ws, h1, h2, h3, h4⟩ := S.live m k1 x1 e
      rw [if_neg hm', h1] at r1
      cases r1
      obtain ⟨u, hu⟩ := h3.is
      exact ne_of_none hu h
    by_cases h1 : m = n
    · by_cases h2 : m' = n
      · exact h1.trans h2.symm
      · have := key h2 e' r2
        rw [if_pos h1] at r1
        cases r1
        exact absurd rfl this
    · by_cases h2 : m' = n
      · have := key h1 e r1
        rw [if_pos h2] at r2
        cases r2
        exact absurd rfl this
      · rw [kset_ne h1] at e
        rw [kset_ne h2] at e'
        rw [if_neg h1] at r1
        rw [if_neg h2] at r2
        exact S.inj _ _ _ _ _ _ _ e e' r1 r2
  · have hm' : m ≠ n := fun z => by rw [z, kset_same] at e; cases e
    rw [kset_ne hm'] at e
    show (if m = n then some p else ρ m) = none
    rw [if_neg hm']
    exact S.free m e
  · obtain ⟨N, hN⟩ := S.fin
    refine ⟨max N (n + 1), fun m hm' => ?_⟩
    rw [kset_ne (by omega)]
    exact hN m (by omega)
theorem StR.fresh (S : StR C F ρ κ H) : ∃ n, κ n = none := let ⟨N, h⟩ := S.fin; ⟨N, h N (Nat.le_refl _)⟩
/-- a cell is written -/
theorem StR.write (S : StR C F ρ κ H) {n : Nat} {a : Addr} {o : HO} {k k' : Kd} {xs xs' : List D} {vs' : List V} (hn : κ n = some (.live k xs)) (ha : ρ n = some a) (hm : ∀ H', H' a = some o → HoldM C H' k' a vs') (r : RepL C F ρ xs' vs') :
    StR C F ρ (kset κ n (.live k' xs')) (upd H a o) := by
  have fa : F a = none := by
    obtain ⟨b, vs, h1, h2, _⟩ := S.live n k xs hn
    rw [ha] at h1
    cases h1
    exact h2
  refine ⟨fun b u e => ?_, fun m k1 x1 e => ?_, fun m m' b k1 x1 k2 x2 e e' r1 r2 => ?_, fun m e => ?_, ?_⟩
  · rw [upd_ne (ne_of_none e fa)]; exact S.sub b u e
  · by_cases hm' : m = n
    · subst hm'
      rw [kset_same] at e
      cases e
      exact ⟨a, vs', ha, fa, hm _ upd_same, r⟩
    · rw [kset_ne hm'] at e
      obtain ⟨b, ws, h1, h2, h3, h4⟩ := S.live m k1 x1 e
      have ne : b ≠ a := fun z => hm' (S.inj m n a k1 x1 k xs e hn (z ▸ h1) ha)
      exact ⟨b, ws, h1, h2, h3.same (upd_ne ne), h4⟩
  · have key : ∀ {m k1 x1}, kset κ n (.live k' xs') m = some (.live k1 x1) → ∃ k2 x2, κ m = some (.live k2 x2) := by
      intro m k1 x1 e
      by_cases z : m = n
      · exact ⟨k, xs, z ▸ hn⟩
      · rw [kset_ne z] at e
        exact ⟨_, _, e⟩
    obtain ⟨_, _, q1⟩ := key e
    obtain ⟨_, _, q2⟩ := key e'
    exact S.inj _ _ _ _ _ _ _ q1 q2 r1 r2
  · have hm' : m ≠ n := fun z => by rw [z, kset_same] at e; cases e
    rw [kset_ne hm'] at e
    exact S.free m e
  · obtain ⟨N, hN⟩ := S.fin
    refine ⟨max N (n + 1), fun m hm' => ?_⟩
    rw [kset_ne (by omega)]
    exact hN m (by omega)
theorem HoldM.toK {k : Kd} {a : Addr} {vs : List V} (h : HoldM C H k a vs) : ∃ o, H a = some o ∧ ∀ F : Hp, F a = some o → HoldK C F k a vs := by
  cases k with
  | lst => exact ⟨_, h, fun F e => e⟩
  | dct ks => obtain ⟨kvs, h1, h2⟩ := h; exact ⟨_, h1, fun F e => ⟨kvs, e, h2⟩⟩
  | obj c ns => obtain ⟨ca, dx, fs, h0, h1, h2⟩ := h; exact ⟨_, h1, fun F e => ⟨ca, dx, fs, h0, e, h2⟩⟩
  | tbk x => obtain ⟨h0, ps, h1, h2⟩ := h; exact ⟨_, h1, fun F e => ⟨h0, ps, e, h2⟩⟩
  | _ => exact h.elim
/-- a cell is kept from now on -/
theorem StR.freeze (S : StR C F ρ κ H) {n : Nat} {a : Addr} {k : Kd} {xs : List D} (hn : κ n = some (.live k xs)) (ha : ρ n = some a) :
    ∃ F', Ext F ρ F' ρ ∧ Rep C F' ρ (.node k xs) (.ref a) ∧ StR C F' ρ (kset κ n .dead) H := by
  obtain ⟨b, vs, h1, h2, h3, h4⟩ := S.live n k xs hn
  rw [ha] at h1
  cases h1
  obtain ⟨o, ho, hk⟩ := h3.toK
  have ex : Ext F ρ (upd F a o) ρ := ⟨fun b u e => by rw [upd_ne (ne_of_none e h2)]; exact e, fun _ _ e => e⟩
  refine ⟨upd F a o, ex, .node (hk _ upd_same) (h4.ext ex), ⟨fun b u e => ?_, fun m k1 x1 e => ?_, fun m m' b k1 x1 k2 x2 e e' r1 r2 => ?_, fun m e => ?_, ?_⟩⟩
  · by_cases hb : b = a
    · subst hb; rw [upd_same] at e; cases e; exact ho
    · rw [upd_ne hb] at e; exact S.sub b u e
  · have hm' : m ≠ n := fun z => by rw [z, kset_same] at e; cases e
    rw [kset_ne hm'] at e
    obtain ⟨b, ws, g1, g2, g3, g4⟩ := S.live m k1 x1 e
    have ne : b ≠ a := fun z => hm' (S.inj m n a k1 x1 k xs e hn (z ▸ g1) ha)
    exact ⟨b, ws, g1, by rw [upd_ne ne]; exact g2, g3, g4.ext ex⟩
  · have key : ∀ {m k1 x1}, kset κ n .dead m = some (.live k1 x1) → κ m = some (.live k1 x1) := by
      intro m k1 x1 e
      by_cases z : m = n
      · rw [z, kset_same] at e; cases e
      · rw [kset_ne z] at e; exact e
    exact S.inj _ _ _ _ _ _ _ (key e) (key e') r1 r2
  · have hm' : m ≠ n := fun z => by rw [z, kset_same] at e; cases e
    rw [kset_ne hm'] at e
    exact S.free m e
  · obtain ⟨N, hN⟩ := S.fin
    refine ⟨max N (n + 1), fun m hm' => ?_⟩
    rw [kset_ne (by omega)]
    exact hN m (by omega)
end
/-! ### slots -/
def RepS (C : Ctx) (F : Hp) (ρ : Loc0) (δ : DEnv) (σ : L2.St) : Prop := δ.length = σ.length ∧ ∀ (i : Nat) (d : D), δ[i]? = some (some d) → ∃ v : V, σ[i]? = some (some v) ∧ Rep C F ρ d v
section
variable {C : Ctx} {F F' : Hp} {ρ ρ' : Loc0} {δ : DEnv} {σ : L2.St}
theorem RepS.ext (e : Ext F ρ F' ρ') (h : RepS C F ρ δ σ) : RepS C F' ρ' δ σ := ⟨h.1, fun i d q => let ⟨v, a, b⟩ := h.2 i d q; ⟨v, a, b.ext e⟩⟩
theorem RepS.set (h : RepS C F ρ δ σ) {d : D} {v : V} (r : Rep C F ρ d v) (i : Nat) : RepS C F ρ (δ.set i (some d)) (σ.set i (some v)) := by
  refine ⟨by rw [List.length_set, List.length_set]; exact h.1, fun j e q => ?_⟩
  by_cases hj : i = j
  · subst hj
    by_cases hi : i < δ.length
    · rw [List.getElem?_set_self hi] at q
      cases q
      exact ⟨v, List.getElem?_set_self (h.1 ▸ hi), r⟩
    · rw [List.getElem?_eq_none (by simpa using hi)] at q; cases q
  · rw [List.getElem?_set_ne hj] at q ⊢
    exact h.2 j e q
theorem RepS.unset (h : RepS C F ρ δ σ) (i : Nat) : RepS C F ρ (δ.set i none) (σ.set i none) := by
  refine ⟨by rw [List.length_set, List.length_set]; exact h.1, fun j e q => ?_⟩
  by_cases hj : i = j
  · subst hj
    by_cases hi : i < δ.length
    · rw [List.getElem?_set_self hi] at q; cases q
    · rw [List.getElem?_eq_none (by simpa using hi)] at q; cases q
  · rw [List.getElem?_set_ne hj] at q ⊢
    exact h.2 j e q
def dwipe (δ : DEnv) : List Nat → DEnv
  | [] => δ
  | v :: vs => (dwipe δ vs).set v none
theorem RepS.wipe (h : RepS C F ρ δ σ) : ∀ vs : List Nat, RepS C F ρ (dwipe δ vs) (L2.wipe σ vs)
  | [] => h
  | v :: vs => (RepS.wipe h vs).unset v
end
/-- an exception: its class by name, its fields -/
structure RepX (C : Ctx) (F : Hp) (ρ : Loc0) (c : Str) (fs : List D) (cls : Value) (dd : Option Addr) : Prop where
  cls : C.mg c = some cls ∧ ∃ a, cls = .ref a
  fs : ∃ vs, RepL C F ρ fs vs ∧ ((vs = [] ∧ dd = none) ∨ ∃ d ns, dd = some d ∧ F d = some (.xd ns) ∧ vs = xflat ns)
theorem RepX.ext {C : Ctx} {F F' : Hp} {ρ ρ' : Loc0} (e : Ext F ρ F' ρ') {c : Str} {fs : List D} {cls : Value} {dd : Option Addr} (h : RepX C F ρ c fs cls dd) : RepX C F' ρ' c fs cls dd := by
  obtain ⟨h1, vs, h2, h3⟩ := h
  refine ⟨h1, vs, h2.ext e, ?_⟩
  rcases h3 with h3 | ⟨d, ns, h3, h4, h5⟩
  · exact .inl h3
  · exact .inr ⟨d, ns, h3, e.f _ _ h4, h5⟩
/-! ### posts -/
def Post (C : Ctx) (F : Hp) (ρ : Loc0) (QD : DQ) (Q : VK) : Prop := ∀ F' ρ' κ' H' d v, Ext F ρ F' ρ' → StR C F' ρ' κ' H' → Rep C F' ρ' d v → QD d κ' → Q v H'
def PostT (C : Ctx) (F : Hp) (ρ : Loc0) (QD : Bool → Kap → Prop) (Q : Bool → Hp → Prop) : Prop := ∀ F' ρ' κ' H' b, Ext F ρ F' ρ' → StR C F' ρ' κ' H' → QD b κ' → Q b H'
def PostA (C : Ctx) (F : Hp) (ρ : Loc0) (QD : List D → Kap → Prop) (Q : List V → Hp → Prop) : Prop := ∀ F' ρ' κ' H' ds vs, Ext F ρ F' ρ' → StR C F' ρ' κ' H' → RepL C F' ρ' ds vs → QD ds κ' → Q vs H'
def PostN (C : Ctx) (F : Hp) (ρ : Loc0) (QD : DEnv → Kap → Prop) (Q : L2.St → Hp → Prop) : Prop := ∀ F' ρ' κ' H' δ σ, Ext F ρ F' ρ' → StR C F' ρ' κ' H' → RepS C F' ρ' δ σ → QD δ κ' → Q σ H'
def PostX (C : Ctx) (F : Hp) (ρ : Loc0) (XD : DX) (W : WX) : Prop := ∀ F' ρ' κ' H' δ σ c fs cls dd, Ext F ρ F' ρ' → StR C F' ρ' κ' H' → RepS C F' ρ' δ σ → RepX C F' ρ' c fs cls dd → XD δ c fs κ' → W cls dd σ H'
structure PostE (C : Ctx) (F : Hp) (ρ : Loc0) (DD : DEnds) (T : Ends) : Prop where
  nx : PostN C F ρ DD.nx T.nx
  rt : Post C F ρ DD.rt T.rt
  bk : PostN C F ρ DD.bk T.bk
  ct : PostN C F ρ DD.ct T.ct
section
variable {C : Ctx} {F F' : Hp} {ρ ρ' : Loc0}
theorem Post.ext (e : Ext F ρ F' ρ') {QD : DQ} {Q : VK} (h : Post C F ρ QD Q) : Post C F' ρ' QD Q := fun F2 ρ2 κ H d v e2 => h F2 ρ2 κ H d v (e.trans e2)
theorem PostT.ext (e : Ext F ρ F' ρ') {QD : Bool → Kap → Prop} {Q : Bool → Hp → Prop} (h : PostT C F ρ QD Q) : PostT C F' ρ' QD Q := fun F2 ρ2 κ H d e2 => h F2 ρ2 κ H d (e.trans e2)
theorem PostA.ext (e : Ext F ρ F' ρ') {QD : List D → Kap → Prop} {Q : List V → Hp → Prop} (h : PostA C F ρ QD Q) : PostA C F' ρ' QD Q := fun F2 ρ2 κ H d v e2 => h F2 ρ2 κ H d v (e.trans e2)
theorem PostN.ext (e : Ext F ρ F' ρ') {QD : DEnv → Kap → Prop} {Q : L2.St → Hp → Prop} (h : PostN C F ρ QD Q) : PostN C F' ρ' QD Q := fun F2 ρ2 κ H d v e2 => h F2 ρ2 κ H d v (e.trans e2)
theorem PostX.ext (e : Ext F ρ F' ρ') {XD : DX} {W : WX} (h : PostX C F ρ XD W) : PostX C F' ρ' XD W := fun F2 ρ2 κ H a b c d x y e2 => h F2 ρ2 κ H a b c d x y (e.trans e2)
theorem PostE.ext (e : Ext F ρ F' ρ') {DD : DEnds} {T : Ends} (h : PostE C F ρ DD T) : PostE C F' ρ' DD T := ⟨h.nx.ext e, h.rt.ext e, h.bk.ext e, h.ct.ext e⟩
end
/-! ### lifts -/
def liftE (C : Ctx) (W : WX) (de : DE) : TE := fun σ H Q => ∃ F ρ κ δ XD QD, StR C F ρ κ H ∧ RepS C F ρ δ σ ∧ de δ κ XD QD ∧ Post C F ρ QD Q ∧ PostX C F ρ XD W
def liftT (C : Ctx) (W : WX) (dt : DT) : TT := fun σ H Q => ∃ F ρ κ δ XD QD, StR C F ρ κ H ∧ RepS C F ρ δ σ ∧ dt δ κ XD QD ∧ PostT C F ρ QD Q ∧ PostX C F ρ XD W
def liftA (C : Ctx) (W : WX) (da : DA) : TA := fun σ H Q => ∃ F ρ κ δ XD QD, StR C F ρ κ H ∧ RepS C F ρ δ σ ∧ da δ κ XD QD ∧ PostA C F ρ QD Q ∧ PostX C F ρ XD W
def liftS (C : Ctx) (W : WX) (ds : DS) : TS := fun T σ H => ∃ F ρ κ δ XD DD, StR C F ρ κ H ∧ RepS C F ρ δ σ ∧ ds δ κ XD DD ∧ PostE C F ρ DD T ∧ PostX C F ρ XD W
abbrev CtxOf (X : Cx) : Ctx := ⟨X.K, X.mg⟩
abbrev PED (X : Cx) (W : WX) (e : Expr) (de : DE) : Prop := PE X e (liftE (CtxOf X) W de)
abbrev PTD (X : Cx) (W : WX) (e : Expr) (dt : DT) : Prop := PT X e (liftT (CtxOf X) W dt)
abbrev PAD (X : Cx) (W : WX) (es : List Expr) (da : DA) : Prop := PA X es (liftA (CtxOf X) W da)
abbrev PSD (X : Cx) (W : WX) (st : Stmt) (ds : DS) : Prop := PS X st (liftS (CtxOf X) W ds)
abbrev PSsD (X : Cx) (W : WX) (st : List Stmt) (ds : DS) : Prop := PSs X st (liftS (CtxOf X) W ds)
section
variable {X : Cx}
theorem pe_weak {e : Expr} {t t' : TE} (h : PE X e t) (w : ∀ σ H Q, t' σ H Q → t σ H Q) : PE X e t' := ⟨fun pins s σ H Q I q => h.run pins s σ H Q I (w σ H Q q)⟩
theorem pt_weak {e : Expr} {t t' : TT} (h : PT X e t) (w : ∀ σ H Q, t' σ H Q → t σ H Q) : PT X e t' := ⟨fun pins s σ H Q I q => h.run pins s σ H Q I (w σ H Q q)⟩
theorem pa_weak {e : List Expr} {t t' : TA} (h : PA X e t) (w : ∀ σ H Q, t' σ H Q → t σ H Q) : PA X e t' := ⟨fun pos pins s σ H Q I q => h.run pos pins s σ H Q I (w σ H Q q)⟩
theorem ps_weak {e : Stmt} {t t' : TS} (h : PS X e t) (w : ∀ T σ H, t' T σ H → t T σ H) : PS X e t' := ⟨fun pins s σ H T I q => h.run pins s σ H T I (w T σ H q)⟩
theorem pss_weak {e : List Stmt} {t t' : TS} (h : PSs X e t) (w : ∀ T σ H, t' T σ H → t T σ H) : PSs X e t' := ⟨fun pins s σ H T I q => h.run pins s σ H T I (w T σ H q)⟩
end
end DL
/-! DL: expressions. -/
namespace DL
open PySem PySem.Spec PyProof.Rows L2
abbrev D1 := D → Kap → DQ → Prop
abbrev D2 := D → D → Kap → DQ → Prop
abbrev DN := List D → Kap → DQ → Prop
abbrev D1N := D → List D → Kap → DQ → Prop
def Sim1 (C : Ctx) (f : D1) (r : V → Hp → VK → Prop) : Prop := ∀ F ρ κ H x v QD Q, StR C F ρ κ H → Rep C F ρ x v → f x κ QD → Post C F ρ QD Q → r v H Q
def Sim2 (C : Ctx) (f : D2) (r : R2) : Prop := ∀ F ρ κ H x y v u QD Q, StR C F ρ κ H → Rep C F ρ x v → Rep C F ρ y u → f x y κ QD → Post C F ρ QD Q → r v u H Q
def SimN (C : Ctx) (f : DN) (r : List V → Hp → VK → Prop) : Prop := ∀ F ρ κ H xs vs QD Q, StR C F ρ κ H → RepL C F ρ xs vs → f xs κ QD → Post C F ρ QD Q → r vs H Q
def Sim1N (C : Ctx) (f : D1N) (r : V → List V → Hp → VK → Prop) : Prop := ∀ F ρ κ H x v xs vs QD Q, StR C F ρ κ H → Rep C F ρ x v → RepL C F ρ xs vs → f x xs κ QD → Post C F ρ QD Q → r v vs H Q
/-! ### combinators -/
def dVar (i : Nat) : DE := fun δ κ _ Q => match δ[i]? with
  | some (some d) => Q d κ
  | _ => False
def dC (d : D) : DE := fun _ κ _ Q => Q d κ
def dOp (f : D2) (a b : DE) : DE := fun δ κ X Q => a δ κ X fun x κ1 => b δ κ1 X fun y κ2 => f x y κ2 Q
def dUn (f : D1) (a : DE) : DE := fun δ κ X Q => a δ κ X fun x κ1 => f x κ1 Q
def dNil : DA := fun _ κ _ Q => Q [] κ
def dCons (a : DE) (r : DA) : DA := fun δ κ X Q => a δ κ X fun x κ1 => r δ κ1 X fun xs κ2 => Q (x :: xs) κ2
def dB (f : DN) (as : DA) : DE := fun δ κ X Q => as δ κ X fun xs κ1 => f xs κ1 Q
/-- what is new: kept (false), or a cell (true) -/
def fNew (m : Bool) (k : Kd) (xs : List D) (κ : Kap) (Q : DQ) : Prop := match m with
  | false => Q (.node k xs) κ
  | true => ∀ n, κ n = none → Q (.cell n) (kset κ n (.live k xs))
def dTup (as : DA) : DE := fun δ κ X Q => as δ κ X fun xs κ1 => xs.length ≤ sizeLine ∧ Q (.tup xs) κ1
def dLst (m : Bool) (as : DA) : DE := fun δ κ X Q => as δ κ X fun xs κ1 => xs.length ≤ sizeLine ∧ fNew m .lst xs κ1 Q
/-- what a thing holds -/
def view (x : D) (κ : Kap) : Option (Kd × List D) := match x with
  | .node k xs => some (k, xs)
  | .cell n => match κ n with
    | some (.live k xs) => some (k, xs)
    | _ => none
  | _ => none
def truth (x : D) (κ : Kap) : Option Bool := match x with
  | .non => some false
  | .bl b => some b
  | .int i => some (i != 0)
  | .str y => if y.length ≤ sizeLine then some ((y.length : Int) != 0) else none
  | x => match view x κ with
    | some (.lst, xs) => some (!xs.isEmpty)
    | some (.tup, xs) => some (!xs.isEmpty)
    | some (.dct ks, _) => some (!ks.isEmpty)
    | _ => none
def withTruth (x : D) (κ : Kap) (P : Bool → Prop) : Prop := match truth x κ with
  | some b => P b
  | none => False
def dAnd (a b : DE) : DE := fun δ κ X Q => a δ κ X fun x κ1 => withTruth x κ1 fun t => if t = true then b δ κ1 X Q else Q x κ1
def dOr (a b : DE) : DE := fun δ κ X Q => a δ κ X fun x κ1 => withTruth x κ1 fun t => if t = true then Q x κ1 else b δ κ1 X Q
def dNot (a : DE) : DE := fun δ κ X Q => a δ κ X fun x κ1 => withTruth x κ1 fun t => Q (.bl (!t)) κ1
def dIf (t : DT) (a b : DE) : DE := fun δ κ X Q => t δ κ X fun k κ1 => if k = true then a δ κ1 X Q else b δ κ1 X Q
def dChain (f g : D2) (a b c : DE) : DE := fun δ κ X Q => a δ κ X fun x κ1 => b δ κ1 X fun y κ2 => f x y κ2 fun z κ3 => ∃ k, z = .bl k ∧ if k = true then c δ κ3 X (fun w κ4 => g y w κ4 Q) else Q (.bl false) κ3
/-! tests -/
def tTru (a : DE) : DT := fun δ κ X Q => a δ κ X fun x κ1 => withTruth x κ1 fun t => Q t κ1
def tBl (a : DE) : DT := fun δ κ X Q => a δ κ X fun x κ1 => ∃ k, x = .bl k ∧ Q k κ1
def tAndD (a b : DT) : DT := fun δ κ X Q => a δ κ X fun t κ1 => if t = true then b δ κ1 X Q else Q false κ1
def tOrD (a b : DT) : DT := fun δ κ X Q => a δ κ X fun t κ1 => if t = true then Q true κ1 else b δ κ1 X Q
def tNotD (a : DT) : DT := fun δ κ X Q => a δ κ X fun t κ1 => Q (!t) κ1
/-! ### lifts of combinators -/
section
variable {C : Ctx} {W : WX} {σ : L2.St} {H : Hp} {Q : VK} {a b c : DE}
theorem lift_op {f : D2} {r : R2} (hs : Sim2 C f r) (h : liftE C W (dOp f a b) σ H Q) : tOp r (liftE C W a) (liftE C W b) σ H Q := by
  obtain ⟨F, ρ, κ, δ, XD, QD, S, R, h, P, PX⟩ := h
  exact ⟨F, ρ, κ, δ, XD, _, S, R, h, fun F1 ρ1 κ1 H1 x v e1 S1 R1 h1 => ⟨F1, ρ1, κ1, δ, XD, _, S1, R.ext e1, h1, fun F2 ρ2 κ2 H2 y u e2 S2 R2 h2 => hs _ _ _ _ _ _ _ _ _ _ S2 (R1.ext e2) R2 h2 (P.ext (e1.trans e2)), PX.ext e1⟩, PX⟩
theorem lift_nil {Q : List V → Hp → Prop} (h : liftA C W dNil σ H Q) : tNil σ H Q := by
  obtain ⟨F, ρ, κ, δ, XD, QD, S, R, h, P, PX⟩ := h
  exact P _ _ _ _ _ _ (Ext.refl _ _) S .nil h
theorem lift_cons {r : DA} {Q : List V → Hp → Prop} (h : liftA C W (dCons a r) σ H Q) : tCons (liftE C W a) (liftA C W r) σ H Q := by
  obtain ⟨F, ρ, κ, δ, XD, QD, S, R, h, P, PX⟩ := h
  exact ⟨F, ρ, κ, δ, XD, _, S, R, h, fun F1 ρ1 κ1 H1 x v e1 S1 R1 h1 => ⟨F1, ρ1, κ1, δ, XD, _, S1, R.ext e1, h1, fun F2 ρ2 κ2 H2 ys us e2 S2 R2 h2 => P _ _ _ _ _ _ (e1.trans e2) S2 (.cons (R1.ext e2) R2) h2, PX.ext e1⟩, PX⟩
theorem lift_B {f : DN} {r : List V → Hp → VK → Prop} {as : DA} (hs : SimN C f r) (h : liftE C W (dB f as) σ H Q) : tCB r (liftA C W as) σ H Q := by
  obtain ⟨F, ρ, κ, δ, XD, QD, S, R, h, P, PX⟩ := h
  exact ⟨F, ρ, κ, δ, XD, _, S, R, h, fun F1 ρ1 κ1 H1 x v e1 S1 R1 h1 => hs _ _ _ _ _ _ _ _ S1 R1 h1 (P.ext e1), PX⟩
end
/-! ### new things -/
section
variable {C : Ctx} {F : Hp} {ρ : Loc0} {κ : Kap} {H : Hp} {Q : VK} {QD : DQ}
/-- what is new: o is the object, by its content -/
theorem new_of {m : Bool} {k : Kd} {o : HO} {xs : List D} {vs : List V} (S : StR C F ρ κ H) (r : RepL C F ρ xs vs) (hk : ∀ (F : Hp) (p : Addr), F p = some o → HoldK C F k p vs) (hm : ∀ (F : Hp) (p : Addr), F p = some o → HoldM C F k p vs) (h : fNew m k xs κ QD) (P : Post C F ρ QD Q) :
    ∀ p, H p = none → Q (.ref p) (upd H p o) := fun p hp => by
  cases m with
  | false =>
    obtain ⟨e, S1⟩ := S.laid (o := o) hp
    exact P _ _ _ _ _ _ e S1 (.node (hk _ _ upd_same) (r.ext e)) h
  | true =>
    obtain ⟨n, hn⟩ := S.fresh
    obtain ⟨ρ', e, hr, S1⟩ := S.cell (o := o) hp (fun H' q => hm H' p q) r hn
    exact P _ _ _ _ _ _ e S1 (.cell hr) (h n hn)
theorem new_lst {m : Bool} {xs : List D} {vs : List V} (S : StR C F ρ κ H) (r : RepL C F ρ xs vs) (h : fNew m .lst xs κ QD) (P : Post C F ρ QD Q) : ∀ p, H p = none → Q (.ref p) (upd H p (.lst vs)) :=
  new_of (k := .lst) S r (fun _ _ e => e) (fun _ _ e => e) h P
theorem new_tup {xs : List D} {vs : List V} (S : StR C F ρ κ H) (r : RepL C F ρ xs vs) (h : QD (.tup xs) κ) (P : Post C F ρ QD Q) : ∀ p, H p = none → Q (.ref p) (upd H p (.tup vs)) := fun p hp => by
  obtain ⟨e, S1⟩ := S.laid (o := .tup vs) hp
  exact P _ _ _ _ _ _ e S1 (.node (k := .tup) (SqT.of upd_same) (r.ext e)) h
/-- a kept thing, or a cell, as it lies in the heap -/
theorem view_at {x : D} {v : V} {k : Kd} {xs : List D} (S : StR C F ρ κ H) (r : Rep C F ρ x v) (h : view x κ = some (k, xs)) : ∃ a vs, v = .ref a ∧ HoldK C H k a vs ∧ RepL C F ρ xs vs := by
  cases r with
  | node hh rr =>
    cases h
    exact ⟨_, _, rfl, hh.ext S.sub, rr⟩
  | @cell n a hr =>
    have h' : (match κ n with
      | some (.live k xs) => some (k, xs)
      | _ => none) = some (k, xs) := h
    cases e : κ n with
    | none => rw [e] at h'; cases h'
    | some c =>
      cases c with
      | dead => rw [e] at h'; cases h'
      | live k' xs' =>
        rw [e] at h'
        cases h'
        obtain ⟨b, vs, h1, h2, h3, h4⟩ := S.live n k xs e
        rw [hr] at h1
        cases h1
        obtain ⟨o, ho, hk⟩ := h3.toK
        exact ⟨a, vs, rfl, hk H ho, h4⟩
  | _ => cases h
/-- a cell, as it may be written -/
theorem cell_at {n : Nat} {v : V} {k : Kd} {xs : List D} (S : StR C F ρ κ H) (r : Rep C F ρ (.cell n) v) (h : κ n = some (.live k xs)) : ∃ a vs, v = .ref a ∧ ρ n = some a ∧ HoldM C H k a vs ∧ RepL C F ρ xs vs := by
  cases r with
  | @cell n a hr =>
    obtain ⟨b, vs, h1, h2, h3, h4⟩ := S.live n k xs h
    rw [hr] at h1
    cases h1
    exact ⟨a, vs, rfl, hr, h3, h4⟩
theorem truth_at {x : D} {v : V} {t : Bool} (S : StR C F ρ κ H) (r : Rep C F ρ x v) (h : truth x κ = some t) : TruV C.K v H t := by
  have key : ∀ {x : D} {v : V}, Rep C F ρ x v → (match view x κ with
    | some (.lst, xs) => some (!xs.isEmpty)
    | some (.tup, xs) => some (!xs.isEmpty)
    | some (.dct ks, _) => some (!ks.isEmpty)
    | _ => none) = some t → TruV C.K v H t := by
    intro x v r h
    cases e : view x κ with
    | none => rw [e] at h; cases h
    | some p =>
      obtain ⟨k, xs⟩ := p
      obtain ⟨a, vs, rfl, hk, rl⟩ := view_at S r e
      have el : xs.isEmpty = vs.isEmpty := by
        have := rl.length
        cases xs <;> cases vs <;> first | rfl | (simp at this)
      rw [e] at h
      cases k with
      | lst => cases h; exact .inl ⟨vs, SqL.of hk, by rw [el]⟩
      | tup => cases h; exact .inr (.inl ⟨vs, hk, by rw [el]⟩)
      | dct ks =>
        cases h
        obtain ⟨kvs, h1, rfl, h3⟩ := hk
        exact .inr (.inr ⟨kvs, h1, by cases kvs <;> rfl⟩)
      | _ => cases h
  cases x with
  | non => cases r; cases h; rfl
  | bl b => cases r; cases h; rfl
  | int i => cases r; cases h; rfl
  | str y =>
    cases r
    have h' : (if y.length ≤ sizeLine then some ((y.length : Int) != 0) else none) = some t := h
    by_cases hy : y.length ≤ sizeLine
    · rw [if_pos hy] at h'
      cases h'
      exact ⟨hy, rfl⟩
    · rw [if_neg hy] at h'; cases h'
  | node k xs => exact key r h
  | cell n => exact key r h
  | _ => cases h
theorem withTruth_at {x : D} {v : V} {P : Bool → Prop} (S : StR C F ρ κ H) (r : Rep C F ρ x v) (h : withTruth x κ P) : ∃ t, TruV C.K v H t ∧ P t := by
  unfold withTruth at h
  cases e : truth x κ with
  | none => rw [e] at h; exact h.elim
  | some t => rw [e] at h; exact ⟨t, truth_at S r e, h⟩
end
/-! ### expressions' rules -/
section
variable {X : Cx} {W : WX} {e e1 e2 e3 : Expr} {es : List Expr} {a b c : DE} {as : DA} {t u : DT} {pos : Pos}
theorem pd_var (i : Nat) {x : Str} {pos : Pos} (hN : X.N[i]? = some x := by rfl) (hv : Vis X.env.scope x := by first | exact Or.inl rfl | exact Or.inr (Or.inl rfl) | exact Or.inr (Or.inr rfl)) (hd : (x == ("__debug__" : Str)) = false := by decide)
    (hcd : (x == ("__classdict__" : Str)) = false := by decide) : PED X W (.Name x pos) (dVar i) := pe_weak (pe_var hN hv hd hcd) fun σ H Q ⟨F, ρ, κ, δ, XD, QD, S, R, h, P, PX⟩ => by
  unfold dVar at h
  cases e : δ[i]? with
  | none => rw [e] at h; exact h.elim
  | some o =>
    cases o with
    | none => rw [e] at h; exact h.elim
    | some d =>
      rw [e] at h
      obtain ⟨v, h1, h2⟩ := R.2 i d e
      exact ⟨v, h1, P _ _ _ _ _ _ (Ext.refl _ _) S h2 h⟩
theorem pd_c {d : D} {v : V} (h : PE X e (tC v)) (r : ∀ F ρ, Rep (CtxOf X) F ρ d v) : PED X W e (dC d) := pe_weak h fun σ H Q ⟨F, ρ, κ, δ, XD, QD, S, R, h, P, PX⟩ => P _ _ _ _ _ _ (Ext.refl _ _) S (r _ _) h
theorem pd_int {i j pos} : PED X W (.Constant (.int i) j pos) (dC (.int i)) := pd_c pe_int fun _ _ => .int i
theorem pd_bl {b j pos} : PED X W (.Constant (.bool b) j pos) (dC (.bl b)) := pd_c pe_bl fun _ _ => .bl b
theorem pd_op {op : Operator} {f : D2} {r : R2} (ho : OpR X (binaryOp op) r) (hs : Sim2 (CtxOf X) f r) (ha : PED X W e1 a) (hb : PED X W e2 b) : PED X W (.BinOp e1 op e2 pos) (dOp f a b) := pe_weak (pe_op ho ha hb) fun _ _ _ => lift_op hs
theorem pd_cmp {op : CmpOp} {f : D2} {r : R2} (ho : OpR X (compareOp op) r) (hs : Sim2 (CtxOf X) f r) (ha : PED X W e1 a) (hb : PED X W e2 b) (hm : behindInMarks op e2 = false := by first | exact nomark _ | rfl) : PED X W (.Compare e1 [op] [e2] pos) (dOp f a b) := pe_weak (pe_cmpR ho ha hb hm) fun _ _ _ => lift_op hs
theorem pa_nilD : PAD X W [] dNil := pa_weak pa_nil fun _ _ _ => lift_nil
theorem pa_consD (ha : PED X W e a) (hr : PAD X W es as) (hs : starEach (e :: es) X.env = (false, eval e X.env) :: starEach es X.env := by rfl) : PAD X W (e :: es) (dCons a as) := pa_weak (pa_cons ha hr hs) fun _ _ _ => lift_cons
theorem pd_tup {x1} (h : PAD X W es as) : PED X W (.Tuple es x1 pos) (dTup as) := pe_weak (pe_tup h) fun σ H Q ⟨F, ρ, κ, δ, XD, QD, S, R, h, P, PX⟩ =>
  ⟨F, ρ, κ, δ, XD, _, S, R, h, fun F1 ρ1 κ1 H1 xs vs e1 S1 R1 h1 => ⟨by rw [← R1.length]; exact h1.1, new_tup S1 R1 h1.2 (P.ext e1)⟩, PX⟩
theorem pd_lst (m : Bool) (h : PAD X W es as) : PED X W (.List es pos) (dLst m as) := pe_weak (pe_lst h) fun σ H Q ⟨F, ρ, κ, δ, XD, QD, S, R, h, P, PX⟩ =>
  ⟨F, ρ, κ, δ, XD, _, S, R, h, fun F1 ρ1 κ1 H1 xs vs e1 S1 R1 h1 => ⟨by rw [← R1.length]; exact h1.1, new_lst S1 R1 h1.2 (P.ext e1)⟩, PX⟩
theorem pd_one {op} (h : PED X W e a) : PED X W (.BoolOp op [e] pos) a := pe_one h
theorem pd_and (ha : PED X W e1 a) (hb : PED X W (.BoolOp .And (e2 :: es) pos) b) : PED X W (.BoolOp .And (e1 :: e2 :: es) pos) (dAnd a b) := pe_weak (pe_andT ha hb) fun σ H Q ⟨F, ρ, κ, δ, XD, QD, S, R, h, P, PX⟩ =>
  ⟨F, ρ, κ, δ, XD, _, S, R, h, fun F1 ρ1 κ1 H1 x v e1 S1 R1 h1 => by
    obtain ⟨t, ht, q⟩ := withTruth_at S1 R1 h1
    refine ⟨t, ht, ?_⟩
    cases t with
    | true => exact ⟨F1, ρ1, κ1, δ, XD, _, S1, R.ext e1, q, P.ext e1, PX.ext e1⟩
    | false => exact P _ _ _ _ _ _ e1 S1 R1 q, PX⟩
theorem pd_not (ha : PED X W e1 a) : PED X W (.UnaryOp .Not e1 pos) (dNot a) := pe_weak (pe_notT ha) fun σ H Q ⟨F, ρ, κ, δ, XD, QD, S, R, h, P, PX⟩ =>
  ⟨F, ρ, κ, δ, XD, _, S, R, h, fun F1 ρ1 κ1 H1 x v e1 S1 R1 h1 => by
    obtain ⟨t, ht, q⟩ := withTruth_at S1 R1 h1
    exact ⟨t, ht, P _ _ _ _ _ _ e1 S1 (.bl _) q⟩, PX⟩
theorem pd_if (ht : PTD X W e1 t) (ha : PED X W e2 a) (hb : PED X W e3 b) : PED X W (.IfExp e1 e2 e3 pos) (dIf t a b) := pe_weak (pe_ifExp ht ha hb) fun σ H Q ⟨F, ρ, κ, δ, XD, QD, S, R, h, P, PX⟩ =>
  ⟨F, ρ, κ, δ, XD, _, S, R, h, fun F1 ρ1 κ1 H1 k e1 S1 h1 => by
    cases k with
    | true => exact ⟨F1, ρ1, κ1, δ, XD, _, S1, R.ext e1, h1, P.ext e1, PX.ext e1⟩
    | false => exact ⟨F1, ρ1, κ1, δ, XD, _, S1, R.ext e1, h1, P.ext e1, PX.ext e1⟩, PX⟩
/-! tests -/
theorem lift_tBl {C : Ctx} {te : TE} {de : DE} (hl : ∀ {σ H Q}, liftE C W de σ H Q → te σ H Q) {σ : L2.St} {H : Hp} {Q : Bool → Hp → Prop} (h : liftT C W (tBl de) σ H Q) : tTest te σ H Q := by
  obtain ⟨F, ρ, κ, δ, XD, QD, S, R, h, P, PX⟩ := h
  refine hl ⟨F, ρ, κ, δ, XD, _, S, R, h, fun F1 ρ1 κ1 H1 x v e1 S1 R1 h1 => ?_, PX⟩
  obtain ⟨k, rfl, q⟩ := h1
  cases R1
  exact ⟨k, rfl, P _ _ _ _ _ e1 S1 q⟩
theorem pt_cmpD {op : CmpOp} {f : D2} {r : R2} (ho : OpR X (compareOp op) r) (hs : Sim2 (CtxOf X) f r) (ha : PED X W e1 a) (hb : PED X W e2 b) (hm : behindInMarks op e2 = false := by first | exact nomark _ | rfl) : PTD X W (.Compare e1 [op] [e2] pos) (tBl (dOp f a b)) :=
  pt_weak (pt_cmpR ho ha hb hm) fun _ _ _ => lift_tBl (lift_op hs)
theorem pt_truD (ha : PED X W e a) (he : ∀ whole, isTrue e X.env whole = (do let v ← whole; standAt e.pos; holding [v] (truthy v)) := by intro _; rfl) : PTD X W e (tTru a) := pt_weak (pt_truth ha he) fun σ H Q ⟨F, ρ, κ, δ, XD, QD, S, R, h, P, PX⟩ =>
  ⟨F, ρ, κ, δ, XD, _, S, R, h, fun F1 ρ1 κ1 H1 x v e1 S1 R1 h1 => by
    obtain ⟨t, ht, q⟩ := withTruth_at S1 R1 h1
    exact ⟨t, ht, P _ _ _ _ _ e1 S1 q⟩, PX⟩
theorem pt_notD (ha : PTD X W e t) : PTD X W (.UnaryOp .Not e pos) (tNotD t) := pt_weak (pt_not ha) fun σ H Q ⟨F, ρ, κ, δ, XD, QD, S, R, h, P, PX⟩ =>
  ⟨F, ρ, κ, δ, XD, _, S, R, h, fun F1 ρ1 κ1 H1 x e1 S1 h1 => P _ _ _ _ _ e1 S1 h1, PX⟩
abbrev PWD (X : Cx) (W : WX) (e : Expr) (dt : DT) : Prop := PW X e (liftT (CtxOf X) W dt)
theorem pw_weak {e : Expr} {t t' : TT} (h : PW X e t) (w : ∀ σ H Q, t' σ H Q → t σ H Q) : PW X e t' := ⟨fun wh pins s σ H Q I q => h.run wh pins s σ H Q I (w σ H Q q)⟩
theorem pw_and1D (ha : PTD X W e t) : PWD X W (.BoolOp .And [e] pos) t := pw_and1 ha
theorem pw_or1D (ha : PTD X W e t) : PWD X W (.BoolOp .Or [e] pos) t := pw_or1 ha
theorem pw_andD (ha : PTD X W e1 t) (hb : PWD X W (.BoolOp .And (e2 :: es) pos) u) : PWD X W (.BoolOp .And (e1 :: e2 :: es) pos) (tAndD t u) := pw_weak (pw_and ha hb) fun σ H Q ⟨F, ρ, κ, δ, XD, QD, S, R, h, P, PX⟩ =>
  ⟨F, ρ, κ, δ, XD, _, S, R, h, fun F1 ρ1 κ1 H1 k e1 S1 h1 => by
    cases k with
    | true => exact ⟨F1, ρ1, κ1, δ, XD, _, S1, R.ext e1, h1, P.ext e1, PX.ext e1⟩
    | false => exact P _ _ _ _ _ e1 S1 h1, PX⟩
theorem pw_orD (ha : PTD X W e1 t) (hb : PWD X W (.BoolOp .Or (e2 :: es) pos) u) : PWD X W (.BoolOp .Or (e1 :: e2 :: es) pos) (tOrD t u) := pw_weak (pw_or ha hb) fun σ H Q ⟨F, ρ, κ, δ, XD, QD, S, R, h, P, PX⟩ =>
  ⟨F, ρ, κ, δ, XD, _, S, R, h, fun F1 ρ1 κ1 H1 k e1 S1 h1 => by
    cases k with
    | true => exact P _ _ _ _ _ e1 S1 h1
    | false => exact ⟨F1, ρ1, κ1, δ, XD, _, S1, R.ext e1, h1, P.ext e1, PX.ext e1⟩, PX⟩
/-! built-ins by name -/
theorem pd_callB {x : Str} {p : Pos} {id : String} {f : DN} {r : List V → Hp → VK → Prop} (hc : CallR X (.builtin id) r) (hs : SimN (CtxOf X) f r) (hm : X.mg x = none) (ha : PAD X W (e :: es) as) (hg : Gl X x := by rfl) (hv : bootBuiltins x = some (.builtin id) := by decide +kernel) (hn : x ≠ "__name__" := by decide) (hdb : (x == ("__debug__" : Str)) = false := by decide)
    (he : starEach (e :: es) X.env = (false, eval e X.env) :: starEach es X.env := by rfl) (hpl : (backTo pos (starEach es X.env)).any (·.1) = false := by rfl) : PED X W (.Call (.Name x p) (e :: es) [] pos) (dB f as) :=
  pe_weak (pe_callB hc hg hm hv ha hn hdb he hpl) fun _ _ _ => lift_B hs
theorem pd_callTy {x : Str} {p : Pos} {T : String} {f : DN} {r : List V → Hp → VK → Prop} (hc : CallR X (.type T) r) (hs : SimN (CtxOf X) f r) (hm : X.mg x = none) (ha : PAD X W (e :: es) as) (hg : Gl X x := by rfl) (hv : bootBuiltins x = some (.type T) := by decide +kernel) (hn : x ≠ "__name__" := by decide) (hdb : (x == ("__debug__" : Str)) = false := by decide)
    (he : starEach (e :: es) X.env = (false, eval e X.env) :: starEach es X.env := by rfl) (hpl : (backTo pos (starEach es X.env)).any (·.1) = false := by rfl) : PED X W (.Call (.Name x p) (e :: es) [] pos) (dB f as) :=
  pe_weak (pe_callTy hc hg hm hv ha hn hdb he hpl) fun _ _ _ => lift_B hs
theorem pd_tyName {x : Str} {p : Pos} {T : String} (hm : X.mg x = none) (hg : Gl X x := by rfl) (hv : bootBuiltins x = some (.type T) := by decide +kernel) (hn : x ≠ "__name__" := by decide) (hdb : (x == ("__debug__" : Str)) = false := by decide) : PED X W (.Name x p) (dC (.ty T)) :=
  pd_c (v := .ty T) (pe_bltn hg hm hv rfl hn hdb) fun _ _ => .ty T
theorem pd_glbInt {x : Str} {i : Int} {p : Pos} (hm : ∃ t, X.mg x = some (.int i t)) (hg : Gl X x := by rfl) (hdb : (x == ("__debug__" : Str)) = false := by decide) : PED X W (.Name x p) (dC (.int i)) := by
  obtain ⟨t, hm⟩ := hm
  exact pd_c (v := .int i) (pe_glob hg hm ⟨t, rfl⟩ hdb) fun _ _ => .int i
end
/-! ### operators over data -/
theorem OpR.or {X : Cx} {f : Value → Value → Sem Value} {r r' : R2} (h : OpR X f r) (h' : OpR X f r') : OpR X f (fun x y H Q => r x y H Q ∨ r' x y H Q) := by
  intro pins s σ H x y v u Q I rx ry q
  rcases q with q | q
  · exact h pins s σ H x y v u Q I rx ry q
  · exact h' pins s σ H x y v u Q I rx ry q
theorem CallR.or {X : Cx} {f : Value} {r r' : List V → Hp → VK → Prop} (h : CallR X f r) (h' : CallR X f r') : CallR X f (fun xs H Q => r xs H Q ∨ r' xs H Q) := by
  intro pins s σ H xs us Q I rx q
  rcases q with q | q
  · exact h pins s σ H xs us Q I rx q
  · exact h' pins s σ H xs us Q I rx q
/-- two whole numbers, under a condition -/
def fI (c : Int → Int → Prop) (g : Int → Int → D) : D2 := fun x y κ Q => match x, y with
  | .int i, .int j => c i j ∧ Q (g i j) κ
  | _, _ => False
theorem sim_I {C : Ctx} {c : Int → Int → Prop} {g : Int → Int → Int} : Sim2 C (fI c fun i j => .int (g i j)) (rI c fun i j => .int (g i j)) := by
  intro F ρ κ H x y v u QD Q S rx ry h P
  cases x <;> cases y <;> first | exact h.elim | skip
  cases rx; cases ry
  exact ⟨_, _, rfl, rfl, h.1, P _ _ _ _ _ _ (Ext.refl _ _) S (.int _) h.2⟩
theorem sim_I0 {C : Ctx} {g : Int → Int → Int} : Sim2 C (fI (fun _ _ => True) fun i j => .int (g i j)) (rI0 fun i j => .int (g i j)) := by
  intro F ρ κ H x y v u QD Q S rx ry h P
  cases x <;> cases y <;> first | exact h.elim | skip
  cases rx; cases ry
  exact ⟨_, _, rfl, rfl, P _ _ _ _ _ _ (Ext.refl _ _) S (.int _) h.2⟩
/-- a floor division's divisor -/
def CDivD (_ j : Int) : Prop := j ≠ 0 ∧ j.natAbs.log2 < 9000
theorem op_fdivD {X : Cx} : OpR X (binaryOp .FloorDiv) (rI CDivD fun i j => .int (i.fdiv j)) := opI fun _ _ _ _ _ _ _ hc q => floordiv_int hc.1 q (.inl (PyProof.noPylong_of_log2 hc.2))
def fSub : D2 := fI (fun _ _ => True) fun i j => .int (i - j)
def fDiv : D2 := fI CDivD fun i j => .int (i.fdiv j)
def fMod : D2 := fI (fun _ j => j ≠ 0) fun i j => .int (i.fmod j)
def fMulI : D2 := fI CMulW fun i j => .int (i * j)
def fPow : D2 := fI CPow fun i j => .int (i ^ j.toNat)
section
variable {X : Cx} {W : WX} {e1 e2 : Expr} {a b : DE} {pos : Pos}
theorem pd_sub (ha : PED X W e1 a) (hb : PED X W e2 b) : PED X W (.BinOp e1 .Sub e2 pos) (dOp fSub a b) := pd_op op_sub sim_I0 ha hb
theorem pd_fdiv (ha : PED X W e1 a) (hb : PED X W e2 b) : PED X W (.BinOp e1 .FloorDiv e2 pos) (dOp fDiv a b) := pd_op op_fdivD sim_I ha hb
theorem pd_mod (ha : PED X W e1 a) (hb : PED X W e2 b) : PED X W (.BinOp e1 .Mod e2 pos) (dOp fMod a b) := pd_op op_modN sim_I ha hb
theorem pd_mulI (ha : PED X W e1 a) (hb : PED X W e2 b) : PED X W (.BinOp e1 .Mult e2 pos) (dOp fMulI a b) := pd_op op_mulW sim_I ha hb
theorem pd_pow (ha : PED X W e1 a) (hb : PED X W e2 b) : PED X W (.BinOp e1 .Pow e2 pos) (dOp fPow a b) := pd_op op_pow sim_I ha hb
end
/-- a + b: numbers, texts, lists, tuples; what is new is kept, or a cell -/
def fAdd (m : Bool) : D2 := fun x y κ Q => match x, y with
  | .int i, .int j => Q (.int (i + j)) κ
  | .str i, .str j => i.length + j.length ≤ sizeLine ∧ Q (.str (i ++ j)) κ
  | x, y => match view x κ, view y κ with
    | some (.lst, xs), some (.lst, ys) => xs.length + ys.length ≤ sizeLine ∧ fNew m .lst (xs ++ ys) κ Q
    | some (.tup, xs), some (.tup, ys) => xs ≠ [] ∧ ys ≠ [] ∧ xs.length + ys.length ≤ sizeLine ∧ Q (.tup (xs ++ ys)) κ
    | _, _ => False
def rAddV (K : PySem.W.Frag) : R2 := fun x y H Q => (rI0 fun i j => .int (i + j)) x y H Q ∨ (∃ i j, x = .str i ∧ y = .str j ∧ i.length + j.length ≤ sizeLine ∧ Q (.str (i ++ j)) H) ∨ rCat x y H Q ∨ rCatT K x y H Q
theorem op_addV {X : Cx} : OpR X (binaryOp .Add) (rAddV X.K) := OpR.or op_add (OpR.or op_add_str (OpR.or op_cat op_catT))
theorem sim_add {C : Ctx} {m : Bool} : Sim2 C (fAdd m) (rAddV C.K) := by
  intro F ρ κ H x y v u QD Q S rx ry h P
  have key : (match view x κ, view y κ with
    | some (.lst, xs), some (.lst, ys) => xs.length + ys.length ≤ sizeLine ∧ fNew m .lst (xs ++ ys) κ QD
    | some (.tup, xs), some (.tup, ys) => xs ≠ [] ∧ ys ≠ [] ∧ xs.length + ys.length ≤ sizeLine ∧ QD (.tup (xs ++ ys)) κ
    | _, _ => False) → rAddV C.K v u H Q := by
    intro h
    cases ex : view x κ with
    | none => rw [ex] at h; exact h.elim
    | some p =>
      cases ey : view y κ with
      | none => rw [ex, ey] at h; exact (show False by obtain ⟨k, xs⟩ := p; cases k <;> exact h).elim
      | some q =>
        obtain ⟨k, xs⟩ := p
        obtain ⟨k', ys⟩ := q
        rw [ex, ey] at h
        obtain ⟨p, vs, rfl, hk, rl⟩ := view_at S rx ex
        obtain ⟨q, us, rfl, hk', rl'⟩ := view_at S ry ey
        have l1 := rl.length
        have l2 := rl'.length
        cases k <;> cases k' <;> first | exact h.elim | skip
        · exact .inr (.inr (.inl ⟨p, q, vs, us, rfl, rfl, hk, hk', by rw [← l1, ← l2]; exact h.1, new_lst S (rl.append rl') h.2 P⟩))
        · obtain ⟨h1, h2, h3, h4⟩ := h
          refine .inr (.inr (.inr ⟨p, q, vs, us, rfl, rfl, hk, hk', ?_, by rw [← l1, ← l2]; exact h3, fun z => ?_, fun _ => new_tup S (rl.append rl') h4 P⟩))
          · intro z
            rw [z] at l1
            cases xs with
            | nil => exact h1 rfl
            | cons => simp at l1
          · rw [z] at l2
            cases ys with
            | nil => exact absurd rfl h2
            | cons => simp at l2
  cases x with
  | int i =>
    cases y with
    | int j => cases rx; cases ry; exact .inl ⟨i, j, rfl, rfl, P _ _ _ _ _ _ (Ext.refl _ _) S (.int _) h⟩
    | _ => exact key h
  | str i =>
    cases y with
    | str j => cases rx; cases ry; exact .inr (.inl ⟨i, j, rfl, rfl, h.1, P _ _ _ _ _ _ (Ext.refl _ _) S (.str _) h.2⟩)
    | _ => exact key h
  | _ => exact key h
theorem pd_add {X : Cx} {W : WX} {e1 e2 : Expr} {a b : DE} {pos : Pos} (m : Bool) (ha : PED X W e1 a) (hb : PED X W e2 b) : PED X W (.BinOp e1 .Add e2 pos) (dOp (fAdd m) a b) := pd_op op_addV sim_add ha hb
end DL
/-! DL: built-ins, subscripts, comparisons of data. -/
namespace DL
open PySem PySem.Spec PyProof.Rows L2
/-! ### data as the library's own data -/
def keyP : Key → PyData
  | .inl i => .int i
  | .inr x => .str x
mutual
inductive Pd (κ : Kap) : D → PyData → Prop
  | non : Pd κ .non .none
  | bl (b : Bool) : Pd κ (.bl b) (.bool b)
  | int (i : Int) : Pd κ (.int i) (.int i)
  | str (x : Str) : Pd κ (.str x) (.str x)
  | lst {x : D} {xs : List D} {ps : List PyData} (h : view x κ = some (.lst, xs)) (t : PdL κ xs ps) : Pd κ x (.list ps)
  | tup {x : D} {xs : List D} {ps : List PyData} (h : view x κ = some (.tup, xs)) (t : PdL κ xs ps) : Pd κ x (.tuple ps)
  | dct {x : D} {ks : List Key} {xs : List D} {ps : List PyData} (h : view x κ = some (.dct ks, xs)) (t : PdL κ xs ps) : Pd κ x (.dict ((ks.map keyP).zip ps))
inductive PdL (κ : Kap) : List D → List PyData → Prop
  | nil : PdL κ [] []
  | cons {d : D} {ds : List D} {p : PyData} {ps : List PyData} (h : Pd κ d p) (t : PdL κ ds ps) : PdL κ (d :: ds) (p :: ps)
end
mutual
def pdata : D → Option PyData
  | .non => some .none
  | .bl b => some (.bool b)
  | .int i => some (.int i)
  | .str x => some (.str x)
  | .node .lst xs => match pdataL xs with
    | some ps => some (.list ps)
    | none => none
  | .node .tup xs => match pdataL xs with
    | some ps => some (.tuple ps)
    | none => none
  | .node (.dct ks) xs => match pdataL xs with
    | some ps => some (.dict ((ks.map keyP).zip ps))
    | none => none
  | _ => none
def pdataL : List D → Option (List PyData)
  | [] => some []
  | x :: xs => match pdata x, pdataL xs with
    | some p, some ps => some (p :: ps)
    | _, _ => none
end
mutual
theorem pd_of {κ : Kap} : ∀ {x : D} {p : PyData}, pdata x = some p → Pd κ x p
  | .non, _, h => by cases h; exact .non
  | .bl b, _, h => by cases h; exact .bl b
  | .int i, _, h => by cases h; exact .int i
  | .str x, _, h => by cases h; exact .str x
  | .node .lst xs, p, h => by
    unfold pdata at h
    cases e : pdataL xs with
    | none => rw [e] at h; cases h
    | some ps => rw [e] at h; cases h; exact .lst rfl (pdL_of e)
  | .node .tup xs, p, h => by
    unfold pdata at h
    cases e : pdataL xs with
    | none => rw [e] at h; cases h
    | some ps => rw [e] at h; cases h; exact .tup rfl (pdL_of e)
  | .node (.dct ks) xs, p, h => by
    unfold pdata at h
    cases e : pdataL xs with
    | none => rw [e] at h; cases h
    | some ps => rw [e] at h; cases h; exact .dct rfl (pdL_of e)
  | .node .klst xs, p, h => by cases h
  | .node (.obj _ _) xs, p, h => by cases h
  | .node (.exc _ _) xs, p, h => by cases h
  | .node (.exa _ _ _) xs, p, h => by cases h
  | .node (.cau ..) xs, p, h => by cases h
  | .node (.tbk _) xs, p, h => by cases h
  | .node (.cod _) xs, p, h => by cases h
  | .node (.clo ..) xs, p, h => by cases h
  | .node (.fnk ..) xs, p, h => by cases h
  | .ty _, _, h => by cases h
  | .glb _, _, h => by cases h
  | .cell _, _, h => by cases h
theorem pdL_of {κ : Kap} : ∀ {xs : List D} {ps : List PyData}, pdataL xs = some ps → PdL κ xs ps
  | [], _, h => by cases h; exact .nil
  | x :: xs, _, h => by
    unfold pdataL at h
    cases e1 : pdata x with
    | none => rw [e1] at h; cases h
    | some p =>
      cases e2 : pdataL xs with
      | none => rw [e1, e2] at h; cases h
      | some ps => rw [e1, e2] at h; cases h; exact .cons (pd_of e1) (pdL_of e2)
end
/-- what a rule may lean on where it stands -/
structure Good (k : Nat) (X : Cx) (W : WX) : Prop where
  tk : L2N.Takes X W
  po : PassesOwn (model X.prog X.w) X.A X.env X.xe
  rm : Room k X.A
  gd : X.A.guards = some []
  sm : ∃ o, X.base.get? sysModules = some o
  calm : X.calm = true
  nd : X.N.Nodup
theorem Good.mono {j k : Nat} {X : Cx} {W : WX} (g : Good k X W) (h : j ≤ k) : Good j X W := ⟨g.tk, g.po, g.rm.mono h, g.gd, g.sm, g.calm, g.nd⟩
section
variable {X : Cx} {pins : List (Addr × Obj)} {σ : L2.St} {H : Hp} {s : Shared} {F : Hp} {ρ : Loc0} {κ : Kap}
theorem pairs_read : ∀ {es : List DictEntry} {kvs : List (Key × Value)} {P : Program} {w : World}, Pairs (mixKind P w) es kvs → (∃ as, ReadsAll s.heap (es.map (·.key)) ((kvs.map (·.1)).map keyP) as ∧ as = []) ∧ es.map (·.val) = kvs.map (·.2)
  | _, _, _, _, .nil => ⟨⟨[], .nil, rfl⟩, rfl⟩
  | _, _, P, w, .cons (e := e) (kv := kv) h1 h2 t => by
    obtain ⟨⟨as, h3, h4⟩, h5⟩ := pairs_read t
    subst h4
    refine ⟨⟨[] ++ [], ?_, rfl⟩, ?_⟩
    · rw [List.map_cons, List.map_cons, List.map_cons]
      refine .cons ?_ h3
      have h1' : keyIs kv.1 e.key = true := h1
      rcases keyIs_shape h1' with ⟨i, t, e1, e2⟩ | ⟨x, t, e1, e2⟩
      · rw [e1, e2]; exact .int i t
      · rw [e1, e2]; exact .str x t
    · rw [List.map_cons, List.map_cons, h5, h2]
theorem kv_split : ∀ {kvs : List (Key × V)} {vs : List (Key × Value)}, KV kvs vs → vs.map (·.1) = kvs.map (·.1) ∧ Vals (kvs.map (·.2)) (vs.map (·.2))
  | _, _, .nil => ⟨rfl, .nil⟩
  | _, _, .cons r t => by
    obtain ⟨h1, h2⟩ := kv_split t
    exact ⟨by rw [List.map_cons, List.map_cons, h1, r.1], .cons r.2 h2⟩
theorem dk_zip {as : List PyData} {bs : List PyData} (h : as.length = bs.length) : (as.zip bs).map (·.1) = as ∧ (as.zip bs).map (·.2) = bs := ⟨List.map_fst_zip (Nat.le_of_eq h), List.map_snd_zip (Nat.le_of_eq h.symm)⟩
theorem PdL.length : ∀ {xs : List D} {ps : List PyData}, PdL κ xs ps → xs.length = ps.length
  | _, _, .nil => rfl
  | _, _, .cons _ t => congrArg (· + 1) (PdL.length t)
mutual
theorem Pd.reads (I : Inv X pins σ H s) (sm : H sysModules = none) (S : StR (CtxOf X) F ρ κ H) : ∀ {x : D} {p : PyData} {v : V} {u : Value}, Pd κ x p → Rep (CtxOf X) F ρ x v → RelV v u → ∃ as, Reads s.heap u p as ∧ sysModules ∉ as
  | _, _, _, _, .non, r, rv => by cases r; cases rv; exact ⟨_, .none, fun h => by cases h⟩
  | _, _, _, _, .bl b, r, rv => by cases r; cases rv; exact ⟨_, .bool b, fun h => by cases h⟩
  | _, _, _, _, .int i, r, rv => by cases r; obtain ⟨t, rfl⟩ := rv; exact ⟨_, .int i t, fun h => by cases h⟩
  | _, _, _, _, .str x, r, rv => by cases r; obtain ⟨t, rfl⟩ := rv; exact ⟨_, .str x t, fun h => by cases h⟩
  | _, _, _, _, .lst h t, r, rv => by
    obtain ⟨a, vs, rfl, hk, rl⟩ := view_at S r h
    cases rv
    obtain ⟨its, rv, ⟨o, n, ho, hc, hdd, hd⟩, _⟩ := I.list (SqL.of hk)
    obtain ⟨as, hr, hn⟩ := PdL.reads I sm S t rl rv
    refine ⟨_, .list ho hc hd hr, fun hm => ?_⟩
    rcases List.mem_cons.mp hm with e | e
    · have hk' : H a = some (.lst vs) := hk
      rw [← e, sm] at hk'; cases hk'
    · exact hn e
  | _, _, _, _, .tup h t, r, rv => by
    obtain ⟨a, vs, rfl, hk, rl⟩ := view_at S r h
    cases rv
    obtain ⟨its, rv, ⟨o, ho, hc, n, hd⟩, _⟩ := I.tuple hk
    obtain ⟨as, hr, hn⟩ := PdL.reads I sm S t rl rv
    exact ⟨_, .tuple ho hc hd hr, hn⟩
  | _, _, _, _, .dct (ks := ks) (ps := ps) h t, r, rv => by
    obtain ⟨a, vs, rfl, ⟨kvs, hk, hk1, hk2⟩, rl⟩ := view_at S r h
    cases rv
    obtain ⟨_, hsys, vals, rel, o, es, ep, ho, hx, hd, _, hp, _⟩ := dk_of I.hok hk
    obtain ⟨q1, q2⟩ := kv_split rel
    obtain ⟨⟨as, hr, h0⟩, hv⟩ := pairs_read (s := s) hp
    subst h0
    rw [hk2] at q2
    obtain ⟨bs, hr2, hn⟩ := PdL.reads I sm S t rl (hv ▸ q2)
    have hl : (ks.map keyP).length = ps.length := by
      rw [← t.length, rl.length, ← hk1, ← hk2]
      simp only [List.length_map]
    obtain ⟨z1, z2⟩ := dk_zip hl
    refine ⟨_, .dict (as := []) (bs := bs) ho hx.1 hd (by rw [z1, ← hk1, ← q1]; exact hr) (by rw [z2]; exact hr2), fun hm => ?_⟩
    have hm' : sysModules ∈ a :: bs := hm
    rcases List.mem_cons.mp hm' with e | e
    · rw [← e, sm] at hk; cases hk
    · exact hn e
theorem PdL.reads (I : Inv X pins σ H s) (sm : H sysModules = none) (S : StR (CtxOf X) F ρ κ H) : ∀ {xs : List D} {ps : List PyData} {vs : List V} {us : List Value}, PdL κ xs ps → RepL (CtxOf X) F ρ xs vs → Vals vs us → ∃ as, ReadsAll s.heap us ps as ∧ sysModules ∉ as
  | _, _, _, _, .nil, r, rv => by cases r; cases rv; exact ⟨_, .nil, fun h => by cases h⟩
  | _, _, _, _, .cons h t, r, rv => by
    cases r with
    | cons r1 r2 =>
      cases rv with
      | cons v1 v2 =>
        obtain ⟨as, q1, n1⟩ := Pd.reads I sm S h r1 v1
        obtain ⟨bs, q2, n2⟩ := PdL.reads I sm S t r2 v2
        exact ⟨_, .cons q1 q2, fun hm => (List.mem_append.mp hm).elim n1 n2⟩
end
theorem Inv.sysm (I : Inv X pins σ H s) (sm : ∃ o, X.base.get? sysModules = some o) : H sysModules = none := let ⟨o, h⟩ := sm; (I.bs _ _ h).2
end
/-- two data, a truth -/
def fDat (g : PyData → PyData → Bool) : D2 := fun x y κ Q => ∃ p q, Pd κ x p ∧ Pd κ y q ∧ SeqAt.shaped p = true ∧ SeqAt.shaped q = true ∧ Q (.bl (g p q)) κ
def rDat (C : Ctx) (g : PyData → PyData → Bool) : R2 := fun v u H Q => ∃ F ρ κ x y p q, StR C F ρ κ H ∧ Rep C F ρ x v ∧ Rep C F ρ y u ∧ Pd κ x p ∧ Pd κ y q ∧ SeqAt.shaped p = true ∧ SeqAt.shaped q = true ∧ Q (.bl (g p q)) H
theorem sim_dat {C : Ctx} {g : PyData → PyData → Bool} : Sim2 C (fDat g) (rDat C g) := fun F ρ κ H x y v u QD Q S rx ry ⟨p, q, h1, h2, h3, h4, h5⟩ P => ⟨F, ρ, κ, x, y, p, q, S, rx, ry, h1, h2, h3, h4, P _ _ _ _ _ _ (Ext.refl _ _) S (.bl _) h5⟩
/-- x in ys: data in a list or a tuple -/
def inP (d : PyData) : PyData → Bool
  | .list ds => ds.any fun z => PyData.eqv z d
  | .tuple ds => ds.any fun z => PyData.eqv z d
  | _ => false
section
variable {X : Cx} {W : WX} {k : Nat}
theorem op_eqDat (g : Good k X W) : OpR X (compareOp .Eq) (rDat (CtxOf X) PyData.eqv) := by
  intro pins s σ H x y v u Q I rx ry ⟨F, ρ, κ, dx, dy, p, q, S, r1, r2, h1, h2, h3, h4, h5⟩
  obtain ⟨as, q1, _⟩ := Pd.reads I (Inv.sysm I g.sm) S h1 r1 rx
  obtain ⟨bs, q2, _⟩ := Pd.reads I (Inv.sysm I g.sm) S h2 r2 ry
  exact SeqAt.compareEq_shaped q1 q2 h3 h4 g.rm.units ⟨.bl _, H, I, rfl, h5⟩
theorem op_neDat (g : Good k X W) : OpR X (compareOp .NotEq) (rDat (CtxOf X) fun p q => !PyData.eqv p q) := by
  intro pins s σ H x y v u Q I rx ry ⟨F, ρ, κ, dx, dy, p, q, S, r1, r2, h1, h2, h3, h4, h5⟩
  obtain ⟨as, q1, _⟩ := Pd.reads I (Inv.sysm I g.sm) S h1 r1 rx
  obtain ⟨bs, q2, _⟩ := Pd.reads I (Inv.sysm I g.sm) S h2 r2 ry
  exact SeqAt.compareNe_shaped q1 q2 h3 h4 g.rm.units ⟨.bl _, H, I, rfl, h5⟩
end
def fEq : D2 := fDat PyData.eqv
def fNe : D2 := fDat fun p q => !PyData.eqv p q
section
variable {X : Cx} {W : WX} {k : Nat} {e1 e2 : Expr} {a b : DE} {pos : Pos}
theorem pd_eq (g : Good k X W) (ha : PED X W e1 a) (hb : PED X W e2 b) : PED X W (.Compare e1 [.Eq] [e2] pos) (dOp fEq a b) := pd_cmp (op_eqDat g) sim_dat ha hb
theorem pt_eq (g : Good k X W) (ha : PED X W e1 a) (hb : PED X W e2 b) : PTD X W (.Compare e1 [.Eq] [e2] pos) (tBl (dOp fEq a b)) := pt_cmpD (op_eqDat g) sim_dat ha hb
theorem pt_ne (g : Good k X W) (ha : PED X W e1 a) (hb : PED X W e2 b) : PTD X W (.Compare e1 [.NotEq] [e2] pos) (tBl (dOp fNe a b)) := pt_cmpD (op_neDat g) sim_dat ha hb
end
/-! ### order: numbers, texts -/
def fOrd (gi : Int → Int → Bool) (gs : Str → Str → Bool) : D2 := fun x y κ Q => match x, y with
  | .int i, .int j => Q (.bl (gi i j)) κ
  | .str i, .str j => Q (.bl (gs i j)) κ
  | _, _ => False
def rOrd (gi : Int → Int → Bool) (gs : Str → Str → Bool) : R2 := fun x y H Q => (rI0 fun i j => .bl (gi i j)) x y H Q ∨ ∃ i j, x = .str i ∧ y = .str j ∧ Q (.bl (gs i j)) H
theorem sim_ord {C : Ctx} {gi : Int → Int → Bool} {gs : Str → Str → Bool} : Sim2 C (fOrd gi gs) (rOrd gi gs) := by
  intro F ρ κ H x y v u QD Q S rx ry h P
  cases x <;> cases y <;> first | exact h.elim | skip
  · cases rx; cases ry; exact .inl ⟨_, _, rfl, rfl, P _ _ _ _ _ _ (Ext.refl _ _) S (.bl _) h⟩
  · cases rx; cases ry; exact .inr ⟨_, _, rfl, rfl, P _ _ _ _ _ _ (Ext.refl _ _) S (.bl _) h⟩
def fLtS : D2 := fOrd (fun i j => decide (i < j)) fun i j => decide (i.cps.toList < j.cps.toList)
def fLeS : D2 := fOrd (fun i j => decide (i ≤ j)) fun i j => !decide (j.cps.toList < i.cps.toList)
def fGtS : D2 := fOrd (fun i j => decide (j < i)) fun i j => decide (j.cps.toList < i.cps.toList)
def fGeS : D2 := fOrd (fun i j => decide (j ≤ i)) fun i j => !decide (i.cps.toList < j.cps.toList)
section
variable {X : Cx} {W : WX} {k : Nat} {e1 e2 e3 : Expr} {a b c : DE} {pos : Pos}
theorem op_ltS : OpR X (compareOp .Lt) (rOrd (fun i j => decide (i < j)) fun i j => decide (i.cps.toList < j.cps.toList)) := OpR.or op_lt op_lt_str
theorem op_leS : OpR X (compareOp .LtE) (rOrd (fun i j => decide (i ≤ j)) fun i j => !decide (j.cps.toList < i.cps.toList)) := OpR.or op_le op_le_str
theorem op_gtS : OpR X (compareOp .Gt) (rOrd (fun i j => decide (j < i)) fun i j => decide (j.cps.toList < i.cps.toList)) := OpR.or op_gt op_gt_str
theorem pd_gt (ha : PED X W e1 a) (hb : PED X W e2 b) : PED X W (.Compare e1 [.Gt] [e2] pos) (dOp fGtS a b) := pd_cmp op_gtS sim_ord ha hb
theorem pt_lt (ha : PED X W e1 a) (hb : PED X W e2 b) : PTD X W (.Compare e1 [.Lt] [e2] pos) (tBl (dOp fLtS a b)) := pt_cmpD op_ltS sim_ord ha hb
theorem pt_le (ha : PED X W e1 a) (hb : PED X W e2 b) : PTD X W (.Compare e1 [.LtE] [e2] pos) (tBl (dOp fLeS a b)) := pt_cmpD op_leS sim_ord ha hb
theorem pt_gt (ha : PED X W e1 a) (hb : PED X W e2 b) : PTD X W (.Compare e1 [.Gt] [e2] pos) (tBl (dOp fGtS a b)) := pt_cmpD op_gtS sim_ord ha hb
end
/-! ### is -/
def isNon : D → Bool
  | .non => true
  | _ => false
/-! ### in -/
def strIn (i j : Str) : Bool := !(Builtin.Str.occurrences j i 0 j.length 1).isEmpty
def fIn (neg : Bool) : D2 := fun x y κ Q => match x, y with
  | .str i, .str j => Q (.bl (if neg then !strIn i j else strIn i j)) κ
  | x, y => ∃ p q, Pd κ x p ∧ Pd κ y q ∧ SeqAt.shaped p = true ∧ SeqAt.shaped q = true ∧ (∃ ds, q = .list ds ∨ q = .tuple ds) ∧ Q (.bl (if neg then !inP p q else inP p q)) κ
/-! ### subscripts -/
def fIx : D2 := fun x y κ Q => match x, y with
  | .str z, .int i => z.length ≤ sizeLine ∧ ∃ c, atI z.cps.toList i = some c ∧ Q (.str ⟨#[c]⟩) κ
  | x, .int i => match view x κ with
    | some (.lst, xs) => ∃ d, atI xs i = some d ∧ Q d κ
    | some (.tup, xs) => ∃ d, atI xs i = some d ∧ Q d κ
    | some (.klst, xs) => ∃ d, atI xs i = some d ∧ Q d κ
    | _ => False
  | _, _ => False
theorem atI_at {C : Ctx} {F : Hp} {ρ : Loc0} {xs : List D} {vs : List V} {i : Int} {d : D} (r : RepL C F ρ xs vs) (h : atI xs i = some d) : ∃ v, atI vs i = some v ∧ Rep C F ρ d v := by
  unfold atI at h ⊢
  rw [← r.length]
  cases e : ixN xs.length i with
  | none => rw [e] at h; cases h
  | some j =>
    rw [e] at h
    exact r.get h
theorem sim_ix {C : Ctx} : Sim2 C fIx (rIx C.K) := by
  intro F ρ κ H x y v u QD Q S rx ry h P
  have hy : ∃ i, y = .int i := by
    cases y <;> first | exact ⟨_, rfl⟩ | (exfalso; cases x <;> exact h)
  obtain ⟨i, rfl⟩ := hy
  cases ry
  have key : (match view x κ with
    | some (.lst, xs) => ∃ d, atI xs i = some d ∧ QD d κ
    | some (.tup, xs) => ∃ d, atI xs i = some d ∧ QD d κ
    | some (.klst, xs) => ∃ d, atI xs i = some d ∧ QD d κ
    | _ => False) → rIx C.K v (.int i) H Q := by
    intro h
    cases ex : view x κ with
    | none => rw [ex] at h; exact h.elim
    | some p =>
      obtain ⟨k, xs⟩ := p
      rw [ex] at h
      obtain ⟨p, vs, rfl, hk, rl⟩ := view_at S rx ex
      cases k <;> first | exact h.elim | skip
      · obtain ⟨d, h1, h2⟩ := h
        obtain ⟨v, h3, h4⟩ := atI_at rl h1
        exact .inl ⟨p, vs, i, v, rfl, rfl, SqL.of hk, h3, P _ _ _ _ _ _ (Ext.refl _ _) S h4 h2⟩
      · obtain ⟨d, h1, h2⟩ := h
        obtain ⟨v, h3, h4⟩ := atI_at rl h1
        exact .inr (.inl ⟨p, vs, i, v, rfl, rfl, hk, h3, P _ _ _ _ _ _ (Ext.refl _ _) S h4 h2⟩)
      · obtain ⟨d, h1, h2⟩ := h
        obtain ⟨v, h3, h4⟩ := atI_at rl h1
        exact .inl ⟨p, vs, i, v, rfl, rfl, hk, h3, P _ _ _ _ _ _ (Ext.refl _ _) S h4 h2⟩
  cases x with
  | str z =>
    cases rx
    obtain ⟨h1, c, h2, h3⟩ := h
    exact .inr (.inr ⟨z, i, c, rfl, rfl, h1, h2, P _ _ _ _ _ _ (Ext.refl _ _) S (.str _) h3⟩)
  | _ => exact key h
section
variable {X : Cx} {W : WX} {k : Nat} {e1 e2 : Expr} {a b : DE} {pos p2 : Pos}
theorem pd_ix (ha : PED X W e1 a) (hb : PED X W e2 b) (hs : PlainIx e2 := by exact fun _ _ => rfl) : PED X W (.Subscript e1 e2 pos) (dOp fIx a b) := pe_weak (pe_ix ix_seq ha hb hs) fun _ _ _ => lift_op sim_ix
end
/-! slices -/
abbrev DO := DEnv → Kap → DX → (Option Int → Kap → Prop) → Prop
def dNo : DO := fun _ κ _ Q => Q none κ
def dPart (a : DE) : DO := fun δ κ X Q => a δ κ X fun x κ1 => ∃ i, x = .int i ∧ Q (some i) κ1
def liftO (C : Ctx) (W : WX) (d : DO) : TO := fun σ H Q => ∃ F ρ κ δ XD QD, StR C F ρ κ H ∧ RepS C F ρ δ σ ∧ d δ κ XD QD ∧ (∀ F' ρ' κ' H' b, Ext F ρ F' ρ' → StR C F' ρ' κ' H' → QD b κ' → Q b H') ∧ PostX C F ρ XD W
theorem po_weak {X : Cx} {e : Option Expr} {t t' : TO} (h : PO X e t) (w : ∀ σ H Q, t' σ H Q → t σ H Q) : PO X e t' := ⟨fun pins s σ H Q I q => h.run pins s σ H Q I (w σ H Q q)⟩
abbrev POD (X : Cx) (W : WX) (e : Option Expr) (d : DO) : Prop := PO X e (liftO (CtxOf X) W d)
theorem po_noD {X : Cx} {W : WX} : POD X W none dNo := po_weak po_none fun σ H Q ⟨F, ρ, κ, δ, XD, QD, S, R, h, P, PX⟩ => P _ _ _ _ _ (Ext.refl _ _) S h
theorem po_partD {X : Cx} {W : WX} {e : Expr} {a : DE} (ha : PED X W e a) : POD X W (some e) (dPart a) := po_weak (po_some ha) fun σ H Q ⟨F, ρ, κ, δ, XD, QD, S, R, h, P, PX⟩ =>
  ⟨F, ρ, κ, δ, XD, _, S, R, h, fun F1 ρ1 κ1 H1 x v e1 S1 R1 ⟨i, hx, h1⟩ => by
    subst hx
    cases R1
    exact ⟨i, rfl, P _ _ _ _ _ e1 S1 h1⟩, PX⟩
def cutD (xs : List D) (lo hi : Option Int) : List D := (xs.drop (HT.sIx xs.length 0 lo)).take (HT.sIx xs.length xs.length hi - HT.sIx xs.length 0 lo)
theorem cut_at {C : Ctx} {F : Hp} {ρ : Loc0} {xs : List D} {vs : List V} (r : RepL C F ρ xs vs) (lo hi : Option Int) : RepL C F ρ (cutD xs lo hi) (cutV vs lo hi) := by
  unfold cutD cutV
  rw [r.length]
  exact (r.drop _).take _
def fSl (m : Bool) (x : D) (lo hi : Option Int) (κ : Kap) (Q : DQ) : Prop := match x with
  | .str z => z.length ≤ sizeLine ∧ Q (.str (cutS z lo hi)) κ
  | x => match view x κ with
    | some (.lst, xs) => fNew m .lst (cutD xs lo hi) κ Q
    | _ => False
def dSl (m : Bool) (a : DE) (lo hi : DO) : DE := fun δ κ X Q => a δ κ X fun x κ1 => lo δ κ1 X fun i κ2 => hi δ κ2 X fun j κ3 => fSl m x i j κ3 Q
theorem pd_sl {X : Cx} {W : WX} {e1 : Expr} {lo hi : Option Expr} {a : DE} {dl dh : DO} {pos p2 : Pos} (m : Bool) (ha : PED X W e1 a) (hl : POD X W lo dl) (hh : POD X W hi dh) : PED X W (.Subscript e1 (.Slice lo hi none p2) pos) (dSl m a dl dh) :=
  pe_weak (pe_slice (SlR.or sl_str sl_list) ha hl hh) fun σ H Q ⟨F, ρ, κ, δ, XD, QD, S, R, h, P, PX⟩ =>
  ⟨F, ρ, κ, δ, XD, _, S, R, h, fun F1 ρ1 κ1 H1 x v e1 S1 R1 h1 => ⟨F1, ρ1, κ1, δ, XD, _, S1, R.ext e1, h1, fun F2 ρ2 κ2 H2 i e2 S2 h2 => ⟨F2, ρ2, κ2, δ, XD, _, S2, R.ext (e1.trans e2), h2, fun F3 ρ3 κ3 H3 j e3 S3 h3 => by
    have e123 := e1.trans (e2.trans e3)
    have R3 := R1.ext (e2.trans e3)
    have key : (match view x κ3 with
      | some (.lst, xs) => fNew m .lst (cutD xs i j) κ3 QD
      | _ => False) → rSlS v i j H3 Q ∨ rSlL X.K v i j H3 Q := fun h => by
      cases ex : view x κ3 with
      | none => rw [ex] at h; exact h.elim
      | some p =>
        obtain ⟨k, xs⟩ := p
        rw [ex] at h
        obtain ⟨p, vs, rfl, hk, rl⟩ := view_at S3 R3 ex
        cases k <;> first | exact h.elim | skip
        exact .inr ⟨p, vs, rfl, SqL.of hk, new_lst S3 (cut_at rl i j) h (P.ext e123)⟩
    cases x with
    | str z =>
      cases R3
      exact .inl ⟨z, rfl, h3.1, P _ _ _ _ _ _ e123 S3 (.str _) h3.2⟩
    | _ => exact key h3, PX.ext (e1.trans e2)⟩, PX.ext e1⟩, PX⟩
/-! ### built-ins -/
def fLen : DN := fun xs κ Q => match xs with
  | [.str y] => y.length ≤ sizeLine ∧ Q (.int (y.length : Nat)) κ
  | [x] => match view x κ with
    | some (.lst, xs) => Q (.int (xs.length : Nat)) κ
    | some (.tup, xs) => Q (.int (xs.length : Nat)) κ
    | some (.klst, xs) => Q (.int (xs.length : Nat)) κ
    | _ => False
  | _ => False
theorem repL1 {C : Ctx} {F : Hp} {ρ : Loc0} {x : D} {vs : List V} (r : RepL C F ρ [x] vs) : ∃ v, vs = [v] ∧ Rep C F ρ x v := by
  cases r with
  | cons h t => cases t; exact ⟨_, rfl, h⟩
theorem repL2 {C : Ctx} {F : Hp} {ρ : Loc0} {x y : D} {vs : List V} (r : RepL C F ρ [x, y] vs) : ∃ v u, vs = [v, u] ∧ Rep C F ρ x v ∧ Rep C F ρ y u := by
  cases r with
  | cons h t =>
    obtain ⟨u, rfl, hu⟩ := repL1 t
    exact ⟨_, _, rfl, h, hu⟩
theorem sim_len {C : Ctx} : SimN C fLen (fun xs H Q => ∃ x n, xs = [x] ∧ LenV C.K x H n ∧ Q (.int n) H) := by
  intro F ρ κ H xs vs QD Q S r h P
  match xs, h with
  | [x], h =>
    obtain ⟨v, rfl, rx⟩ := repL1 r
    have key : (match view x κ with
      | some (.lst, xs) => QD (.int (xs.length : Nat)) κ
      | some (.tup, xs) => QD (.int (xs.length : Nat)) κ
      | some (.klst, xs) => QD (.int (xs.length : Nat)) κ
      | _ => False) → ∃ x n, [v] = [x] ∧ LenV C.K x H n ∧ Q (.int n) H := by
      intro h
      cases ex : view x κ with
      | none => rw [ex] at h; exact h.elim
      | some p =>
        obtain ⟨k, xs⟩ := p
        rw [ex] at h
        obtain ⟨p, vs, rfl, hk, rl⟩ := view_at S rx ex
        have l := rl.length
        cases k <;> first | exact h.elim | skip
        · exact ⟨_, _, rfl, .inl ⟨vs, SqL.of hk, rfl⟩, P _ _ _ _ _ _ (Ext.refl _ _) S (.int _) (by rw [← l]; exact h)⟩
        · exact ⟨_, _, rfl, .inr ⟨vs, hk, rfl⟩, P _ _ _ _ _ _ (Ext.refl _ _) S (.int _) (by rw [← l]; exact h)⟩
        · exact ⟨_, _, rfl, .inl ⟨vs, hk, rfl⟩, P _ _ _ _ _ _ (Ext.refl _ _) S (.int _) (by rw [← l]; exact h)⟩
    cases x with
    | str y => cases rx; exact ⟨_, _, rfl, ⟨h.1, rfl⟩, P _ _ _ _ _ _ (Ext.refl _ _) S (.int _) h.2⟩
    | _ => exact key h
  | x :: y :: r, h => exfalso; cases x <;> exact h
def fAbs : DN := fun xs κ Q => match xs with
  | [.int i] => Q (.int (if i < 0 then -i else i)) κ
  | _ => False
theorem sim_abs {C : Ctx} : SimN C fAbs (fun xs H Q => ∃ i, xs = [.int i] ∧ Q (.int (if i < 0 then -i else i)) H) := by
  intro F ρ κ H xs vs QD Q S r h P
  match xs, h with
  | [.int i], h =>
    obtain ⟨v, rfl, rx⟩ := repL1 r
    cases rx
    exact ⟨i, rfl, P _ _ _ _ _ _ (Ext.refl _ _) S (.int _) h⟩
def fMax2 : DN := fun xs κ Q => match xs with
  | [.int i, .int j] => Q (.int (if j > i then j else i)) κ
  | _ => False
def fMin2 : DN := fun xs κ Q => match xs with
  | [.int i, .int j] => Q (.int (if j < i then j else i)) κ
  | _ => False
theorem sim_max2 {C : Ctx} : SimN C fMax2 (fun xs H Q => ∃ i j, xs = [.int i, .int j] ∧ Q (.int (if j > i then j else i)) H) := by
  intro F ρ κ H xs vs QD Q S r h P
  match xs, h with
  | [.int i, .int j], h =>
    obtain ⟨v, u, rfl, rx, ry⟩ := repL2 r
    cases rx; cases ry
    exact ⟨i, j, rfl, P _ _ _ _ _ _ (Ext.refl _ _) S (.int _) h⟩
theorem sim_min2 {C : Ctx} : SimN C fMin2 (fun xs H Q => ∃ i j, xs = [.int i, .int j] ∧ Q (.int (if j < i then j else i)) H) := by
  intro F ρ κ H xs vs QD Q S r h P
  match xs, h with
  | [.int i, .int j], h =>
    obtain ⟨v, u, rfl, rx, ry⟩ := repL2 r
    cases rx; cases ry
    exact ⟨i, j, rfl, P _ _ _ _ _ _ (Ext.refl _ _) S (.int _) h⟩
/-- str(x): of a number, of a text -/
def fStr : DN := fun xs κ Q => match xs with
  | [.int i] => i.natAbs.log2 < 1920 ∧ Q (.str (toString i)) κ
  | [.str y] => Q (.str y) κ
  | _ => False
/-- int(x): of a number, of a truth -/
def fInt : DN := fun xs κ Q => match xs with
  | [.int i] => Q (.int i) κ
  | [.bl b] => Q (.int (if b then 1 else 0)) κ
  | _ => False
/-- repr of data -/
def fRepr : DN := fun xs κ Q => match xs with
  | [x] => ∃ p, Pd κ x p ∧ p.showable = true ∧ p.depth ≤ 60 ∧ p.shown.length ≤ sizeLine ∧ Q (.str p.shown) κ
  | _ => False
def rRepr (C : Ctx) : List V → Hp → VK → Prop := fun vs H Q => ∃ F ρ κ x v p, vs = [v] ∧ StR C F ρ κ H ∧ Rep C F ρ x v ∧ Pd κ x p ∧ p.showable = true ∧ p.depth ≤ 60 ∧ p.shown.length ≤ sizeLine ∧ Q (.str p.shown) H
theorem sim_repr {C : Ctx} : SimN C fRepr (rRepr C) := by
  intro F ρ κ H xs vs QD Q S r h P
  match xs, h with
  | [x], ⟨p, h1, h2, h3, h4, h5⟩ =>
    obtain ⟨v, rfl, rx⟩ := repL1 r
    exact ⟨F, ρ, κ, x, v, p, rfl, S, rx, h1, h2, h3, h4, P _ _ _ _ _ _ (Ext.refl _ _) S (.str _) h5⟩
section
variable {X : Cx} {W : WX} {k : Nat} {e : Expr} {es : List Expr} {a b : DE} {as : DA} {pos p : Pos}
theorem call_reprD (g : Good k X W) : CallR X (.builtin "repr") (rRepr (CtxOf X)) := by
  intro pins s σ H xs us Q I r ⟨F, ρ, κ, x, v, p, e, S, rx, h1, h2, h3, h4, h5⟩
  subst e
  obtain ⟨u, rfl, rv⟩ := vals1 r
  have hu : X.A.units + (p.depth + 1) < cLine := by have := g.rm.units; omega
  obtain ⟨as, hr, hn⟩ := Pd.reads I (Inv.sysm I g.sm) S h1 rx rv
  cases hr with
  | none => exact PySem.P.repr_of_none ⟨.str _, H, I.tok _, ⟨_, rfl⟩, h5⟩
  | bool b => exact PySem.P.repr_of_bool ⟨.str _, H, I.tok _, ⟨_, rfl⟩, h5⟩
  | int i t => exact PySem.P.repr_of_int (of_decide_eq_true h2) ⟨.str _, H, I.tok _, ⟨_, rfl⟩, h5⟩
  | str x t => exact PySem.P.repr_of_str ⟨.str _, H, I.tok _, ⟨_, rfl⟩, h5⟩ h4
  | list q1 q2 q3 q4 => exact repr_of_reads' (.list q1 q2 q3 q4) h2 (fun _ => hn) g.gd hu (fun _ _ e => e) (fun h' u tk hk => ⟨.str _, H, I.kept hk, ⟨_, rfl⟩, h5⟩) h4
  | tuple q1 q2 q3 q4 => exact repr_of_reads' (.tuple q1 q2 q3 q4) h2 (fun _ => hn) g.gd hu (fun _ _ e => e) (fun h' u tk hk => ⟨.str _, H, I.kept hk, ⟨_, rfl⟩, h5⟩) h4
  | dict q1 q2 q3 q4 q5 => exact repr_of_reads' (.dict q1 q2 q3 q4 q5) h2 (fun _ => hn) g.gd hu (fun _ _ e => e) (fun h' u tk hk => ⟨.str _, H, I.kept hk, ⟨_, rfl⟩, h5⟩) h4
end
end DL
/-! DL: statements, loops, comprehensions. -/
namespace DL
open PySem PySem.Spec PyProof.Rows L2
/-! ### targets -/
abbrev DG := D → DEnv → Kap → DX → (DEnv → Kap → Prop) → Prop
abbrev DGs := List D → DEnv → Kap → DX → (DEnv → Kap → Prop) → Prop
def liftG (C : Ctx) (W : WX) (g : DG) : TG := fun v σ H Q => ∃ F ρ κ δ d XD QD, StR C F ρ κ H ∧ RepS C F ρ δ σ ∧ Rep C F ρ d v ∧ g d δ κ XD QD ∧ PostN C F ρ QD Q ∧ PostX C F ρ XD W
def liftGs (C : Ctx) (W : WX) (g : DGs) : TGs := fun vs σ H Q => ∃ F ρ κ δ ds XD QD, StR C F ρ κ H ∧ RepS C F ρ δ σ ∧ RepL C F ρ ds vs ∧ g ds δ κ XD QD ∧ PostN C F ρ QD Q ∧ PostX C F ρ XD W
abbrev PGD (X : Cx) (W : WX) (e : Expr) (g : DG) : Prop := PG X e (liftG (CtxOf X) W g)
abbrev PGsD (X : Cx) (W : WX) (es : List Expr) (g : DGs) : Prop := PGs X es (liftGs (CtxOf X) W g)
def gN (i : Nat) : DG := fun d δ κ _ Q => Q (δ.set i (some d)) κ
def gNilD : DGs := fun ds δ κ _ Q => ds = [] ∧ Q δ κ
def gConsD (g : DG) (r : DGs) : DGs := fun ds δ κ X Q => match ds with
  | d :: ds => g d δ κ X fun δ1 κ1 => r ds δ1 κ1 X Q
  | [] => False
def gTupD (n : Nat) (g : DGs) : DG := fun d δ κ X Q => ∃ xs, view d κ = some (.tup, xs) ∧ xs.length = n ∧ g xs δ κ X Q
section
variable {X : Cx} {W : WX} {e : Expr} {es : List Expr} {g : DG} {r : DGs} {pos : Pos}
theorem pg_weak {t t' : TG} (h : PG X e t) (w : ∀ v σ H Q, t' v σ H Q → t v σ H Q) : PG X e t' := ⟨fun pins s σ H x u Q I rx q => h.run pins s σ H x u Q I rx (w _ _ _ _ q)⟩
theorem pgs_weak {t t' : TGs} (h : PGs X es t) (w : ∀ v σ H Q, t' v σ H Q → t v σ H Q) : PGs X es t' := ⟨fun pins s σ H x u Q I rx q => h.run pins s σ H x u Q I rx (w _ _ _ _ q)⟩
theorem pg_nameD {i : Nat} {x : Str} (hN : X.N.Nodup) (hi : X.N[i]? = some x := by rfl) (hx : L2.Loc X.env.scope x := by first | exact Or.inl rfl | exact Or.inr rfl) (hf : X.fn x = true ∨ X.env.scope.names.lookup x = some .local := by first | exact .inl rfl | exact .inr rfl | assumption) : PGD X W (.Name x pos) (gN i) :=
  pg_weak (pg_name hN hi hx hf) fun v σ H Q ⟨F, ρ, κ, δ, d, XD, QD, S, R, r, h, P, PX⟩ => P _ _ _ _ _ _ (Ext.refl _ _) S (R.set r i) h
theorem pgs_nilD : PGsD X W [] gNilD := pgs_weak pgs_nil fun v σ H Q ⟨F, ρ, κ, δ, d, XD, QD, S, R, r, h, P, PX⟩ => by
  obtain ⟨rfl, h⟩ := h
  cases r
  exact ⟨rfl, P _ _ _ _ _ _ (Ext.refl _ _) S R h⟩
theorem pgs_consD (h1 : PGD X W e g) (h2 : PGsD X W es r) (hs : (assignEach (e :: es) X.env).map (·.2) = assign e X.env :: (assignEach es X.env).map (·.2) := by rfl) : PGsD X W (e :: es) (gConsD g r) := pgs_weak (pgs_cons h1 h2 hs) fun v σ H Q ⟨F, ρ, κ, δ, ds, XD, QD, S, R, rr, h, P, PX⟩ => by
  cases rr with
  | nil => exact h.elim
  | cons r1 r2 => exact ⟨_, _, rfl, F, ρ, κ, δ, _, XD, _, S, R, r1, h, fun F1 ρ1 κ1 H1 δ1 σ1 e1 S1 R1 h1 => ⟨F1, ρ1, κ1, δ1, _, XD, _, S1, R1, r2.ext e1, h1, P.ext e1, PX.ext e1⟩, PX⟩
theorem pg_tupD {n : Nat} {kk : Nat} (hc : X.calm = true) (h : PGsD X W es r) (hn : (assignEach es X.env).length = n := by rfl) (hst : (assignEach es X.env).findIdx? (·.1) = none := by rfl) : PGD X W (.Tuple es kk pos) (gTupD n r) :=
  pg_weak (pg_tup (k := kk) hc h hn hst) fun v σ H Q ⟨F, ρ, κ, δ, d, XD, QD, S, R, rr, ⟨xs, h1, h2, h3⟩, P, PX⟩ => by
  obtain ⟨a, vs, rfl, hk, rl⟩ := view_at S rr h1
  exact ⟨a, vs, rfl, hk, by rw [← rl.length]; exact h2, F, ρ, κ, δ, xs, XD, _, S, R, rl, h3, P, PX⟩
end
/-! o[i] = e : a cell's list | dict -/
def fSet : D → D → D → Kap → (Kap → Prop) → Prop := fun o i d κ Q => match o, i with
  | .cell n, .int j => match κ n with
    | some (.live .lst xs) => ∃ m, ixN xs.length j = some m ∧ Q (kset κ n (.live .lst (xs.set m d)))
    | _ => False
  | _, _ => False
def gSubD (o i : DE) (f : D → D → D → Kap → (Kap → Prop) → Prop) : DG := fun d δ κ X Q => o δ κ X fun x κ1 => i δ κ1 X fun y κ2 => f x y d κ2 fun κ3 => Q δ κ3
section
variable {X : Cx} {W : WX} {e1 e2 : Expr} {a b : DE} {pos : Pos}
theorem pg_subD (ho : PED X W e1 a) (hi : PED X W e2 b)
    (ha : ∀ v, assign (.Subscript e1 e2 pos) X.env v = (do
      let ov ← holding [v] (eval e1 X.env)
      let iv ← holding [v, ov] (eval e2 X.env)
      standAt pos
      holding [v, ov, iv] (setItem ov iv v)
      release [v, ov, iv] []) := by intro _; rfl) : PGD X W (.Subscript e1 e2 pos) (gSubD a b fSet) :=
  pg_weak (pg_sub ho hi set_list ha) fun v σ H Q ⟨F, ρ, κ, δ, d, XD, QD, S, R, rr, h, P, PX⟩ =>
  ⟨F, ρ, κ, δ, XD, _, S, R, h, fun F1 ρ1 κ1 H1 x u e1 S1 R1 h1 => ⟨F1, ρ1, κ1, δ, XD, _, S1, R.ext e1, h1, fun F2 ρ2 κ2 H2 y w e2 S2 R2 h2 => by
    have e12 := e1.trans e2
    have R1' := R1.ext e2
    cases x <;> first | (exfalso; cases y <;> exact h2) | skip
    rename_i n
    cases y <;> first | (exfalso; exact h2) | skip
    rename_i j
    cases R2
    have h2' : (match κ2 n with
      | some (.live .lst xs) => ∃ m, ixN xs.length j = some m ∧ QD δ (kset κ2 n (.live .lst (xs.set m d)))
      | _ => False) := h2
    cases ek : κ2 n with
    | none => rw [ek] at h2'; exact h2'.elim
    | some c =>
      cases c with
      | dead => rw [ek] at h2'; exact h2'.elim
      | live k xs =>
        rw [ek] at h2'
        cases k <;> first | exact h2'.elim | skip
        obtain ⟨m, h3, h4⟩ := h2'
        obtain ⟨p, vs, rfl, hr, hm, rl⟩ := cell_at S2 R1' ek
        refine ⟨p, vs, j, m, rfl, rfl, hm, by rw [← rl.length]; exact h3, ?_⟩
        exact P _ _ _ _ _ _ e12 (S2.write (k' := .lst) ek hr (fun H' q => q) (RepL.set (rr.ext e12) m rl)) (R.ext e12) h4, PX.ext e1⟩, PX⟩
end
/-! ### statements -/
def sSeq (a b : DS) : DS := fun δ κ X T => a δ κ X { T with nx := fun δ1 κ1 => b δ1 κ1 X T }
def sNil : DS := fun δ κ _ T => T.nx δ κ
def sAsg (e : DE) (g : DG) : DS := fun δ κ X T => e δ κ X fun d κ1 => g d δ κ1 X T.nx
def sExp (e : DE) : DS := fun δ κ X T => e δ κ X fun _ κ1 => T.nx δ κ1
def sRet (e : DE) : DS := fun δ κ X T => e δ κ X T.rt
def sRetN : DS := fun _ κ _ T => T.rt .non κ
def sIf (t : DT) (a b : DS) : DS := fun δ κ X T => t δ κ X fun k κ1 => if k = true then a δ κ1 X T else b δ κ1 X T
def sBrk : DS := fun δ κ _ T => T.bk δ κ
def sCon : DS := fun δ κ _ T => T.ct δ κ
def sNever : DS := fun _ _ _ _ => False
def sPar (i j : Nat) (as : DA) : DS := fun δ κ X T => as δ κ X fun ds κ1 => ∃ x y, ds = [x, y] ∧ T.nx ((δ.set i (some x)).set j (some y)) κ1
def sAug (i : Nat) (f : D2) (e : DE) : DS := fun δ κ X T => ∃ x, δ[i]? = some (some x) ∧ e δ κ X fun y κ1 => f x y κ1 fun z κ2 => T.nx (δ.set i (some z)) κ2
def sWhile (t : DT) (b : DS) : DS := fun δ κ X T => ∃ I : Nat → DEnv → Kap → Prop, (∃ m, I m δ κ) ∧ ∀ m δ κ, I m δ κ → t δ κ X fun k κ1 => if k = true then
    b δ κ1 X { nx := fun δ2 κ2 => ∃ m', m' < m ∧ I m' δ2 κ2, ct := fun δ2 κ2 => ∃ m', m' < m ∧ I m' δ2 κ2, bk := T.nx, rt := T.rt } else T.nx δ κ1
section
variable {X : Cx} {W : WX} {e e1 e2 e3 : Expr} {st : Stmt} {sts sts2 : List Stmt} {a b : DE} {as : DA} {t : DT} {u v : DS} {g : DG} {pos : Pos}
theorem sd_nil : PSsD X W [] sNil := pss_weak pss_nil fun T σ H ⟨F, ρ, κ, δ, XD, DD, S, R, h, P, PX⟩ => P.nx _ _ _ _ _ _ (Ext.refl _ _) S R h
theorem sd_cons (h1 : PSD X W st u) (h2 : PSsD X W sts v) : PSsD X W (st :: sts) (sSeq u v) := pss_weak (pss_cons h1 h2) fun T σ H ⟨F, ρ, κ, δ, XD, DD, S, R, h, P, PX⟩ =>
  ⟨F, ρ, κ, δ, XD, _, S, R, h, ⟨fun F1 ρ1 κ1 H1 δ1 σ1 e1 S1 R1 h1 => ⟨F1, ρ1, κ1, δ1, XD, DD, S1, R1, h1, P.ext e1, PX.ext e1⟩, P.rt, P.bk, P.ct⟩, PX⟩
theorem sd_one (h1 : PSD X W st u) : PSsD X W [st] u := pss_one h1
theorem sd_never {st : Stmt} : PSD X W st sNever := ps_weak ps_never fun T σ H ⟨F, ρ, κ, δ, XD, DD, S, R, h, P, PX⟩ => h.elim
theorem sd_exp (ha : PED X W e a) (hs : swapsWith e none pos.line X.env = pure false := by rfl) : PSD X W (.Expr e pos) (sExp a) := ps_weak (ps_expr ha hs) fun T σ H ⟨F, ρ, κ, δ, XD, DD, S, R, h, P, PX⟩ =>
  ⟨F, ρ, κ, δ, XD, _, S, R, h, fun F1 ρ1 κ1 H1 x v e1 S1 R1 h1 => P.nx _ _ _ _ _ _ e1 S1 (R.ext e1) h1, PX⟩
theorem sd_ret (ha : PED X W e a) : PSD X W (.Return (some e) pos) (sRet a) := ps_weak (ps_ret ha) fun T σ H ⟨F, ρ, κ, δ, XD, DD, S, R, h, P, PX⟩ => ⟨F, ρ, κ, δ, XD, _, S, R, h, P.rt, PX⟩
theorem sd_if (ht : PTD X W e t) (h1 : PSsD X W sts u) (h2 : PSsD X W sts2 v) : PSD X W (.If e sts sts2 pos) (sIf t u v) := ps_weak (ps_if ht h1 h2) fun T σ H ⟨F, ρ, κ, δ, XD, DD, S, R, h, P, PX⟩ =>
  ⟨F, ρ, κ, δ, XD, _, S, R, h, fun F1 ρ1 κ1 H1 k e1 S1 h1 => by
    cases k with
    | true => exact ⟨F1, ρ1, κ1, δ, XD, DD, S1, R.ext e1, h1, P.ext e1, PX.ext e1⟩
    | false => exact ⟨F1, ρ1, κ1, δ, XD, DD, S1, R.ext e1, h1, P.ext e1, PX.ext e1⟩, PX⟩
theorem sd_asg {tg : Expr} (ha : PED X W e a) (hg : PGD X W tg g) (hs : swapsWithSole [tg] e pos.line X.env = pure false := by rfl) (hw : swappedStores [tg] e X.env = pure none := by rfl)
    (h1 : (assignEach [tg] X.env).map (·.2) = [assign tg X.env] := by rfl) : PSD X W (.Assign [tg] e pos) (sAsg a g) := ps_weak (ps_asg ha hg hs hw h1) fun T σ H ⟨F, ρ, κ, δ, XD, DD, S, R, h, P, PX⟩ =>
  ⟨F, ρ, κ, δ, XD, _, S, R, h, fun F1 ρ1 κ1 H1 x v e1 S1 R1 h1 => ⟨F1, ρ1, κ1, δ, x, XD, _, S1, R.ext e1, R1, h1, P.nx.ext e1, PX.ext e1⟩, PX⟩
theorem sd_set (i : Nat) {x : Str} {pos' : Pos} (hN : X.N.Nodup) (ha : PED X W e a) (hi : X.N[i]? = some x := by rfl) (hx : L2.Loc X.env.scope x := by first | exact Or.inl rfl | exact Or.inr rfl) (hs : swapsWith e (some (.Name x pos')) pos.line X.env = pure false := by rfl)
    (hf : X.fn x = true ∨ X.env.scope.names.lookup x = some .local := by first | exact .inl rfl | exact .inr rfl | assumption) : PSD X W (.Assign [.Name x pos'] e pos) (sAsg a (gN i)) := ps_weak (ps_set hN hi hx ha hs hf) fun T σ H ⟨F, ρ, κ, δ, XD, DD, S, R, h, P, PX⟩ =>
  ⟨F, ρ, κ, δ, XD, _, S, R, h, fun F1 ρ1 κ1 H1 x v e1 S1 R1 h1 => P.nx _ _ _ _ _ _ e1 S1 ((R.ext e1).set R1 i) h1, PX⟩
theorem sd_par (i j : Nat) (hp : ∀ ta, PA X [e1, e2] ta → PS X st (tPar i j ta)) (ha : PAD X W [e1, e2] as) : PSD X W st (sPar i j as) := ps_weak (hp _ ha) fun T σ H ⟨F, ρ, κ, δ, XD, DD, S, R, h, P, PX⟩ =>
  ⟨F, ρ, κ, δ, XD, _, S, R, h, fun F1 ρ1 κ1 H1 ds vs e1 S1 R1 ⟨x, y, h0, h1⟩ => by
    subst h0
    obtain ⟨v, u, rfl, rx, ry⟩ := repL2 R1
    exact ⟨v, u, rfl, P.nx _ _ _ _ _ _ e1 S1 (((R.ext e1).set rx i).set ry j) h1⟩, PX⟩
theorem sd_while {k : Nat} (G : Good k X W) (ht : PTD X W e t) (hb : PSsD X W sts u) : PSD X W (.While e sts [] pos) (sWhile t u) := ps_weak (ps_while G.po ht hb) fun T σ H ⟨F, ρ, κ, δ, XD, DD, S, R, ⟨I, ⟨m0, h0⟩, h⟩, P, PX⟩ => by
  refine ⟨fun m σ H => ∃ F1 ρ1 κ1 δ1, Ext F ρ F1 ρ1 ∧ StR (CtxOf X) F1 ρ1 κ1 H ∧ RepS (CtxOf X) F1 ρ1 δ1 σ ∧ I m δ1 κ1, ⟨m0, F, ρ, κ, δ, Ext.refl _ _, S, R, h0⟩, ?_⟩
  rintro m σ H ⟨F1, ρ1, κ1, δ1, e1, S1, R1, h1⟩
  refine ⟨F1, ρ1, κ1, δ1, XD, _, S1, R1, h m δ1 κ1 h1, fun F2 ρ2 κ2 H2 k e2 S2 h2 => ?_, PX.ext e1⟩
  have e12 := e1.trans e2
  cases k with
  | true =>
    have again : PostN (CtxOf X) F2 ρ2 (fun δ2 κ2 => ∃ m', m' < m ∧ I m' δ2 κ2) (fun σ' H' => ∃ m', m' < m ∧ ∃ F1 ρ1 κ1 δ1, Ext F ρ F1 ρ1 ∧ StR (CtxOf X) F1 ρ1 κ1 H' ∧ RepS (CtxOf X) F1 ρ1 δ1 σ' ∧ I m' δ1 κ1) :=
      fun F3 ρ3 κ3 H3 δ3 σ3 e3 S3 R3 ⟨m', hm, h3⟩ => ⟨m', hm, F3, ρ3, κ3, δ3, e12.trans e3, S3, R3, h3⟩
    exact ⟨_, fun _ _ h => h, F2, ρ2, κ2, δ1, XD, _, S2, R1.ext e2, h2, ⟨again, P.rt.ext e12, P.nx.ext e12, again⟩, PX.ext e12⟩
  | false => exact P.nx _ _ _ _ _ _ e12 S2 (R1.ext e2) h2
end
/-! ### what is walked -/
/-- an iterator J of the hand layer goes through the data items while g holds of the cells -/
def ItOk (C : Ctx) (F : Hp) (ρ : Loc0) (J : It) (items : List D) (g : Kap → Prop) : Prop := ∀ F' ρ' κ' H' (i : Nat), Ext F ρ F' ρ' → StR C F' ρ' κ' H' → g κ' →
  (i = items.length → J.stop i H') ∧ ∀ d, items[i]? = some d → J.go i H' ∧ ∀ x H2, J.yld i H' x H2 → ∃ F2, Ext F' ρ' F2 ρ' ∧ StR C F2 ρ' κ' H2 ∧ Rep C F2 ρ' d x
abbrev DI := DEnv → Kap → DX → (List D → (Kap → Prop) → Kap → Prop) → Prop
def liftI (C : Ctx) (W : WX) (di : DI) : TI := fun σ H R => ∃ F ρ κ δ XD QD, StR C F ρ κ H ∧ RepS C F ρ δ σ ∧ di δ κ XD QD ∧
  (∀ F' ρ' κ' H' J items g, Ext F ρ F' ρ' → StR C F' ρ' κ' H' → ItOk C F' ρ' J items g → QD items g κ' → R J H') ∧ PostX C F ρ XD W
abbrev PID (X : Cx) (W : WX) (tg e : Expr) (di : DI) : Prop := PI X tg e (liftI (CtxOf X) W di)
theorem pi_weak {X : Cx} {tg e : Expr} {t t' : TI} (h : PI X tg e t) (w : ∀ σ H Q, t' σ H Q → t σ H Q) : PI X tg e t' := ⟨fun pins s σ H Q I q => h.run pins s σ H Q I (w σ H Q q)⟩
def gTrue : Kap → Prop := fun _ => True
/-- a list, a tuple, a text, a cell's list (that stays as it is) -/
def charsD (x : Str) : List D := x.cps.toList.map fun c => .str ⟨#[c]⟩
def iSeq (a : DE) : DI := fun δ κ X Q => a δ κ X fun d κ1 => match d with
  | .str x => Q (charsD x) gTrue κ1
  | .cell n => match κ1 n with
    | some (.live .lst xs) => Q xs (fun κ => κ n = some (.live .lst xs)) κ1
    | _ => False
  | d => match view d κ1 with
    | some (.lst, xs) => Q xs gTrue κ1
    | some (.klst, xs) => Q xs gTrue κ1
    | some (.tup, xs) => Q xs gTrue κ1
    | _ => False
theorem itOk_l {C : Ctx} {F : Hp} {ρ : Loc0} {k : PySem.W.Frag} {a : Addr} {vs : List V} {xs : List D} {g : Kap → Prop} (hk : ∀ F' ρ' κ' H', Ext F ρ F' ρ' → StR C F' ρ' κ' H' → g κ' → SqL C.K H' a vs) (hu : ∀ F' ρ' κ' H' ws, Ext F ρ F' ρ' → StR C F' ρ' κ' H' → g κ' → SqL C.K H' a ws → True)
    (r : RepL C F ρ xs vs) : ItOk C F ρ (Itl C.K a) xs g := fun F' ρ' κ' H' i e S hg => ⟨fun hi => ⟨vs, hk _ _ _ _ e S hg, by rw [← r.length]; omega⟩, fun d hd => by
    obtain ⟨v, hv, rv⟩ := (r.ext e).get hd
    refine ⟨⟨vs, v, hk _ _ _ _ e S hg, hv⟩, fun x H2 ⟨h1, h2⟩ => ?_⟩
    subst h1
    have ev : v = x := Option.some.inj (hv.symm.trans (h2 vs (hk _ _ _ _ e S hg)))
    subst ev
    exact ⟨F', Ext.refl _ _, S, rv⟩⟩
theorem itOk_t {C : Ctx} {F : Hp} {ρ : Loc0} {a : Addr} {vs : List V} {xs : List D} {g : Kap → Prop} (hk : ∀ F' ρ' κ' H', Ext F ρ F' ρ' → StR C F' ρ' κ' H' → g κ' → SqT C.K H' a vs)
    (r : RepL C F ρ xs vs) : ItOk C F ρ (Itt C.K a) xs g := fun F' ρ' κ' H' i e S hg => ⟨fun hi => ⟨vs, hk _ _ _ _ e S hg, by rw [← r.length]; omega⟩, fun d hd => by
    obtain ⟨v, hv, rv⟩ := (r.ext e).get hd
    refine ⟨⟨vs, v, hk _ _ _ _ e S hg, hv⟩, fun x H2 ⟨h1, h2⟩ => ?_⟩
    subst h1
    have ev : v = x := Option.some.inj (hv.symm.trans (h2 vs (hk _ _ _ _ e S hg)))
    subst ev
    exact ⟨F', Ext.refl _ _, S, rv⟩⟩
theorem itOk_s {C : Ctx} {F : Hp} {ρ : Loc0} {x : Str} : ItOk C F ρ (Its x) (charsD x) gTrue := fun F' ρ' κ' H' i e S hg => ⟨fun hi => by
    show x.cps.size ≤ i
    rw [hi]; unfold charsD; rw [List.length_map, Array.length_toList]; exact Nat.le_refl _, fun d hd => by
    unfold charsD at hd
    rw [List.getElem?_map, Option.map_eq_some_iff] at hd
    obtain ⟨c, hc, rfl⟩ := hd
    rw [Array.getElem?_toList] at hc
    have hlt : i < x.cps.size := by
      obtain ⟨h, _⟩ := Array.getElem?_eq_some_iff.mp hc
      exact h
    refine ⟨hlt, fun y H2 ⟨h1, c', h2, h3⟩ => ?_⟩
    subst h1 h3
    rw [hc] at h2
    cases h2
    exact ⟨F', Ext.refl _ _, S, .str _⟩⟩
section
variable {X : Cx} {pins : List (Addr × Obj)} {σ : L2.St} {H : Hp} {s : Shared} {R : It → Hp → Prop} {tg : Expr} {E : Value → Shared → Prop}
theorem iter_l (I : L2.Inv X pins σ H s) {p : Addr} {xs : List V} (hq : SqL X.K H p xs) (q : R (Itl X.K p) H) : wpAny (model X.prog X.w) X.A (pyIter (.ref p)) (PIE X pins σ tg R) E s := by
  obtain ⟨its, rv, pl, hz⟩ := I.list hq
  exact wpAny_pyIter_list pl.isList (pi_one (tk := s.toks) I _ (turn_list p _) ⟨_, Heap.get?_push_size _ rfl, rfl, rfl⟩ q)
theorem iter_t (I : L2.Inv X pins σ H s) {p : Addr} {xs : List V} (hq : SqT X.K H p xs) (q : R (Itt X.K p) H) : wpAny (model X.prog X.w) X.A (pyIter (.ref p)) (PIE X pins σ tg R) E s := by
  obtain ⟨its, rv, pl, hz⟩ := I.tuple hq
  exact wpAny_pyIter_tuple (show s.heap.IsTuple p its.toArray from pl) (pi_one (tk := s.toks) I _ (turn_tuple p _) ⟨_, Heap.get?_push_size _ rfl, rfl, rfl⟩ q)
theorem iter_s (I : L2.Inv X pins σ H s) {x : Str} {t : Tok} (q : R (Its x) H) : wpAny (model X.prog X.w) X.A (pyIter (.str x t)) (PIE X pins σ tg R) E s := by
  cases ha : x.cps.all (· < 128)
  · exact wpAny_pyIter_wide ha (pi_one (tk := s.toks) I _ (turn_str _ x t "str_iterator" (.inr rfl)) ⟨_, Heap.get?_push_size _ rfl, rfl, rfl⟩ q)
  · exact wpAny_pyIter_ascii ha (pi_one (tk := s.toks) I _ (turn_str _ x t "str_ascii_iterator" (.inl rfl)) ⟨_, Heap.get?_push_size _ rfl, rfl, rfl⟩ q)
end
/-- a value that can be walked, as an iterator -/
def ItV (K : PySem.W.Frag) (v : V) (H : Hp) (R : It → Hp → Prop) : Prop := (∃ x, v = .str x ∧ R (Its x) H) ∨ (∃ p xs, v = .ref p ∧ SqL K H p xs ∧ R (Itl K p) H) ∨ ∃ p xs, v = .ref p ∧ SqT K H p xs ∧ R (Itt K p) H
theorem pi_val {X : Cx} {tg e : Expr} {te : TE} (he : PE X e te) : PI X tg e (fun σ H R => te σ H fun v H1 => ItV X.K v H1 R) := by
  refine ⟨fun pins s σ H R I h => thn (he.run pins s σ H _ I h) fun u s1 ⟨v, H1, I1, r1, q⟩ => ?_⟩
  rcases q with ⟨x, rfl, q⟩ | ⟨p, xs, rfl, hq, q⟩ | ⟨p, xs, rfl, hq, q⟩
  · obtain ⟨t, rfl⟩ := r1
    exact iter_s I1 q
  · cases r1
    exact iter_l I1 hq q
  · cases r1
    exact iter_t I1 hq q
theorem pi_seqD {X : Cx} {W : WX} {tg e : Expr} {a : DE} (ha : PED X W e a) : PID X W tg e (iSeq a) := by
  refine pi_weak (pi_val ha) fun σ H Q ⟨F, ρ, κ, δ, XD, QD, S, R, h, P, PX⟩ => ⟨F, ρ, κ, δ, XD, _, S, R, h, fun F1 ρ1 κ1 H1 d v e1 S1 R1 h1 => ?_, PX⟩
  cases d with
  | str x => cases R1; exact .inl ⟨x, rfl, P _ _ _ _ _ _ _ e1 S1 itOk_s h1⟩
  | cell n =>
    have h1' : (match κ1 n with
      | some (.live .lst xs) => QD xs (fun κ => κ n = some (.live .lst xs)) κ1
      | _ => False) := h1
    cases ek : κ1 n with
    | none => rw [ek] at h1'; exact h1'.elim
    | some c =>
      cases c with
      | dead => rw [ek] at h1'; exact h1'.elim
      | live k xs =>
        rw [ek] at h1'
        cases k <;> first | exact h1'.elim | skip
        obtain ⟨p, vs, rfl, hr, hm, rl⟩ := cell_at S1 R1 ek
        refine .inr (.inl ⟨p, vs, rfl, SqL.of hm, P _ _ _ _ _ _ _ e1 S1 ?_ h1'⟩)
        intro F2 ρ2 κ2 H2 i e2 S2 hg
        obtain ⟨p2, vs2, r2, _, hm2, rl2⟩ := S2.live n _ _ hg
        rw [e2.r _ _ hr] at r2
        cases r2
        refine ⟨fun hi => ⟨vs2, SqL.of hm2, by rw [← rl2.length]; omega⟩, fun d hd => ?_⟩
        obtain ⟨w, hv, rv⟩ := rl2.get hd
        refine ⟨⟨vs2, w, SqL.of hm2, hv⟩, fun x H3 ⟨h3, h4⟩ => ?_⟩
        subst h3
        have ev : w = x := Option.some.inj (hv.symm.trans (h4 vs2 (SqL.of hm2)))
        subst ev
        exact ⟨F2, Ext.refl _ _, S2, rv⟩
  | node k xs =>
    cases R1 with
    | @node _ _ a vs hh rr =>
      cases k <;> first | exact h1.elim | skip
      · exact .inr (.inl ⟨a, vs, rfl, SqL.of (S1.sub _ _ hh), P _ _ _ _ _ _ _ e1 S1 (itOk_l (k := X.K) (fun F' ρ' κ' H' e S _ => SqL.of (S.sub _ _ (e.f _ _ hh))) (fun _ _ _ _ _ _ _ _ _ => trivial) rr) h1⟩)
      · exact .inr (.inr ⟨a, vs, rfl, sqt_ext S1.sub hh, P _ _ _ _ _ _ _ e1 S1 (itOk_t (fun F' ρ' κ' H' e S _ => sqt_ext S.sub (sqt_ext e.f hh)) rr) h1⟩)
      · exact .inr (.inl ⟨a, vs, rfl, sql_ext S1.sub hh, P _ _ _ _ _ _ _ e1 S1 (itOk_l (k := X.K) (fun F' ρ' κ' H' e S _ => sql_ext S.sub (sql_ext e.f hh)) (fun _ _ _ _ _ _ _ _ _ => trivial) rr) h1⟩)
  | _ => exact h1.elim
/-- range(n), range(a, b) -/
def rangeD (lo : Int) (n : Nat) : List D := (List.range n).map fun i => D.int (lo + (i : Nat))
def iRange1 (as : DA) : DI := fun δ κ X Q => as δ κ X fun xs κ1 => match xs with
  | [.int j] => -(2 ^ 62) ≤ j ∧ j < 2 ^ 62 ∧ Q (rangeD 0 j.toNat) gTrue κ1
  | _ => False
theorem itOk_r {C : Ctx} {F : Hp} {ρ : Loc0} {lo : Int} {n : Nat} : ItOk C F ρ (Itr lo n) (rangeD lo n) gTrue := fun F' ρ' κ' H' i e S hg => by
  unfold rangeD
  refine ⟨fun hi => by show n ≤ i; rw [hi, List.length_map, List.length_range]; exact Nat.le_refl _, fun d hd => ?_⟩
  rw [List.getElem?_map, Option.map_eq_some_iff] at hd
  obtain ⟨j, hj, rfl⟩ := hd
  obtain ⟨h1, h2⟩ := List.getElem?_eq_some_iff.mp hj
  rw [List.length_range] at h1
  rw [List.getElem_range] at h2
  subst h2
  refine ⟨h1, fun x H2 ⟨h3, h4⟩ => ?_⟩
  subst h3 h4
  exact ⟨F', Ext.refl _ _, S, .int _⟩
section
variable {X : Cx} {W : WX} {tg e1 e2 : Expr} {as : DA} {p pos : Pos}
theorem pi_range1D (hm : X.mg "range" = none) (ha : PAD X W [e1] as) (hg : Gl X "range" := by rfl) (hs : starEach [e1] X.env = [(false, eval e1 X.env)] := by rfl) : PID X W tg (.Call (.Name "range" p) [e1] [] pos) (iRange1 as) :=
  pi_weak (pi_range1 hg hm ha hs) fun σ H Q ⟨F, ρ, κ, δ, XD, QD, S, R, h, P, PX⟩ => ⟨F, ρ, κ, δ, XD, _, S, R, h, fun F1 ρ1 κ1 H1 xs vs e1 S1 R1 h1 => by
    match xs, h1 with
    | [.int j], h1 =>
      obtain ⟨v, rfl, r⟩ := repL1 R1
      cases r
      exact ⟨j, rfl, h1.1, h1.2.1, P _ _ _ _ _ _ _ e1 S1 itOk_r h1.2.2⟩, PX⟩
end
/-! ### for -/
def dLoop (g : DG) (b : DS) (gd : Kap → Prop) (X : DX) (T : DEnds) : List D → DEnv → Kap → Prop
  | [], δ, κ => gd κ ∧ T.nx δ κ
  | d :: ds, δ, κ => gd κ ∧ g d δ κ X fun δ1 κ1 => b δ1 κ1 X { nx := dLoop g b gd X T ds, ct := dLoop g b gd X T ds, bk := T.nx, rt := T.rt }
def sFor (it : DI) (g : DG) (b : DS) : DS := fun δ κ X T => it δ κ X fun items gd κ1 => dLoop g b gd X T items δ κ1
theorem dLoop_gd {g : DG} {b : DS} {gd : Kap → Prop} {X : DX} {T : DEnds} {ds : List D} {δ : DEnv} {κ : Kap} (h : dLoop g b gd X T ds δ κ) : gd κ := by
  cases ds with
  | nil => exact h.1
  | cons d ds => exact h.1
section
variable {X : Cx} {W : WX} {e : Expr} {tg : Expr} {sts : List Stmt} {it : DI} {g : DG} {b : DS} {pos : Pos} {k : Nat}
theorem sd_for (G : Good k X W) (hi : PID X W tg e it) (hg : PGD X W tg g) (hb : PSsD X W sts b) (hs : ∀ x, foldedSetIterable e X.env x = pure x := by intro _; rfl) : PSD X W (.For tg e sts [] pos) (sFor it g b) :=
  ps_weak (ps_for G.po G.calm hi hg hb hs) fun T σ H ⟨F, ρ, κ, δ, XD, DD, S, R, h, P, PX⟩ => by
  refine ⟨F, ρ, κ, δ, XD, _, S, R, h, fun F1 ρ1 κ1 H1 J items gd e1 S1 hJ h1 => ?_, PX⟩
  refine ⟨fun i m σ H => ∃ F2 ρ2 κ2 δ2, Ext F1 ρ1 F2 ρ2 ∧ StR (CtxOf X) F2 ρ2 κ2 H ∧ RepS (CtxOf X) F2 ρ2 δ2 σ ∧ i ≤ items.length ∧ m = items.length - i ∧ dLoop g b gd XD DD (items.drop i) δ2 κ2, ⟨_, F1, ρ1, κ1, δ, Ext.refl _ _, S1, R.ext e1, Nat.zero_le _, rfl, h1⟩, ?_⟩
  rintro i m σ H ⟨F2, ρ2, κ2, δ2, e2, S2, R2, hi, rfl, h2⟩
  obtain ⟨q1, q2⟩ := hJ F2 ρ2 κ2 H i e2 S2 (dLoop_gd h2)
  have e12 := e1.trans e2
  by_cases hlt : i < items.length
  · have hd : items[i]? = some items[i] := List.getElem?_eq_getElem hlt
    obtain ⟨q3, q4⟩ := q2 _ hd
    rw [List.drop_eq_getElem_cons hlt] at h2
    refine .inr ⟨q3, _, fun _ _ h => h, fun x H3 hy => ?_⟩
    obtain ⟨F3, e3, S3, R3⟩ := q4 x H3 hy
    have again : PostN (CtxOf X) F3 ρ2 (dLoop g b gd XD DD (items.drop (i + 1))) (fun σ' H' => ∃ m', m' < items.length - i ∧ ∃ F2 ρ2 κ2 δ2, Ext F1 ρ1 F2 ρ2 ∧ StR (CtxOf X) F2 ρ2 κ2 H' ∧ RepS (CtxOf X) F2 ρ2 δ2 σ' ∧ i + 1 ≤ items.length ∧ m' = items.length - (i + 1) ∧ dLoop g b gd XD DD (items.drop (i + 1)) δ2 κ2) :=
      fun F4 ρ4 κ4 H4 δ4 σ4 e4 S4 R4 h4 => ⟨_, by omega, F4, ρ4, κ4, δ4, e2.trans (e3.trans e4), S4, R4, hlt, rfl, h4⟩
    exact ⟨F3, ρ2, κ2, δ2, _, XD, _, S3, R2.ext e3, R3, h2.2, fun F4 ρ4 κ4 H4 δ4 σ4 e4 S4 R4 h4 => ⟨F4, ρ4, κ4, δ4, XD, _, S4, R4, h4, ⟨again.ext e4, P.rt.ext (e12.trans (e3.trans e4)), P.nx.ext (e12.trans (e3.trans e4)), again.ext e4⟩, PX.ext (e12.trans (e3.trans e4))⟩, PX.ext (e12.trans e3)⟩
  · have e : i = items.length := by omega
    subst e
    rw [List.drop_length] at h2
    exact .inl ⟨q1 rfl, P.nx _ _ _ _ _ _ e12 S2 R2 h2.2⟩
end
/-! ### list comprehensions -/
/-- the names that a comprehension's target binds: one (inl), or those of a tuple -/
abbrev TN := Sum Nat (List Nat)
def bindL : List Nat → List D → DEnv → Option DEnv
  | [], [], δ => some δ
  | i :: is, d :: ds, δ => bindL is ds (δ.set i (some d))
  | _, _, _ => none
def bindT (t : TN) (d : D) (δ : DEnv) (κ : Kap) : Option DEnv := match t with
  | .inl i => some (δ.set i (some d))
  | .inr is => match view d κ with
    | some (.tup, xs) => bindL is xs δ
    | _ => none
def gvL : List Nat → TGs
  | [] => gNil
  | i :: is => gCons (gName i) (gvL is)
def gvT (K : PySem.W.Frag) : TN → TG
  | .inl i => gName i
  | .inr is => gTup K is.length (gvL is)
theorem wipe_set {σ : L2.St} {x : Option V} {i : Nat} : ∀ {vs : List Nat}, i ∈ vs → L2.wipe (σ.set i x) vs = L2.wipe σ vs
  | v :: vs, h => by
    unfold L2.wipe
    by_cases hi : i ∈ vs
    · rw [wipe_set hi]
    · have hv : i = v := by
        rcases List.mem_cons.mp h with e | e
        · exact e
        · exact absurd e hi
      subst hv
      have key : ∀ (vs : List Nat) (σ : L2.St), i ∉ vs → L2.wipe (σ.set i x) vs = (L2.wipe σ vs).set i x := by
        intro vs
        induction vs with
        | nil => intro σ _; rfl
        | cons w vs ih =>
          intro σ hn
          unfold L2.wipe
          rw [ih σ (fun z => hn (List.mem_cons_of_mem _ z)), List.set_comm _ _ (fun z => hn (by rw [z]; exact List.mem_cons_self))]
      rw [key vs σ hi, List.set_set]
theorem wipe_wipe {σ : L2.St} : ∀ {vs ws : List Nat}, (∀ v ∈ vs, v ∈ ws) → L2.wipe (L2.wipe σ vs) ws = L2.wipe σ ws
  | [], _, _ => rfl
  | v :: vs, ws, h => by
    show L2.wipe ((L2.wipe σ vs).set v none) ws = _
    rw [wipe_set (h v List.mem_cons_self), wipe_wipe fun w hw => h w (List.mem_cons_of_mem _ hw)]
section
variable {C : Ctx} {F : Hp} {ρ : Loc0} {κ : Kap} {H : Hp}
theorem bindL_at {vs0 : List Nat} {σ0 : L2.St} {Q : L2.St → Hp → Prop} : ∀ {is : List Nat} {ds : List D} {vs : List V} {δ δ' : DEnv} {σ : L2.St}, (∀ i ∈ is, i ∈ vs0) → bindL is ds δ = some δ' → RepS C F ρ δ σ → RepL C F ρ ds vs → L2.wipe σ vs0 = σ0 →
    (∀ σ', RepS C F ρ δ' σ' → L2.wipe σ' vs0 = σ0 → Q σ' H) → gvL is vs σ H Q
  | [], [], _, _, _, _, _, h, R, .nil, hw, hq => by cases h; exact ⟨rfl, hq _ R hw⟩
  | i :: is, d :: ds, _, _, _, _, hi, h, R, .cons r t, hw, hq => ⟨_, _, rfl, bindL_at (fun j hj => hi j (List.mem_cons_of_mem _ hj)) h (R.set r i) t (by rw [wipe_set (hi i List.mem_cons_self)]; exact hw) hq⟩
theorem bindT_at {t : TN} {d : D} {v : V} {δ δ' : DEnv} {σ : L2.St} {vs0 : List Nat} {σ0 : L2.St} {Q : L2.St → Hp → Prop} (S : StR C F ρ κ H) (hi : ∀ i ∈ (match t with | .inl i => [i] | .inr is => is), i ∈ vs0) (h : bindT t d δ κ = some δ') (R : RepS C F ρ δ σ) (r : Rep C F ρ d v) (hw : L2.wipe σ vs0 = σ0)
    (hq : ∀ σ', RepS C F ρ δ' σ' → L2.wipe σ' vs0 = σ0 → Q σ' H) : gvT C.K t v σ H Q := by
  cases t with
  | inl i =>
    cases h
    exact hq _ (R.set r i) (by rw [wipe_set (hi i List.mem_cons_self)]; exact hw)
  | inr is =>
    have h' : (match view d κ with
      | some (.tup, xs) => bindL is xs δ
      | _ => none) = some δ' := h
    cases ev : view d κ with
    | none => rw [ev] at h'; cases h'
    | some p =>
      obtain ⟨k, xs⟩ := p
      rw [ev] at h'
      cases k <;> first | (cases h'; done) | skip
      obtain ⟨a, vs, rfl, hk, rl⟩ := view_at S r ev
      have hlen : ∀ {is : List Nat} {xs : List D} {δ δ' : DEnv}, bindL is xs δ = some δ' → xs.length = is.length := by
        intro is
        induction is with
        | nil => intro xs δ δ' h; cases xs with
          | nil => rfl
          | cons => cases h
        | cons i is ih => intro xs δ δ' h; cases xs with
          | nil => cases h
          | cons x xs => exact congrArg (· + 1) (ih h)
      exact ⟨a, vs, rfl, hk, by rw [← rl.length]; exact hlen h', bindL_at hi h' R rl hw hq⟩
end
abbrev XF : DX := fun _ _ _ _ => False
abbrev WF : WX := fun _ _ _ _ => False
def lcLoop (n : Nat) (t : TN) (tt : DT) (e : DE) (gd : Kap → Prop) (vs : List Nat) (δ : DEnv) (fin : List D → Kap → Prop) : List D → List D → Kap → Prop
  | [], acc, κ => gd κ ∧ fin acc κ
  | d :: ds, acc, κ => gd κ ∧ ∃ δ1, bindT t d (dwipe δ vs) κ = some δ1 ∧ tt δ1 κ XF fun b κ2 => if b = true then e δ1 κ2 XF fun y κ3 => κ3 n = some (.live .lst acc) ∧ acc.length < sizeLine ∧ lcLoop n t tt e gd vs δ fin ds (acc ++ [y]) (kset κ3 n (.live .lst (acc ++ [y])))
      else lcLoop n t tt e gd vs δ fin ds acc κ2
def dLc (m : Bool) (it : DI) (t : TN) (tt : DT) (e : DE) (vs : List Nat) : DE := fun δ κ X Q => it δ κ X fun items gd κ1 => ∀ n, κ1 n = none →
  lcLoop n t tt e gd vs δ (fun acc κ' => κ' n = some (.live .lst acc) ∧ if m = true then Q (.cell n) κ' else Q (.lst acc) (kset κ' n .dead)) items [] (kset κ1 n (.live .lst []))
def tYesD : DT := fun _ κ _ Q => Q true κ
theorem lc_gd {n : Nat} {t : TN} {tt : DT} {e : DE} {gd : Kap → Prop} {vs : List Nat} {δ : DEnv} {fin : List D → Kap → Prop} {ds acc : List D} {κ : Kap} (h : lcLoop n t tt e gd vs δ fin ds acc κ) : gd κ := by
  cases ds with
  | nil => exact h.1
  | cons d ds => exact h.1
theorem lift_lc {C : Ctx} {W : WX} {m : Bool} {it : DI} {t : TN} {tt : DT} {e : DE} {vs : List Nat} {ttv : TT} {ev : TE} (ht : ∀ {σ H Q}, liftT C WF tt σ H Q → ttv σ H Q) (he : ∀ {σ H Q}, liftE C WF e σ H Q → ev σ H Q) (hi : ∀ i ∈ (match t with | .inl i => [i] | .inr is => is), i ∈ vs)
    {σ : L2.St} {H : Hp} {Q : VK} (h : liftE C W (dLc m it t tt e vs) σ H Q) : tLc (liftI C W it) (gvT C.K t) ttv ev vs σ H Q := by
  obtain ⟨F, ρ, κ, δ, XD, QD, S, R, h, P, PX⟩ := h
  refine ⟨F, ρ, κ, δ, XD, _, S, R, h, fun F1 ρ1 κ1 H1 J items gd e1 S1 hJ h1 D0 hD => ?_, PX⟩
  obtain ⟨n, hn⟩ := S1.fresh
  obtain ⟨ρ2, e2, hr2, S2⟩ := S1.cell (o := .lst []) (k := .lst) (vs := []) (xs := []) hD (fun _ q => q) .nil hn
  have h2 := h1 n hn
  refine ⟨fun i m H => ∃ F3 ρ3 κ3 acc, Ext F1 ρ2 F3 ρ3 ∧ StR C F3 ρ3 κ3 H ∧ i ≤ items.length ∧ m = items.length - i ∧ lcLoop n t tt e gd vs δ _ (items.drop i) acc κ3, ⟨_, F1, ρ2, _, [], Ext.refl _ _, S2, Nat.zero_le _, rfl, h2⟩, ?_⟩
  rintro i m' H ⟨F3, ρ3, κ3, acc, e3, S3, hi3, rfl, h3⟩
  have e23 := e2.trans e3
  have hr3 := e3.r _ _ hr2
  obtain ⟨q1, q2⟩ := hJ F3 ρ3 κ3 H i e23 S3 (lc_gd h3)
  by_cases hlt : i < items.length
  · have hd : items[i]? = some items[i] := List.getElem?_eq_getElem hlt
    obtain ⟨q3, q4⟩ := q2 _ hd
    rw [List.drop_eq_getElem_cons hlt] at h3
    obtain ⟨_, δ1, hb, h4⟩ := h3
    refine .inr ⟨q3, _, fun _ h => h, fun x H4 hy => ?_⟩
    obtain ⟨F4, e4, S4, R4⟩ := q4 x H4 hy
    have e34 := e23.trans e4
    refine bindT_at (σ0 := L2.wipe σ vs) S4 hi hb ((R.ext (e1.trans e34)).wipe vs) R4 (wipe_wipe fun _ h => h) fun σ5 R5 hw => ⟨hw, ht ⟨F4, ρ3, κ3, δ1, XF, _, S4, R5, h4, fun F5 ρ5 κ5 H5 b e5 S5 h5 => ?_, fun _ _ _ _ _ _ _ _ _ _ _ _ _ _ h => h.elim⟩⟩
    have e45 := e34.trans e5
    cases b with
    | true =>
      show ev σ5 H5 _
      refine he ⟨F5, ρ5, κ5, δ1, XF, _, S5, R5.ext e5, h5, fun F6 ρ6 κ6 H6 y v e6 S6 R6 ⟨h6, h7, h8⟩ => ?_, fun _ _ _ _ _ _ _ _ _ _ _ _ _ _ h => h.elim⟩
      have e36 := (e3.trans e4).trans (e5.trans e6)
      obtain ⟨a, ws, g1, g2, g3, g4⟩ := S6.live n _ _ h6
      rw [e36.r _ _ hr2] at g1
      cases g1
      have g3' : H6 D0 = some (.lst ws) := g3
      refine ⟨ws, g3', by rw [← g4.length]; exact h7, items.length - (i + 1), by omega, F6, ρ6, _, _, e36, ?_, hlt, rfl, h8⟩
      exact S6.write (k' := .lst) h6 (e36.r _ _ hr2) (fun _ q => q) (g4.append (.cons R6 .nil))
    | false =>
      show ∃ m', m' < items.length - i ∧ _
      exact ⟨items.length - (i + 1), by omega, F5, ρ5, κ5, acc, (e3.trans e4).trans e5, S5, hlt, rfl, h5⟩
  · have e : i = items.length := by omega
    subst e
    rw [List.drop_length] at h3
    obtain ⟨_, h4, h5⟩ := h3
    refine .inl ⟨q1 rfl, ?_⟩
    cases m with
    | true => exact P _ _ _ _ _ _ (e1.trans e23) S3 (.cell hr3) h5
    | false =>
      obtain ⟨F4, e4, r4, S4⟩ := S3.freeze h4 hr3
      exact P _ _ _ _ _ _ (e1.trans (e23.trans e4)) S4 r4 h5
section
variable {X : Cx} {W : WX} {elt tg iter : Expr} {ifs : List Expr} {it : DI} {tt : DT} {a : DE} {pos : Pos} {k : Nat} {scope : Scope}
abbrev PTsD (X : Cx) (W : WX) (ifs : List Expr) (dt : DT) : Prop := PTs X ifs (liftT (CtxOf X) W dt)
theorem pts_nilD : PTsD X W [] tYesD := ⟨fun pins s σ H Q I ⟨F, ρ, κ, δ, XD, QD, S, R, h, P, PX⟩ => pts_nil.run pins s σ H Q I (P _ _ _ _ _ (Ext.refl _ _) S h)⟩
theorem pts_oneD {e : Expr} (h : PTD X W e tt) : PTsD X W [e] tt := pts_one h
theorem pd_lc (m : Bool) (own : List (Str × Nat)) (t : TN) (G : Good k X W) (hi : PID X W tg iter it) (hg : ∀ (s : Shared) (H : Hp) (C : Addr) (cl : List (Str × Addr)) (fp : List Addr), PG (X.blk s H scope (compEnvC scope cl C X.env) fp) tg (gvT X.K t))
    (ht : ∀ (s : Shared) (H : Hp) (C : Addr) (cl : List (Str × Addr)) (fp : List Addr), PTsD (X.blk s H scope (compEnvC scope cl C X.env) fp) WF ifs tt) (he : ∀ (s : Shared) (H : Hp) (C : Addr) (cl : List (Str × Addr)) (fp : List Addr), PED (X.blk s H scope (compEnvC scope cl C X.env) fp) WF elt a)
    (ok : blkC X.N X.env.scope scope own = true := by kernel_rfl) (hin : ∀ i ∈ (match t with | .inl i => [i] | .inr is => is), i ∈ own.map (·.2) := by decide) (hs : ∀ x, foldedSetIterable iter X.env x = pure x := by intro _; rfl) :
    PED X W (.ListComp elt [⟨tg, iter, ifs, 0⟩] scope pos) (dLc m it t tt a (own.map (·.2))) := pe_weak (pe_lc G.calm G.nd hi (blkOk_by ok) hg ht he hs) fun _ _ _ => lift_lc id id hin
theorem sd_setLc (i : Nat) (m : Bool) (own : List (Str × Nat)) (t : TN) {y : Str} {py spos : Pos} (G : Good k X W) (hi : PID X W tg iter it) (hg : ∀ (s : Shared) (H : Hp) (C : Addr) (cl : List (Str × Addr)) (fp : List Addr), PG (X.blk s H scope (compEnvC scope cl C X.env) fp) tg (gvT X.K t))
    (ht : ∀ (s : Shared) (H : Hp) (C : Addr) (cl : List (Str × Addr)) (fp : List Addr), PTsD (X.blk s H scope (compEnvC scope cl C X.env) fp) WF ifs tt) (he : ∀ (s : Shared) (H : Hp) (C : Addr) (cl : List (Str × Addr)) (fp : List Addr), PED (X.blk s H scope (compEnvC scope cl C X.env) fp) WF elt a)
    (hsw : swapsWith (.ListComp elt [⟨tg, iter, ifs, 0⟩] scope pos) (some (.Name y py)) spos.line X.env = pure true := by exact sw_true rfl rfl rfl (by decide +kernel))
    (hy : X.N[i]? = some y := by rfl) (hyl : X.env.scope.names.lookup y = some .local := by rfl)
    (ok : blkC X.N X.env.scope scope own = true := by kernel_rfl) (hin : ∀ i ∈ (match t with | .inl i => [i] | .inr is => is), i ∈ own.map (·.2) := by decide) (hs : ∀ x, foldedSetIterable iter X.env x = pure x := by intro _; rfl) :
    PSD X W (.Assign [.Name y py] (.ListComp elt [⟨tg, iter, ifs, 0⟩] scope pos) spos) (sAsg (dLc m it t tt a (own.map (·.2))) (gN i)) :=
  ps_weak (ps_setLc G.calm G.nd hy hyl hsw hi (blkOk_by ok) hg ht he hs) fun T σ H ⟨F, ρ, κ, δ, XD, DD, S, R, h, P, PX⟩ =>
  lift_lc id id hin ⟨F, ρ, κ, δ, XD, _, S, R, h, fun F1 ρ1 κ1 H1 x v e1 S1 R1 h1 => P.nx _ _ _ _ _ _ e1 S1 ((R.ext e1).set R1 i) h1, PX⟩
end
end DL
/-! DL: defs, calls, the law's end. -/
namespace DL
open PySem PySem.Spec PyProof.Rows L2
def PostXE (C : Ctx) (F : Hp) (ρ : Loc0) (XD : Str → List D → Kap → Prop) (E : XK) : Prop := ∀ F' ρ' κ' H' c fs cls dd, Ext F ρ F' ρ' → StR C F' ρ' κ' H' → RepX C F' ρ' c fs cls dd → XD c fs κ' → E cls dd H'
/-- a def keeps a promise over data -/
structure FnG (P : Program) (w : World) (K : PySem.W.Frag) (mg : Str → Option Value) (base : Heap) (k : Nat) (f : Addr) (fd : FuncData) (ps : List Str) (sp : DSp) : Prop where
  len : ∀ ds κ XD Q, sp ds κ XD Q → ds.length = ps.length
  run : ∀ (A : Around) (outer : List Env) (s : Shared) (H : Hp) (args : Args) (us : List Value) (vs : List V) (ds : List D) (F : Hp) (ρ : Loc0) (κ : Kap) (XD : Str → List D → Kap → Prop) (QD : DQ) (Q : VK) (E : XK), Room k A → A.guards = some [] →
    Env0 P w K mg base A outer s H → BindsTo s fd args (ps.zip us) → Vals vs us → StR ⟨K, mg⟩ F ρ κ H → RepL ⟨K, mg⟩ F ρ ds vs → sp ds κ XD QD → Post ⟨K, mg⟩ F ρ QD Q → PostXE ⟨K, mg⟩ F ρ XD E →
    codeAny (model P w) A (.call (.ref f) args) (CR (L2N.CX P w) outer P w H s Q E) s
theorem FnG.mono {P : Program} {w : World} {K : PySem.W.Frag} {mg : Str → Option Value} {base : Heap} {j k : Nat} {f : Addr} {fd : FuncData} {ps : List Str} {sp : DSp} (F : FnG P w K mg base j f fd ps sp) (h : j ≤ k) : FnG P w K mg base k f fd ps sp :=
  ⟨F.len, fun A outer s H args us vs ds F0 ρ κ XD QD Q E hr => F.run A outer s H args us vs ds F0 ρ κ XD QD Q E (hr.mono h)⟩
theorem FnG.imp {P : Program} {w : World} {K : PySem.W.Frag} {mg : Str → Option Value} {base : Heap} {k : Nat} {f : Addr} {fd : FuncData} {ps : List Str} {sp sp' : DSp} (F : FnG P w K mg base k f fd ps sp) (h : ∀ ds κ X Q, sp' ds κ X Q → sp ds κ X Q) : FnG P w K mg base k f fd ps sp' :=
  ⟨fun ds κ X Q q => F.len ds κ X Q (h _ _ _ _ q), fun A outer s H args us vs ds F0 ρ κ XD QD Q E hr hg he hb hv S R hs => F.run A outer s H args us vs ds F0 ρ κ XD QD Q E hr hg he hb hv S R (h _ _ _ _ hs)⟩
/-- a def's promise, by its body -/
def startD (n : Nat) (ds : List D) : DEnv := ds.map some ++ List.replicate (n - ds.length) none
def spOf (n m : Nat) (b : DS) : DSp := fun ds κ XD Q => ds.length = m ∧ b (startD n ds) κ (fun _ c fs κ' => XD c fs κ') { nx := fun _ κ' => Q .non κ', rt := Q }
theorem repS_start {C : Ctx} {F : Hp} {ρ : Loc0} {N : List Str} {ds : List D} {vs : List V} (r : RepL C F ρ ds vs) : RepS C F ρ (startD N.length ds) (L2.start N vs) := by
  unfold startD L2.start
  refine ⟨by simp only [List.length_append, List.length_map, List.length_replicate, r.length], fun i d h => ?_⟩
  by_cases hi : i < ds.length
  · rw [List.getElem?_append_left (by rw [List.length_map]; exact hi), List.getElem?_map] at h
    rw [List.getElem?_append_left (by rw [List.length_map, ← r.length]; exact hi), List.getElem?_map]
    cases e : ds[i]? with
    | none => rw [e] at h; cases h
    | some d' =>
      rw [e] at h
      cases h
      obtain ⟨v, h1, h2⟩ := r.get e
      exact ⟨v, by rw [h1]; rfl, h2⟩
  · rw [List.getElem?_append_right (by rw [List.length_map]; omega), List.getElem?_replicate] at h
    split at h <;> cases h
abbrev cxD (P : Program) (w : World) (K : PySem.W.Frag) (mg : Str → Option Value) (base : Heap) (N : List Str) (qual : Str) (scope : Scope) (f : Addr) (cd : Value) (A : Around) (outer : List Env) (s : Shared) (H : Hp) (E : XK) : Cx :=
  cxOf (L2N.CX P w) P w K mg base N qual scope f cd A outer s H E
abbrev wxE (E : XK) : WX := fun cls d _ H => E cls d H
section
variable {P : Program} {w : World} {K : PySem.W.Frag} {mg : Str → Option Value} {base : Heap}
/-- THE RULE for a def -/
theorem Fn_ok {x qual : Str} {st : Stmt} {f : Addr} {fd : FuncData} {N ps : List Str} {k : Nat} {b : DS} (F : Fun K x qual st f fd) (S : FnScope N ps (defScope st)) (sm : ∃ o, base.get? sysModules = some o)
    (hbody : ∀ (cdv : Value) (A : Around) (outer : List Env) (s : Shared) (H : Hp) (E : XK), Good k (cxD P w K mg base N qual (defScope st) f cdv A outer s H E) (wxE E) → PSsD (cxD P w K mg base N qual (defScope st) f cdv A outer s H E) (wxE E) (defBody st) b) :
    FnG P w K mg base (k + 1) f fd ps (spOf N.length ps.length b) := by
  refine ⟨fun ds κ XD Q h => h.1, fun A outer s H args us vs ds F0 ρ κ XD QD Q E hr hg e0 hb rv S0 R0 hsp PQ PE => ?_⟩
  obtain ⟨oc, od, kV, doc, pm, an, cdv, ct, osl, rfl, lk, hcd⟩ := F.ex
  have hl : vs.length = ps.length := by rw [← R0.length, hsp.1]
  have KX : K.In s.heap := e0.mod.kin.keeps fun b o e => (e0.bs b o e).1
  have lim : s.heap.NoLimit := e0.mod.nolimit.keeps fun b o e => (e0.bs b o e).1
  have kinds : ∀ y ∈ ps.zip us, (defScope st).names.lookup y.1 = some .local ∨ ((defScope st).names.lookup y.1 = some .cell ∧ ((cellsFrom (s.heap.objs.size + 1) (defScope st).names []).lookup y.1).isSome = true) := fun y hy => by
    rcases S.par y.1 (List.of_mem_zip (a := y.1) (b := y.2) hy).1 with q | q
    · exact .inl q
    · exact .inr ⟨q, PySem.W.cellsFrom_some _ _ _ (.inl q)⟩
  refine codeAny_call_function hr.depth (KX _ _ lk) rfl S.co S.gen rfl (PySem.W.codeRec_of KX hcd) (hb _ _ _ _ (wpAny_newFunctionEnv_cells S.kind kinds fun env he s1 x => ?_))
  subst he
  refine ⟨lim.keeps x.toInCall.keep, codeAny_func ?_⟩
  have I := inv_start (CX := L2N.CX P w) (N := N) (qual := qual) (E := E) (f := f) (cd := cdv) S hr.hd e0 hl rv x
  have g : Good k (cxD P w K mg base N qual (defScope st) f cdv A outer s H E) (wxE E) :=
    ⟨L2N.takes_of rfl rfl rfl rfl, passes_of rfl, hr.deeper _, hg, sm, rfl, S.nd⟩
  refine wpAny_mono ((hbody cdv A outer s H E g).run [] s1 _ H ⟨fun _ H' => Q .non H', Q, fun _ _ => False, fun _ _ => False⟩ I
    ⟨F0, ρ, κ, startD N.length ds, _, _, S0, repS_start R0, hsp.2, ⟨fun F' ρ' κ' H' δ σ e S R q => PQ _ _ _ _ _ _ e S .non q, PQ, fun _ _ _ _ _ _ _ _ _ z => z.elim, fun _ _ _ _ _ _ _ _ _ z => z.elim⟩,
      fun F' ρ' κ' H' δ σ c fs cls dd e S R rx q => PE _ _ _ _ _ _ _ _ e S rx q⟩) (fun fl s' hs => ?_) fun e s' hs => hs
  cases fl with
  | ret u =>
    obtain ⟨v, σ', H', J, rv', q⟩ := hs
    exact ⟨v, H', J.os, J.bare, J.base, J.hok, rv', q⟩
  | next =>
    obtain ⟨σ', H', J, q⟩ := hs
    exact ⟨.non, H', J.os, J.bare, J.base, J.hok, rfl, q⟩
  | brk => obtain ⟨_, _, _, q⟩ := hs; exact q.elim
  | cont => obtain ⟨_, _, _, q⟩ := hs; exact q.elim
end
/-! ### calls -/
def dCall (sp : DSp) (dvs : List D) (as : DA) : DE := fun δ κ X Q => as δ κ X fun xs κ1 => sp (xs ++ dvs) κ1 (X δ) Q
section
variable {X : Cx} {W : WX} {k : Nat} {f : Addr} {fd : FuncData} {ps : List Str} {sp : DSp} {dvs : List D} {ds : List Value} {x : Str} {e : Expr} {es : List Expr} {as : DA} {p pos : Pos}
theorem run_fnG {pins : List (Addr × Obj)} {σ : L2.St} {δ : DEnv} {H : Hp} {s : Shared} {Q : VK} {us : List Value} {vs : List V} {args : Args} {xs : List D} {F : Hp} {ρ : Loc0} {κ : Kap} {XD : DX} {QD : DQ} (G : Good k X W) (F1 : FnG X.prog X.w X.K X.mg X.base k f fd ps sp) (I : L2.Inv X pins σ H s) (hb : BindsTo s fd args (ps.zip us)) (r : Vals vs us)
    (S : StR (CtxOf X) F ρ κ H) (R : RepS (CtxOf X) F ρ δ σ) (rr : RepL (CtxOf X) F ρ xs vs) (h : sp xs κ (XD δ) QD) (P : Post (CtxOf X) F ρ QD Q) (PX : PostX (CtxOf X) F ρ XD W) : wpAny (model X.prog X.w) X.A (call (.ref f) args.pos args.kw) (EP X pins σ Q) X.xe s := by
  refine wpAny_call (codeAny_mono (F1.run X.A X.stack s H args us vs xs F ρ κ _ _ Q (fun cls dd H' => W cls dd σ H') G.rm G.gd I.env0 hb r S rr h P fun F' ρ' κ' H' c fs cls dd e S' rx q => PX _ _ _ _ _ _ _ _ _ _ e S' (R.ext e) rx q) fun rs s' hq => ?_)
  cases rs with
  | error er => exact G.tk er s' (L2N.XE.of_call I (fun _ _ _ h => h) hq)
  | ok fl =>
    cases fl with
    | ret u => exact I.after hq
    | next => exact False.elim hq
    | brk => exact False.elim hq
    | cont => exact False.elim hq
theorem pd_call (G : Good k X W) (F1 : FnG X.prog X.w X.K X.mg X.base k f fd ps sp) (hm : X.mg x = some (.ref f)) (hk : PySem.W.keepIn X.K (.ref f) = true) (hb : Binds X.K fd ps ds) (hd : ∃ dv, Vals dv ds ∧ ∀ F ρ, RepL (CtxOf X) F ρ dvs dv)
    (ha : PAD X W (e :: es) as) (hg : Gl X x := by rfl) (hdb : (x == ("__debug__" : Str)) = false := by decide) (he : starEach (e :: es) X.env = (false, eval e X.env) :: starEach es X.env := by rfl) (hpl : (backTo pos (starEach es X.env)).any (·.1) = false := by rfl) :
    PED X W (.Call (.Name x p) (e :: es) [] pos) (dCall sp dvs as) := by
  refine ⟨fun pins s σ H Q I ⟨F, ρ, κ, δ, XD, QD, S, R, h, P, PX⟩ => ?_⟩
  refine wpAny_Call_Name_kw (ld_glob I hg hm ?_ hdb)
  refine PySem.W.callWith_K (h₀ := X.base) I.ok.mod.kin hk (thn (ha.run pos pins s σ H (fun vs H1 => ∃ F1 ρ1 κ1 xs, Ext F ρ F1 ρ1 ∧ StR (CtxOf X) F1 ρ1 κ1 H1 ∧ RepL (CtxOf X) F1 ρ1 xs vs ∧ sp (xs ++ dvs) κ1 (XD δ) QD) I
    ⟨F, ρ, κ, δ, XD, _, S, R, h, fun F1 ρ1 κ1 H1 xs vs e1 S1 R1 h1 => ⟨F1, ρ1, κ1, xs, e1, S1, R1, h1⟩, PX⟩) fun us s1 ⟨vs, H1, I1, r1, F2, ρ1, κ1, xs, e1, S1, R1, h1⟩ => ⟨I1.kIn, ?_⟩) he hpl
  obtain ⟨dv, v1, v2⟩ := hd
  have hl : (us ++ ds).length = ps.length := by
    rw [← F1.len _ _ _ _ h1, List.length_append, List.length_append, R1.length, Paired.length r1, (v2 F2 ρ1).length, Paired.length v1]
  exact run_fnG G F1 (args := ⟨us, []⟩) I1 (hb s1 us I1.kIn hl) (r1.append v1) S1 (R.ext e1) (R1.append (v2 _ _)) h1 (P.ext e1) (PX.ext e1)
end
/-- no defaults -/
theorem nodef {X : Cx} : ∃ dv, Vals dv ([] : List Value) ∧ ∀ F ρ, RepL (CtxOf X) F ρ [] dv := ⟨[], .nil, fun _ _ => .nil⟩
/-! ### the law's end -/
theorem repL_script {C : Ctx} {F : Hp} {ρ : Loc0} {a : Addr} {ns : List Int} (h : SqL C.K F a (ns.map V.int)) : RepL C F ρ [.node .klst (ns.map D.int)] [.ref a] :=
  .cons (.node (k := .klst) h RepL.ofInts) .nil
theorem seer_sys {h : Heap} (x : h.NoSeer) : ∃ mm, h.Ns sysModules mm := let ⟨mm, e, _⟩ := x.mods; ⟨mm, e⟩
end DL
/-! DL: isinstance, methods of texts and lists, own exceptions made and raised. -/
namespace DL
open PySem PySem.Spec PyProof.Rows L2
/-! ### types -/
/-- a thing's type: built-in, a class of objects, a class of exceptions -/
inductive TyK where
  | b (n : String)
  | o (c : Str)
  | e (c : Str)
  deriving DecidableEq
/-- a class asked for: built-in, own -/
inductive CK where
  | b (n : String)
  | c (c : Str)
  deriving DecidableEq
def kdTy : Kd → Option TyK
  | .lst => some (.b "list")
  | .klst => some (.b "list")
  | .tup => some (.b "tuple")
  | .dct _ => some (.b "dict")
  | .obj c _ => some (.o c)
  | .exc c _ => some (.e c)
  | .exa c _ _ => some (.e c)
  | .cau .. => none
  | .tbk _ => none
  | .cod _ => none
  | .clo .. => none
  | .fnk .. => none
def tyK (x : D) (κ : Kap) : Option TyK := match x with
  | .non => some (.b "NoneType")
  | .bl _ => some (.b "bool")
  | .int _ => some (.b "int")
  | .str _ => some (.b "str")
  | x => (view x κ).bind fun p => kdTy p.1
def clsK : D → Option CK
  | .ty n => some (.b n)
  | .glb c => some (.c c)
  | _ => none
def TyVal (mg : Str → Option Value) : TyK → Value → Prop
  | .b n, v => v = .type n
  | .o c, v => ∃ ca, mg c = some (.ref ca) ∧ v = .ref ca
  | .e c, v => ∃ ca, mg c = some (.ref ca) ∧ v = .ref ca
def CkVal (mg : Str → Option Value) : CK → Value → Prop
  | .b n, v => v = .type n
  | .c c, v => ∃ ca, mg c = some (.ref ca) ∧ v = .ref ca
/-- what the written part says of an instance's class, for isinstance -/
structure InsT (K : PySem.W.Frag) (C : Addr) : Prop where
  cl : Cls K C
  ha : PySem.W.findIn K (.ref C) "__class__" = some (some (.builtin "object.__class__"))
  hn : PySem.W.specialIn K (.builtin "object.__class__") "__get__" = some (some (.builtin "getset_descriptor.__get__"))
  ht : PySem.W.takesIn K (.builtin "object.__class__") = some true
  hm : PySem.W.mroIn K C (.type "object") = some true
abbrev KTab := TyK → CK → Option Bool
/-- a table of answers of isinstance, told rightly -/
structure KitT (K : PySem.W.Frag) (mg : Str → Option Value) (kt : KTab) : Prop where
  ok : ∀ t u b, kt t u = some b → ∀ tv uv, TyVal mg t tv → CkVal mg u uv → PySem.W.kitOne K tv uv = some b
  obj : ∀ c u b, kt (.o c) u = some b → ∀ ca, mg c = some (.ref ca) → InsT K ca
  exc : ∀ c u b, kt (.e c) u = some b → ∀ ca, mg c = some (.ref ca) → L2.ExcC K ca
def ktAny (kt : KTab) (t : TyK) : List D → Option Bool
  | [] => some false
  | d :: ds => match clsK d with
    | none => none
    | some u => match kt t u with
      | some true => some true
      | some false => ktAny kt t ds
      | none => none
def fIsi (kt : KTab) : DN := fun xs κ Q => match xs with
  | [x, .node .tup (c :: cs)] => ∃ t b, tyK x κ = some t ∧ ktAny kt t (c :: cs) = some b ∧ Q (.bl b) κ
  | [x, .ty n] => ∃ t b, tyK x κ = some t ∧ kt t (.b n) = some b ∧ Q (.bl b) κ
  | [x, .glb c] => ∃ t b, tyK x κ = some t ∧ kt t (.c c) = some b ∧ Q (.bl b) κ
  | _ => False
def rIsiD (C : Ctx) (kt : KTab) : List V → Hp → VK → Prop := fun vs H Q => ∃ F ρ κ xs QD, StR C F ρ κ H ∧ RepL C F ρ xs vs ∧ fIsi kt xs κ QD ∧ Post C F ρ QD Q
theorem sim_isi {C : Ctx} {kt : KTab} : SimN C (fIsi kt) (rIsiD C kt) := fun F ρ κ H xs vs QD Q S r h P => ⟨F, ρ, κ, xs, QD, S, r, h, P⟩
section
variable {X : Cx} {W : WX} {k : Nat} {kt : KTab} {pins : List (Addr × Obj)} {σ : L2.St} {H : Hp} {s : Shared} {F : Hp} {ρ : Loc0} {κ : Kap}
theorem excK {K : PySem.W.Frag} {ca a : Addr} {o : Obj} {od : Option Obj} (E : L2.ExcC K ca) : PySem.W.KitX K (.ref a) (.ref ca) (fun h => PySem.W.InstAt h a o ca od) :=
  PySem.W.kitx_exc (by obtain ⟨cd, h, _⟩ := PySem.W.any_some E.hd; rw [h]; rfl) E.hg E.hk E.hs E.ha E.hn E.ht E.hm
/-- what isinstance wants to know of a value -/
theorem kitD (T : KitT X.K X.mg kt) (I : L2.Inv X pins σ H s) (S : StR (CtxOf X) F ρ κ H) {x : D} {v : V} {u : Value} {t : TyK} (r : Rep (CtxOf X) F ρ x v) (rv : RelV v u) (ht : tyK x κ = some t) (hk : ∃ w b, kt t w = some b) :
    ∃ tv P, TyVal X.mg t tv ∧ PySem.W.KitX X.K u tv P ∧ P s.heap ∧ u ≠ .builtin "__main__.__loader__#opaque" := by
  have base : ∀ {tv : Value}, TyX X.K H v tv → TyVal X.mg t tv → ∃ tv P, TyVal X.mg t tv ∧ PySem.W.KitX X.K u tv P ∧ P s.heap ∧ u ≠ .builtin "__main__.__loader__#opaque" := fun {tv} tx h => by
    obtain ⟨P, Z, p, hx⟩ := kit_of I rv tx
    exact ⟨tv, P, h, Z, p, hx⟩
  have key : (view x κ).bind (fun p => kdTy p.1) = some t → ∃ tv P, TyVal X.mg t tv ∧ PySem.W.KitX X.K u tv P ∧ P s.heap ∧ u ≠ .builtin "__main__.__loader__#opaque" := by
    intro h
    cases ev : view x κ with
    | none => rw [ev] at h; cases h
    | some p =>
      obtain ⟨kd, xs⟩ := p
      rw [ev] at h
      obtain ⟨a, vs, rfl, hk', rl⟩ := view_at S r ev
      cases kd with
      | lst => cases h; exact base (.base (.lst hk')) rfl
      | klst =>
        cases h
        rcases hk' with (h1 | ⟨o, h1⟩) | ⟨o, its, n, h1, h2, _⟩
        · exact base (.base (.lst h1)) rfl
        · exact base (.base (.frz h1)) rfl
        · exact base (.kList h1 h2) rfl
      | tup =>
        cases h
        rcases hk' with (h1 | ⟨o, h1⟩) | ⟨o, its, n, h1, h2, _⟩
        · exact base (.base (.tup h1)) rfl
        · exact base (.fTuple h1) rfl
        · exact base (.kTuple h1 h2) rfl
      | dct ks =>
        cases h
        obtain ⟨kvs, h1, _⟩ := hk'
        exact base (.base (.dK h1)) rfl
      | cau c a1 C1 dd => cases h
      | tbk x => cases h
      | cod q => cases h
      | clo j a1 ws => cases h
      | fnk x fr => cases h
      | obj c ns =>
        cases h
        obtain ⟨ca, dx, fs, h0, h1, _⟩ := hk'
        obtain ⟨w, b, hw⟩ := hk
        have q := T.obj c w b hw ca h0
        exact base (.base (.ins h1 q.cl q.ha q.hn q.ht q.hm)) ⟨ca, h0, rfl⟩
      | exc c ns =>
        cases h
        obtain ⟨ca, h0, h1⟩ := hk'
        obtain ⟨w, b, hw⟩ := hk
        have q := T.exc c w b hw ca h0
        cases rv
        rcases h1 with ⟨_, _, h1⟩ | ⟨d, fs, h1, h2, _⟩
        · obtain ⟨t1, ho⟩ := exo_at I.hok h1
          exact ⟨.ref ca, _, ⟨ca, h0, rfl⟩, excK (od := none) q, ⟨ho, rfl, rfl, trivial⟩, fun z => nomatch z⟩
        · obtain ⟨t1, ho⟩ := exo_at I.hok h1
          obtain ⟨mA, ⟨od, _, _, hd, _⟩, _⟩ := exd_at I.hok h2
          exact ⟨.ref ca, _, ⟨ca, h0, rfl⟩, excK (od := some od) q, ⟨ho, rfl, rfl, hd⟩, fun z => nomatch z⟩
      | exa c ns a1 =>
        cases h
        obtain ⟨_, ca, h0, h1⟩ := hk'
        obtain ⟨w, b, hw⟩ := hk
        have q := T.exc c w b hw ca h0
        cases rv
        rcases h1 with ⟨_, _, h1⟩ | ⟨d, fs, h1, h2, _⟩
        · obtain ⟨t1, ho⟩ := exo_at I.hok h1
          exact ⟨.ref ca, _, ⟨ca, h0, rfl⟩, excK (od := none) q, ⟨ho, rfl, rfl, trivial⟩, fun z => nomatch z⟩
        · obtain ⟨t1, ho⟩ := exo_at I.hok h1
          obtain ⟨mA, ⟨od, _, _, hd, _⟩, _⟩ := exd_at I.hok h2
          exact ⟨.ref ca, _, ⟨ca, h0, rfl⟩, excK (od := some od) q, ⟨ho, rfl, rfl, hd⟩, fun z => nomatch z⟩
  cases x with
  | non => cases r; cases ht; exact base (.base .non) rfl
  | bl b => cases r; cases ht; exact base (.base (.bl b)) rfl
  | int i => cases r; cases ht; exact base (.base (.int i)) rfl
  | str y => cases r; cases ht; exact base (.base (.str y)) rfl
  | _ => exact key ht
theorem ktAny_first {t : TyK} {c : D} {cs : List D} {b : Bool} (h : ktAny kt t (c :: cs) = some b) : ∃ w b, kt t w = some b := by
  unfold ktAny at h
  cases e : clsK c with
  | none => rw [e] at h; cases h
  | some u =>
    rw [e] at h
    cases e2 : kt t u with
    | none => simp only [e2] at h; cases h
    | some b' => exact ⟨u, b', e2⟩
theorem clsK_val {c : D} {v : V} {w : Value} {u : CK} (r : Rep (CtxOf X) F ρ c v) (rv : RelV v w) (e : clsK c = some u) : CkVal X.mg u w := by
  cases c <;> first | (cases e; done) | skip
  · cases e; cases r; exact rv
  · cases e
    cases r with
    | glb h => exact ⟨_, h, rv⟩
theorem kitAny_of (T : KitT X.K X.mg kt) {t : TyK} {tv : Value} (htv : TyVal X.mg t tv) : ∀ {cs : List D} {vs : List V} {us : List Value} {b : Bool}, RepL (CtxOf X) F ρ cs vs → Vals vs us → ktAny kt t cs = some b → PySem.W.kitAny X.K tv us = some b
  | _, _, _, _, .nil, .nil, h => by cases h; rfl
  | _, _, _, b, .cons (d := d) r rs, .cons rv rvs, h => by
    unfold ktAny at h
    cases e : clsK d with
    | none => rw [e] at h; cases h
    | some u =>
      rw [e] at h
      cases e2 : kt t u with
      | none => simp only [e2] at h; cases h
      | some b' =>
        simp only [e2] at h
        have q := T.ok t u b' e2 tv _ htv (clsK_val r rv e)
        cases b' with
        | true => cases h; exact kitAny_cons q (fun z => nomatch z) fun _ => rfl
        | false => exact kitAny_cons q (fun _ => kitAny_of T htv rs rvs h) fun z => nomatch z
theorem call_isiD (T : KitT X.K X.mg kt) : CallR X (.builtin "isinstance") (rIsiD (CtxOf X) kt) := by
  intro pins s σ H vs us Q I rv ⟨F, ρ, κ, xs, QD, S, r, h, P⟩
  have one : ∀ {x c : D} {t : TyK} {u : CK} {b : Bool}, RepL (CtxOf X) F ρ [x, c] vs → tyK x κ = some t → clsK c = some u → kt t u = some b → QD (.bl b) κ → wpAny (model X.prog X.w) X.A (call (.builtin "isinstance") us) (EP X pins σ Q) X.xe s := by
    intro x c t u b r h1 h2 h3 q
    obtain ⟨v, w, rfl, rx, rc⟩ := repL2 r
    obtain ⟨u1, u2, rfl, r1, r2⟩ := vals2 rv
    obtain ⟨tv, Pr, htv, Z, p, hx⟩ := kitD T I S rx r1 h1 ⟨u, b, h3⟩
    exact PySem.W.kia_one Z I.kIn p (T.ok t u b h3 tv u2 htv (clsK_val rc r2 h2)) hx fun tk => ⟨.bl b, H, I.tok tk, rfl, P _ _ _ _ _ _ (Ext.refl _ _) S (.bl b) q⟩
  unfold fIsi at h
  split at h
  · rename_i x c cs
    obtain ⟨t, b, h1, h2, q⟩ := h
    obtain ⟨v, w, rfl, rx, rc⟩ := repL2 r
    obtain ⟨u1, u2, rfl, r1, r2⟩ := vals2 rv
    obtain ⟨a, vs, rfl, hk, rl⟩ := view_at (k := .tup) (xs := c :: cs) S rc rfl
    cases r2
    obtain ⟨its, rvs, ⟨o, ho, hc, n, hd⟩, _⟩ := I.tuple hk
    obtain ⟨tv, Pr, htv, Z, p, hx⟩ := kitD T I S rx r1 h1 (ktAny_first h2)
    obtain ⟨oc, od, dt, sl⟩ := o
    simp only at hc hd
    subst hc hd
    exact PySem.W.kia_tup Z I.kIn p ho (kitAny_of T htv rl rvs h2) hx fun tk => ⟨.bl b, H, I.tok tk, rfl, P _ _ _ _ _ _ (Ext.refl _ _) S (.bl b) q⟩
  · obtain ⟨t, b, h1, h2, q⟩ := h
    exact one r h1 rfl h2 q
  · obtain ⟨t, b, h1, h2, q⟩ := h
    exact one r h1 rfl h2 q
  · exact h.elim
end
/-! ### methods of texts -/
def dM1 (f : D → D → Kap → DQ → Prop) (a b : DE) : DE := fun δ κ X Q => a δ κ X fun x κ1 => (∃ y, x = .str y) ∧ b δ κ1 X fun z κ2 => f x z κ2 Q
def dM0 (f : D → Kap → DQ → Prop) (a : DE) : DE := fun δ κ X Q => a δ κ X fun x κ1 => (∃ y, x = .str y) ∧ f x κ1 Q
/-! ### methods of lists -/
def isSeq (T : String) (x : D) (κ : Kap) : Prop := match T with
  | "list" => ∃ xs, view x κ = some (.lst, xs)
  | _ => False
def dBM (T : String) (f : D1N) (a : DE) (as : DA) : DE := fun δ κ X Q => a δ κ X fun x κ1 => isSeq T x κ1 ∧ as δ κ1 X fun xs κ2 => f x xs κ2 Q
theorem isSeq_at {K : PySem.W.Frag} {mg : Str → Option Value} {F : Hp} {ρ : Loc0} {κ : Kap} {H : Hp} {T : String} {x : D} {v : V} (S : StR ⟨K, mg⟩ F ρ κ H) (r : Rep ⟨K, mg⟩ F ρ x v) (h : isSeq T x κ) : tyV K T v H := by
  unfold isSeq at h
  split at h
  · obtain ⟨xs, h⟩ := h
    obtain ⟨a, vs, rfl, hk, _⟩ := view_at S r h
    exact .inl ⟨rfl, vs, SqL.of hk⟩
  · exact h.elim
theorem lift_bm {K : PySem.W.Frag} {mg : Str → Option Value} {W : WX} {T : String} {f : D1N} {r : V → List V → Hp → VK → Prop} {a : DE} {as : DA} (hs : Sim1N ⟨K, mg⟩ f r) {σ : L2.St} {H : Hp} {Q : VK} (h : liftE ⟨K, mg⟩ W (dBM T f a as) σ H Q) : tBM K T r (liftE ⟨K, mg⟩ W a) (liftA ⟨K, mg⟩ W as) σ H Q := by
  obtain ⟨F, ρ, κ, δ, XD, QD, S, R, h, P, PX⟩ := h
  exact ⟨F, ρ, κ, δ, XD, _, S, R, h, fun F1 ρ1 κ1 H1 x v e1 S1 R1 ⟨h0, h1⟩ => ⟨isSeq_at S1 R1 h0, F1, ρ1, κ1, δ, XD, _, S1, R.ext e1, h1, fun F2 ρ2 κ2 H2 ys us e2 S2 R2 h2 => hs _ _ _ _ _ _ _ _ _ _ S2 (R1.ext e2) R2 h2 (P.ext (e1.trans e2)), PX.ext e1⟩, PX⟩
/-- a cell's list, changed -/
theorem cell_lst {C : Ctx} {F : Hp} {ρ : Loc0} {κ : Kap} {H : Hp} {n : Nat} {v : V} {xs : List D} (S : StR C F ρ κ H) (r : Rep C F ρ (.cell n) v) (h : κ n = some (.live .lst xs)) :
    ∃ a vs, v = .ref a ∧ ρ n = some a ∧ H a = some (.lst vs) ∧ RepL C F ρ xs vs ∧ ∀ ys ws, RepL C F ρ ys ws → StR C F ρ (kset κ n (.live .lst ys)) (upd H a (.lst ws)) := by
  obtain ⟨a, vs, rfl, h1, h2, h3⟩ := cell_at S r h
  exact ⟨a, vs, rfl, h1, h2, h3, fun ys ws r => S.write (k' := .lst) h h1 (fun _ q => q) r⟩
def fAppend : D1N := fun x ds κ Q => match x, ds with
  | .cell n, [d] => ∃ xs, κ n = some (.live .lst xs) ∧ xs.length < sizeLine ∧ Q .non (kset κ n (.live .lst (xs ++ [d])))
  | _, _ => False
theorem sim_append {C : Ctx} : Sim1N C fAppend rAppend := by
  intro F ρ κ H x v ds vs QD Q S rx rd h P
  match x, ds, h with
  | .cell n, [d], ⟨xs, h1, h2, h3⟩ =>
    obtain ⟨a, ws, rfl, h4, h5, h6, h7⟩ := cell_lst S rx h1
    obtain ⟨w, rfl, rw'⟩ := repL1 rd
    exact ⟨a, ws, w, rfl, rfl, h5, by rw [← h6.length]; exact h2, P _ _ _ _ _ _ (Ext.refl _ _) (h7 _ _ (h6.append (.cons rw' .nil))) .non h3⟩
section
variable {X : Cx} {W : WX} {o e : Expr} {es : List Expr} {a : DE} {as : DA} {apos cpos : Pos}
theorem pd_append (ho : PED X W o a) (ha : PAD X W (e :: es) as) (hbase : attributeBase o "append" X.env (eval o X.env) = eval o X.env := by rfl)
    (hfew : ((backTo cpos (starEach (e :: es) X.env)).all (fun x => !x.1) && (backToKw cpos (keywordEach [] X.env)).all (fun x => x.1.isSome) && decide ((e :: es).length + ([] : List Keyword).length + (if ([] : List Keyword).isEmpty then 0 else 1) < 30)) = true := by rfl)
    (hline : (apos.endLine == cpos.line) = true := by rfl) (hs : starEach (e :: es) X.env = (false, eval e X.env) :: starEach es X.env := by rfl) (hplain : (backTo cpos (starEach es X.env)).any (·.1) = false := by rfl) :
    PED X W (.Call (.Attribute o "append" apos) (e :: es) [] cpos) (dBM "list" fAppend a as) :=
  pe_weak (pe_bm PySem.F.plainAttrs_list PySem.F.slot_list_append PySem.F.type_list_append mt_append ho ha hbase hfew hline hs hplain) fun _ _ _ => lift_bm sim_append
end
end DL
/-! DL: own exceptions over ValueError, made and raised. -/
namespace DL
open PySem PySem.Spec PyProof.Rows L2
/-- an own class F over ValueError without an __init__ of its own: F.__init__ is ValueError's -/
structure BaseC (K : PySem.W.Frag) (mg : Str → Option Value) (x : Str) (ca : Addr) : Prop where
  m : mg x = some (.ref ca)
  ga : PySem.W.specialIn K (.ref ca) "__getattribute__" = some (some (.builtin "type.__getattribute__"))
  rd : PySem.W.readsIn K ca (.type "type") = true
  fi : PySem.W.findCls K (.ref ca) (.type "type") "__init__" = some (.val (.builtin "ValueError.__init__"))
section
variable {X : Cx} {e : Expr} {es : List Expr} {ta : TA} {x : Str} {ca : Addr} {p1 p2 pos : Pos}
theorem pe_finit {pl : Sem Bool} (B : BaseC X.K X.mg x ca) (ha : PA X (e :: es) ta) (hg : Gl X x := by rfl) (hdb : (x == ("__debug__" : Str)) = false := by decide)
    (hc : eval (.Call (.Attribute (.Name x p1) "__init__" p2) (e :: es) [] pos) X.env = (do
      let ov ← eval (.Name x p1) X.env
      standAt p2.atName
      let (f, first) ← holding [ov] (getMethod ov "__init__" pl)
      callWith pos f first (backTo pos (starEach (e :: es) X.env)) (backToKw pos (keywordEach [] X.env))) := by rfl)
    (he : starEach (e :: es) X.env = (false, eval e X.env) :: starEach es X.env := by rfl) (hpl : (backTo pos (starEach es X.env)).any (·.1) = false := by rfl) :
    PE X (.Call (.Attribute (.Name x p1) "__init__" p2) (e :: es) [] pos) (tVeI X.K ta) := by
  refine ⟨fun pins s σ H Q I h => PySem.W.methodCall_KW (ld_glob I hg B.m ?_ hdb) hc⟩
  refine PySem.W.method_cls I.kIn B.ga (PySem.W.cls_value I.kIn B.rd B.fi (by decide +kernel) ?_)
  refine PyProof.Rows.callWith_method1 (thn (ha.run pos pins _ σ H _ (I.tok _) h) fun us s1 ⟨vs, H1, I1, r1, a, C, ws, ev, hl, T, ea, q⟩ => ?_) he hpl
  subst ev
  cases r1 with
  | @cons _ u0 _ ur ra rw' =>
    cases (show u0 = Value.ref a from ra)
    exact oinit_ok T I1 ea (by rw [← Paired.length rw', sizeLine_eq]; omega) fun s' J => ⟨.non, H1, J, rfl, q⟩
end
/-- an __init__ that lays one field -/
def spEx1 (K : PySem.W.Frag) (f : Str) : Sp := fun vs H Q _ => ∃ (a C : Addr) (y : V), vs = [.ref a, y] ∧ OexC K C ∧ PySem.W.findIn K (.ref C) f = some none ∧ H a = some (exo a C none) ∧ ∀ dx, H dx = none → dx ≠ a → Q .non (upd (upd H dx (exd dx [(f, y)])) a (exo a C (some dx)))
section
variable {P : Program} {w : World} {K : PySem.W.Frag} {mg : Str → Option Value} {base : Heap}
/-- the first statement of such an __init__, F.__init__(self, '..') -/
abbrev InitHead (P : Program) (w : World) (K : PySem.W.Frag) (mg : Str → Option Value) (base : Heap) (N : List Str) (qual : Str) (st s1 : Stmt) (f : Addr) : Prop :=
  ∀ (cdv : Value) (A : Around) (outer : List Env) (s : Shared) (H : Hp) (E : XK), ∃ t : Str, PS (cxOf CX0 P w K mg base N qual (defScope st) f cdv A outer s H E).nox s1 (tDrop (tVeI K (tCons (tVar 0) (tCons (tC (.str t)) tNil))))
theorem ex1_ok {qual : Str} {st s1 : Stmt} {f : Addr} {fd : FuncData} {par fl : Str} {p7 p8 p9 p10 : Pos} (F : Fun K "__init__" qual st f fd) (hi : InitHead P w K mg base ["self", par] qual st s1 f)
    (hb : defBody st = [s1, .Assign [.Attribute (.Name "self" p7) fl p8] (.Name par p9) p10])
    (S : FnScope ["self", par] ["self", par] (defScope st)) (h2 : (defScope st).names.lookup (Str.ofString "self") = some NameKind.local) (h3 : (defScope st).names.lookup par = some NameKind.local)
    (hdp : (par == ("__debug__" : Str)) = false) (hdc : (par == ("__classdict__" : Str)) = false) :
    FnOk P w K mg base CX0 1 f fd ["self", par] (spEx1 K fl) := by
  refine F.ok S (fun vs H Q E h => ?_) (fun cdv A outer s H vs Q E hr h => ?_)
  · obtain ⟨a, C, y, rfl, _⟩ := h; rfl
  · obtain ⟨a, C, y, rfl, hC, hf, ha, q⟩ := h
    rw [hb]
    obtain ⟨t, ht⟩ := hi cdv A outer s H E
    refine ⟨_, pss_cons ht (pss_one (ps_ost (pe_var (i := 0) rfl (.inl h2)) (pe_var (i := 1) rfl (.inl h3) hdp hdc))), ?_⟩
    refine ⟨_, rfl, a, C, _, rfl, (by simp), hC, ha, ?_⟩
    exact ⟨_, rfl, _, rfl, a, C, rfl, hC, hf, .inl ⟨ha, fun dx h1 h2 => q dx h1 h2⟩⟩
end
/-! ### made as a value -/
/-- an own exception class c: its fields (as they lie, the last one first), how it is made -/
structure ExcM (P : Program) (w : World) (K : PySem.W.Frag) (mg : Str → Option Value) (base : Heap) (c : Str) (ca fI : Addr) (fd : FuncData) (ps : List Str) (sp : Sp) : Prop where
  m : mg c = some (.ref ca)
  ox : OexC K ca
  ini : PySem.W.findIn K (.ref ca) "__init__" = some (some (.ref fI))
  ty : PySem.W.typeIn K (.ref fI) = some (.type "function")
  fn : FnOk P w K mg base CX0 1 fI fd ps sp
  bd : Binds K fd ps []
/-- what an __init__'s promise must give -/
def ExGives (K : PySem.W.Frag) (ns : List Str) (sp : Sp) : Prop := ∀ (a C : Addr) (ys : List V) (H : Hp) (Q : VK) (E : XK), ys.length = ns.length → OexC K C → (∀ f ∈ ns, PySem.W.findIn K (.ref C) f = some none) → H a = some (exo a C none) →
  ((ns = [] → Q .non H) ∧ (ns ≠ [] → ∀ dx, H dx = none → dx ≠ a → Q .non (upd (upd H dx (exd dx (ns.zip ys.reverse))) a (exo a C (some dx))))) → sp (.ref a :: ys) H Q E
theorem exGives1 {K : PySem.W.Frag} {f : Str} : ExGives K [f] (spEx1 K f) := fun a C ys H Q E hl hC hf ha hq => by
  match ys, hl with
  | [y], _ => exact ⟨a, C, y, rfl, hC, hf f (by simp), ha, hq.2 (by simp)⟩
section
variable {X : Cx} {W : WX} {k : Nat} {c : Str} {ca fI : Addr} {fd : FuncData} {ps : List Str} {sp : Sp} {ns : List Str} {e : Expr} {es : List Expr} {as : DA} {p pos : Pos}
theorem RepL.reverse {C : Ctx} {F : Hp} {ρ : Loc0} : ∀ {xs : List D} {vs : List V}, RepL C F ρ xs vs → RepL C F ρ xs.reverse vs.reverse
  | _, _, .nil => .nil
  | _, _, .cons h t => by
    rw [List.reverse_cons, List.reverse_cons]
    exact (RepL.reverse t).append (.cons h .nil)
end
end DL
/-! DL: displays of dicts, defs by name. -/
namespace DL
open PySem PySem.Spec PyProof.Rows L2
theorem takesN0 {X : Cx} : L2N.Takes X (fun _ _ _ _ => False) := fun _ _ ⟨_, _, _, _, _, _, _, _, _, _, _, _, _, _, _, _, z⟩ => z.elim
theorem Good.blk {k : Nat} {X : Cx} {W : WX} (G : Good k X W) {s : Shared} {H : Hp} {scope : Scope} {cenv : Env} {fp : List Addr} : Good k (X.blk s H scope cenv fp) WF :=
  ⟨takesN0, PassesOwn.never, G.rm, G.gd, G.sm, G.calm, G.nd⟩
def fNeg : D1 := fun x κ Q => match x with
  | .int i => Q (.int (-i)) κ
  | _ => False
/-! ### dicts written out -/
def dDct0 (m : Bool) : DE := fun _ κ _ Q => fNew m (.dct []) [] κ Q
def dPairs : List (DE × DE) → DEnv → Kap → DX → (List (D × D) → Kap → Prop) → Prop
  | [], _, κ, _, Q => Q [] κ
  | (a, b) :: r, δ, κ, X, Q => a δ κ X fun x κ1 => b δ κ1 X fun y κ2 => dPairs r δ κ2 X fun ps κ3 => Q ((x, y) :: ps) κ3
inductive RepP (C : Ctx) (F : Hp) (ρ : Loc0) : List (D × D) → List (V × V) → Prop
  | nil : RepP C F ρ [] []
  | cons {x y : D} {v u : V} {ps : List (D × D)} {qs : List (V × V)} (h1 : Rep C F ρ x v) (h2 : Rep C F ρ y u) (t : RepP C F ρ ps qs) : RepP C F ρ ((x, y) :: ps) ((v, u) :: qs)
theorem RepP.ext {C : Ctx} {F F' : Hp} {ρ ρ' : Loc0} (e : Ext F ρ F' ρ') : ∀ {ps : List (D × D)} {qs : List (V × V)}, RepP C F ρ ps qs → RepP C F' ρ' ps qs
  | _, _, .nil => .nil
  | _, _, .cons h1 h2 t => .cons (h1.ext e) (h2.ext e) (RepP.ext e t)
theorem RepP.snd {C : Ctx} {F : Hp} {ρ : Loc0} : ∀ {ps : List (D × D)} {qs : List (V × V)}, RepP C F ρ ps qs → RepL C F ρ (ps.map (·.2)) (qs.map (·.2))
  | _, _, .nil => .nil
  | _, _, .cons _ h2 t => .cons h2 (RepP.snd t)
/-! ### defs by name -/
/-- a def of the text stands under its name and keeps a promise -/
structure OkD (P : Program) (w : World) (K : PySem.W.Frag) (mg : Str → Option Value) (base : Heap) (k : Nat) (x : Str) (f : Addr) (fd : FuncData) (ps : List Str) (sp : DSp) : Prop where
  m : mg x = some (.ref f)
  kp : PySem.W.keepIn K (.ref f) = true
  fn : FnG P w K mg base k f fd ps sp
  bd : Binds K fd ps []
def Ok (P : Program) (w : World) (K : PySem.W.Frag) (mg : Str → Option Value) (base : Heap) (k : Nat) (x : Str) (ps : List Str) (sp : DSp) : Prop := ∃ f fd, OkD P w K mg base k x f fd ps sp
theorem Ok.mono {P : Program} {w : World} {K : PySem.W.Frag} {mg : Str → Option Value} {base : Heap} {j k : Nat} {x : Str} {ps : List Str} {sp : DSp} (O : Ok P w K mg base j x ps sp) (h : j ≤ k) : Ok P w K mg base k x ps sp :=
  let ⟨f, fd, o⟩ := O; ⟨f, fd, o.m, o.kp, o.fn.mono h, o.bd⟩
section
variable {X : Cx} {W : WX} {j k : Nat} {ps : List Str} {sp : DSp} {x : Str} {e : Expr} {es : List Expr} {as : DA} {p pos : Pos}
theorem pd_callN (G : Good k X W) (O : Ok X.prog X.w X.K X.mg X.base k x ps sp) (ha : PAD X W (e :: es) as) (hg : Gl X x := by rfl) (hdb : (x == ("__debug__" : Str)) = false := by decide)
    (he : starEach (e :: es) X.env = (false, eval e X.env) :: starEach es X.env := by rfl) (hpl : (backTo pos (starEach es X.env)).any (·.1) = false := by rfl) : PED X W (.Call (.Name x p) (e :: es) [] pos) (dCall sp [] as) := by
  obtain ⟨f, fd, o⟩ := O
  exact pd_call G o.fn o.m o.kp o.bd nodef ha hg hdb he hpl
end
/-- what is known of a def ahead of its proof -/
structure DefAt (K : PySem.W.Frag) (mg : Str → Option Value) (x : Str) (st : Stmt) (f : Addr) (fd : FuncData) : Prop where
  m : mg x = some (.ref f)
  F : Fun K x x st f fd
/-! ### exceptions by name -/
def ExOk (P : Program) (w : World) (K : PySem.W.Frag) (mg : Str → Option Value) (base : Heap) (c : Str) (ns : List Str) : Prop :=
  ∃ ca fI fd ps sp, ExcM P w K mg base c ca fI fd ps sp ∧ ExGives K ns sp ∧ ∀ f ∈ ns, PySem.W.findIn K (.ref ca) f = some none
end DL
/-! DL: from what the top has left to what the defs lean on. -/
namespace DL
open PySem PySem.Spec PyProof.Rows L2
section
variable {K : PySem.W.Frag} {mg : Str → Option Value} {h : Heap}
theorem defAt_of {x : Str} {st : Stmt} {f : Addr} {oc : Value} {od an : Option Addr} {osl : Array (Option Value)} {kV doc pm cdv ct : Value} (X : K.In h) (G : h.Ns mainGlobals mg) (a : PySem.W.nsIn K mainGlobals x = some (some (.ref f)))
    (l : K.lookup f = some ⟨oc, od, .func (PySem.W.fnOf x x (defArgs st) (defBody st) (defScope st) .none kV doc pm an cdv ct), osl⟩) (c : PySem.W.codeIn K cdv x = true) (k : PySem.W.keepIn K (.ref f) = true) :
    DefAt K mg x st f (PySem.W.fnOf x x (defArgs st) (defBody st) (defScope st) .none kV doc pm an cdv ct) := ⟨PySem.W.mg_of X G a, fun_mk l c k⟩
theorem glb_of {x : Str} {v : Value} (X : K.In h) (G : h.Ns mainGlobals mg) (a : PySem.W.nsIn K mainGlobals x = some (some v)) : mg x = some v := PySem.W.mg_of X G a
theorem bltn_of {x : Str} (X : K.In h) (G : h.Ns mainGlobals mg) (a : PySem.W.nsIn K mainGlobals x = some none) : mg x = none := PySem.W.mg_none_of X G a
theorem baseC_of {x : Str} {ca : Addr} (X : K.In h) (G : h.Ns mainGlobals mg) (a : PySem.W.nsIn K mainGlobals x = some (some (.ref ca))) (ga : PySem.W.specialIn K (.ref ca) "__getattribute__" = some (some (.builtin "type.__getattribute__")))
    (rd : PySem.W.readsIn K ca (.type "type") = true) (fi : PySem.W.findCls K (.ref ca) (.type "type") "__init__" = some (.val (.builtin "ValueError.__init__"))) : BaseC K mg x ca := ⟨PySem.W.mg_of X G a, ga, rd, fi⟩
theorem oexC_of {C : Addr} {nm q : Str} {N : Addr} {bs bm : List Value} {sn : List Str} {sub : List Value} {ab : Bool} {col : Option Bool} {dd : Option Addr} {m0 m1 m2 m3 m5 : Option Value}
    (xL : K.lookup C = some (excClassObj nm q C N bs bm true sn sub ab col dd m0 m1 m2 m3 m5 "ValueError.__new__")) (hb : PySem.HandSPX.refsVE bm = true) (sa : PySem.W.findIn K (.ref C) "__setattr__" = some (some (.builtin "object.__setattr__")))
    (e : PySem.W.subIn K (.ref C) (.type "BaseException") = some true) (t : PySem.W.typeIn K (.ref C) = some (.type "type")) (k : PySem.W.keepIn K (.ref C) = true) : OexC K C := ⟨⟨nm, q, N, bs, bm, sn, sub, ab, col, dd, m0, m1, m2, m3, m5, xL, hb⟩, sa, e, t, k⟩
end
/-! tables of isinstance -/
abbrev KRow := TyK × CK × Bool
def ktOf (tab : List KRow) : KTab := fun t u => match t, u with
  | .b m, .b n => kitB m n
  | t, u => (tab.find? fun p => decide (p.1 = t ∧ p.2.1 = u)).map (·.2.2)
def KFact (K : PySem.W.Frag) (mg : Str → Option Value) (p : KRow) : Prop := (∃ tv uv, TyVal mg p.1 tv ∧ CkVal mg p.2.1 uv ∧ PySem.W.kitOne K tv uv = some p.2.2) ∧ match p.1 with
  | .b _ => True
  | .o c => ∃ ca, mg c = some (.ref ca) ∧ InsT K ca
  | .e c => ∃ ca, mg c = some (.ref ca) ∧ L2.ExcC K ca
theorem tyVal_inj {mg : Str → Option Value} {t : TyK} {a b : Value} (h : TyVal mg t a) (h' : TyVal mg t b) : a = b := by
  cases t with
  | b n => exact (show a = .type n from h).trans (show b = .type n from h').symm
  | o c =>
    obtain ⟨x, hx, rfl⟩ := h
    obtain ⟨y, hy, rfl⟩ := h'
    rw [hx] at hy
    cases hy
    rfl
  | e c =>
    obtain ⟨x, hx, rfl⟩ := h
    obtain ⟨y, hy, rfl⟩ := h'
    rw [hx] at hy
    cases hy
    rfl
theorem ckVal_inj {mg : Str → Option Value} {t : CK} {a b : Value} (h : CkVal mg t a) (h' : CkVal mg t b) : a = b := by
  cases t with
  | b n => exact (show a = .type n from h).trans (show b = .type n from h').symm
  | c c =>
    obtain ⟨x, hx, rfl⟩ := h
    obtain ⟨y, hy, rfl⟩ := h'
    rw [hx] at hy
    cases hy
    rfl
theorem kitT_of {K : PySem.W.Frag} {mg : Str → Option Value} {tab : List KRow} (h : ∀ p ∈ tab, KFact K mg p) : KitT K mg (ktOf tab) := by
  have look : ∀ {t : TyK} {u : CK} {b : Bool}, (tab.find? fun p => decide (p.1 = t ∧ p.2.1 = u)).map (·.2.2) = some b → KFact K mg (t, u, b) := fun {t u b} e => by
    obtain ⟨p, hp, rfl⟩ := Option.map_eq_some_iff.mp e
    have h1 := List.mem_of_find?_eq_some hp
    have h2 := List.find?_some hp
    obtain ⟨rfl, rfl⟩ := of_decide_eq_true h2
    exact h p h1
  have use : ∀ {t : TyK} {u : CK} {b : Bool}, KFact K mg (t, u, b) → ∀ tv uv, TyVal mg t tv → CkVal mg u uv → PySem.W.kitOne K tv uv = some b := fun {t u b} ⟨⟨tv, uv, h1, h2, h3⟩, _⟩ tv' uv' q1 q2 => by
    rw [← tyVal_inj h1 q1, ← ckVal_inj h2 q2]
    exact h3
  refine ⟨fun t u b e tv uv h1 h2 => ?_, fun c u b e ca hc => ?_, fun c u b e ca hc => ?_⟩
  · cases t with
    | b m =>
      cases u with
      | b n =>
        cases (show tv = .type m from h1)
        cases (show uv = .type n from h2)
        exact kit_ty e
      | c c => exact use (look e) tv uv h1 h2
    | o c => exact use (look e) tv uv h1 h2
    | e c => exact use (look e) tv uv h1 h2
  · obtain ⟨_, ca', h1, h2⟩ := look (t := .o c) e
    rw [hc] at h1
    cases h1
    exact h2
  · obtain ⟨_, ca', h1, h2⟩ := look (t := .e c) e
    rw [hc] at h1
    cases h1
    exact h2
/-! kitB, told -/
end DL
/-! DL: calls with keywords, defaults; defs that call themselves. -/
namespace DL
open PySem PySem.Spec PyProof.Rows L2
/-- items by their places -/
def pick {α : Type} : List Nat → List α → List α
  | [], _ => []
  | i :: is, l => match l[i]? with
    | some a => a :: pick is l
    | none => pick is l
section
variable {C : Ctx} {F : Hp} {ρ : Loc0}
theorem RepL.getN : ∀ {ds : List D} {vs : List V} {i : Nat}, RepL C F ρ ds vs → ds[i]? = none → vs[i]? = none
  | _, _, i, r, h => by
    rw [List.getElem?_eq_none_iff] at h ⊢
    rw [← r.length]
    exact h
theorem RepL.pick : ∀ {is : List Nat} {ds : List D} {vs : List V}, RepL C F ρ ds vs → RepL C F ρ (pick is ds) (pick is vs)
  | [], _, _, _ => .nil
  | i :: is, ds, vs, r => by
    unfold DL.pick
    cases e : ds[i]? with
    | none => rw [r.getN e]; exact RepL.pick r
    | some d =>
      obtain ⟨v, h1, h2⟩ := r.get e
      rw [h1]
      exact .cons h2 (RepL.pick r)
end
theorem vals_get : ∀ {vs : List V} {us : List Value} {i : Nat}, Vals vs us → (∃ v u, vs[i]? = some v ∧ us[i]? = some u ∧ RelV v u) ∨ (vs[i]? = none ∧ us[i]? = none)
  | [], _, i, .nil => .inr ⟨rfl, rfl⟩
  | v :: vs, _, 0, .cons h t => .inl ⟨v, _, rfl, rfl, h⟩
  | v :: vs, _, i + 1, .cons h t => by
    rw [List.getElem?_cons_succ, List.getElem?_cons_succ]
    exact vals_get t
theorem vals_pick : ∀ {is : List Nat} {vs : List V} {us : List Value}, Vals vs us → Vals (pick is vs) (pick is us)
  | [], _, _, _ => .nil
  | i :: is, vs, us, r => by
    unfold pick
    rcases vals_get (i := i) r with ⟨v, u, h1, h2, h3⟩ | ⟨h1, h2⟩
    · rw [h1, h2]
      exact .cons h3 (vals_pick r)
    · rw [h1, h2]
      exact vals_pick r
/-- a def that may be called with n values by place and the keywords ks; is tells where each parameter's value stands among the values by place, the keywords' values and the defaults dds -/
def OkC (P : Program) (w : World) (K : PySem.W.Frag) (mg : Str → Option Value) (base : Heap) (k : Nat) (x : Str) (n : Nat) (ks : List Str) (is : List Nat) (dds : List D) (sp : DSp) : Prop :=
  ∃ f fd ps, ∃ dvs : List V, ∃ its : List Value, mg x = some (.ref f) ∧ PySem.W.keepIn K (.ref f) = true ∧ FnG P w K mg base k f fd ps sp ∧ KBn K fd ps n ks (fun us ws => pick is (us ++ (ws ++ its))) (fun vs zs => pick is (vs ++ (zs ++ dvs))) ∧ ∀ F ρ, RepL ⟨K, mg⟩ F ρ dds dvs
theorem OkC.mono {P : Program} {w : World} {K : PySem.W.Frag} {mg : Str → Option Value} {base : Heap} {j k : Nat} {x : Str} {n : Nat} {ks : List Str} {is : List Nat} {dds : List D} {sp : DSp} (O : OkC P w K mg base j x n ks is dds sp) (h : j ≤ k) : OkC P w K mg base k x n ks is dds sp :=
  let ⟨f, fd, ps, dvs, its, h1, h2, h3, h4⟩ := O; ⟨f, fd, ps, dvs, its, h1, h2, h3.mono h, h4⟩
def cC (sp : DSp) (n m : Nat) (is : List Nat) (dds xs ys : List D) (κ : Kap) (X : Str → List D → Kap → Prop) (Q : DQ) : Prop := xs.length = n ∧ ys.length = m ∧ sp (pick is (xs ++ (ys ++ dds))) κ X Q
def dCallC (sp : DSp) (n m : Nat) (is : List Nat) (dds : List D) (as kw : DA) : DE := fun δ κ X Q => as δ κ X fun xs κ1 => kw δ κ1 X fun ys κ2 => cC sp n m is dds xs ys κ2 (X δ) Q
abbrev PKD (X : Cx) (W : WX) (kws : List Keyword) (d : DA) : Prop := PK X kws (liftA (CtxOf X) W d)
section
variable {X : Cx} {W : WX} {k n m : Nat} {f : Addr} {fd : FuncData} {ps ks : List Str} {is : List Nat} {sp : DSp} {dds : List D} {x : Str} {e : Expr} {es : List Expr} {kws : List Keyword} {as kw : DA} {a : DE} {p pos kpos : Pos} {nm : Option Str}
theorem pk_weak {t t' : TA} (h : PK X kws t) (w : ∀ σ H Q, t' σ H Q → t σ H Q) : PK X kws t' := ⟨fun pos pins s σ H Q I q => h.run pos pins s σ H Q I (w σ H Q q)⟩
theorem pk_nilD : PKD X W [] dNil := pk_weak pk_nil fun _ _ _ h => lift_nil h
theorem pk_consD (ha : PED X W e a) (hr : PKD X W kws kw) : PKD X W (⟨nm, e, kpos⟩ :: kws) (dCons a kw) := pk_weak (pk_cons ha hr) fun _ _ _ h => lift_cons h
theorem run_fnC {pins : List (Addr × Obj)} {σ : L2.St} {δ : DEnv} {H : Hp} {s : Shared} {Q : VK} {us ws its : List Value} {vs zs dvs : List V} {xs ys : List D} {F : Hp} {ρ : Loc0} {κ : Kap} {XD : DX} {QD : DQ} (G : Good k X W) (F1 : FnG X.prog X.w X.K X.mg X.base k f fd ps sp) (I : L2.Inv X pins σ H s)
    (hb : KBn X.K fd ps n ks (fun us ws => pick is (us ++ (ws ++ its))) (fun vs zs => pick is (vs ++ (zs ++ dvs)))) (hd : ∀ F ρ, RepL (CtxOf X) F ρ dds dvs) (r : Vals vs us) (rz : Vals zs ws)
    (S : StR (CtxOf X) F ρ κ H) (R : RepS (CtxOf X) F ρ δ σ) (rr : RepL (CtxOf X) F ρ xs vs) (rq : RepL (CtxOf X) F ρ ys zs) (h : cC sp n m is dds xs ys κ (XD δ) QD) (hm : ks.length = m) (P : Post (CtxOf X) F ρ QD Q) (PX : PostX (CtxOf X) F ρ XD W) : wpAny (model X.prog X.w) X.A (call (.ref f) us (ks.zip ws)) (EP X pins σ Q) X.xe s := by
  obtain ⟨h1, h2, h3⟩ := h
  have l1 : us.length = n := by rw [← Paired.length r, ← rr.length, h1]
  have l2 : ws.length = ks.length := by rw [← Paired.length rz, ← rq.length, h2, hm]
  have rep : RepL (CtxOf X) F ρ (pick is (xs ++ (ys ++ dds))) (pick is (vs ++ (zs ++ dvs))) := RepL.pick (rr.append (rq.append (hd F ρ)))
  refine wpAny_call (codeAny_mono (F1.run X.A X.stack s H ⟨us, ks.zip ws⟩ _ _ _ F ρ κ _ _ Q (fun cls dd H' => W cls dd σ H') G.rm G.gd I.env0 (hb.to s us ws I.kIn l1 l2) (hb.rel r rz) S rep h3 P fun F' ρ' κ' H' c fs cls dd e S' rx q => PX _ _ _ _ _ _ _ _ _ _ e S' (R.ext e) rx q) fun rs s' hq => ?_)
  cases rs with
  | error er => exact G.tk er s' (L2N.XE.of_call I (fun _ _ _ h => h) hq)
  | ok fl =>
    cases fl with
    | ret u => exact I.after hq
    | next => exact False.elim hq
    | brk => exact False.elim hq
    | cont => exact False.elim hq
theorem pd_callC (G : Good k X W) (O : OkC X.prog X.w X.K X.mg X.base k x n [] is dds sp) (ha : PAD X W (e :: es) as) (hg : Gl X x := by rfl) (hdb : (x == ("__debug__" : Str)) = false := by decide) (he : starEach (e :: es) X.env = (false, eval e X.env) :: starEach es X.env := by rfl)
    (hpl : (backTo pos (starEach es X.env)).any (·.1) = false := by rfl) : PED X W (.Call (.Name x p) (e :: es) [] pos) (dCallC sp n 0 is dds as dNil) := by
  obtain ⟨f, fd, ps, dvs, its, hm, hk, F1, hb, hd⟩ := O
  refine ⟨fun pins s σ H Q I ⟨F, ρ, κ, δ, XD, QD, S, R, h, P, PX⟩ => ?_⟩
  refine wpAny_Call_Name_kw (ld_glob I hg hm ?_ hdb)
  refine PySem.W.callWith_K (h₀ := X.base) I.ok.mod.kin hk (thn (ha.run pos pins s σ H (fun vs H1 => ∃ F1 ρ1 κ1 xs, Ext F ρ F1 ρ1 ∧ StR (CtxOf X) F1 ρ1 κ1 H1 ∧ RepL (CtxOf X) F1 ρ1 xs vs ∧ cC sp n 0 is dds xs [] κ1 (XD δ) QD) I
    ⟨F, ρ, κ, δ, XD, _, S, R, h, fun F1 ρ1 κ1 H1 xs vs e1 S1 R1 h1 => ⟨F1, ρ1, κ1, xs, e1, S1, R1, h1⟩, PX⟩) fun us s1 ⟨vs, H1, I1, r1, F2, ρ1, κ1, xs, e1, S1, R1, h1⟩ => ⟨I1.kIn, ?_⟩) he hpl
  exact run_fnC G F1 I1 hb hd r1 .nil S1 (R.ext e1) R1 .nil h1 rfl (P.ext e1) (PX.ext e1)
theorem pd_callCK (G : Good k X W) (O : OkC X.prog X.w X.K X.mg X.base k x n ks is dds sp) (ha : PAD X W (e :: es) as) (hkw : PKD X W kws kw) (hg : Gl X x := by rfl) (hdb : (x == ("__debug__" : Str)) = false := by decide) (he : starEach (e :: es) X.env = (false, eval e X.env) :: starEach es X.env := by rfl)
    (hall : (backToKw pos (keywordEach kws X.env)).all (·.1.isSome) = true := by rfl) (hks : (backToKw pos (keywordEach kws X.env)).filterMap (·.1) = ks := by rfl)
    (hpl : ((backTo pos (starEach (e :: es) X.env)).any (·.1) || (backToKw pos (keywordEach kws X.env)).any (·.1.isNone)) = false := by rfl) : PED X W (.Call (.Name x p) (e :: es) kws pos) (dCallC sp n ks.length is dds as kw) := by
  obtain ⟨f, fd, ps, dvs, its, hm, hk, F1, hb, hd⟩ := O
  refine ⟨fun pins s σ H Q I ⟨F, ρ, κ, δ, XD, QD, S, R, h, P, PX⟩ => ?_⟩
  refine wpAny_Call_Name_kw (ld_glob I hg hm ?_ hdb)
  refine PySem.W.callWith_KW (h₀ := X.base) I.ok.mod.kin hk hall (thn (ha.run pos pins s σ H (fun vs H1 => ∃ F1 ρ1 κ1 xs, Ext F ρ F1 ρ1 ∧ StR (CtxOf X) F1 ρ1 κ1 H1 ∧ RepL (CtxOf X) F1 ρ1 xs vs ∧ kw δ κ1 XD fun ys κ2 => cC sp n ks.length is dds xs ys κ2 (XD δ) QD) I
    ⟨F, ρ, κ, δ, XD, _, S, R, h, fun F1 ρ1 κ1 H1 xs vs e1 S1 R1 h1 => ⟨F1, ρ1, κ1, xs, e1, S1, R1, h1⟩, PX⟩) fun us s1 ⟨vs, H1, I1, r1, F2, ρ1, κ1, xs, e1, S1, R1, h1⟩ => ?_) hpl he
  refine thn (hkw.run pos pins s1 σ H1 (fun zs H2 => ∃ F3 ρ3 κ3 ys, Ext F2 ρ1 F3 ρ3 ∧ StR (CtxOf X) F3 ρ3 κ3 H2 ∧ RepL (CtxOf X) F3 ρ3 ys zs ∧ cC sp n ks.length is dds xs ys κ3 (XD δ) QD) I1
    ⟨F2, ρ1, κ1, δ, XD, _, S1, R.ext e1, h1, fun F3 ρ3 κ3 H3 ys zs e3 S3 R3 h3 => ⟨F3, ρ3, κ3, ys, e3, S3, R3, h3⟩, PX.ext e1⟩) fun ws s2 ⟨zs, H2, I2, rz, F3, ρ3, κ3, ys, e3, S3, R3, h3⟩ => ⟨I2.kIn, ?_⟩
  rw [hks]
  exact run_fnC G F1 I2 hb hd r1 rz S3 (R.ext (e1.trans e3)) (R1.ext e3) R3 h3 rfl (P.ext (e1.trans e3)) (PX.ext (e1.trans e3))
theorem pd_callCK0 (G : Good k X W) (O : OkC X.prog X.w X.K X.mg X.base k x 0 ks is dds sp) (hkw : PKD X W kws kw) (hg : Gl X x := by rfl) (hdb : (x == ("__debug__" : Str)) = false := by decide)
    (hall : (backToKw pos (keywordEach kws X.env)).all (·.1.isSome) = true := by rfl) (hks : (backToKw pos (keywordEach kws X.env)).filterMap (·.1) = ks := by rfl)
    (hpl : ((backTo pos (starEach [] X.env)).any (·.1) || (backToKw pos (keywordEach kws X.env)).any (·.1.isNone)) = false := by rfl) : PED X W (.Call (.Name x p) [] kws pos) (dCallC sp 0 ks.length is dds dNil kw) := by
  obtain ⟨f, fd, ps, dvs, its, hm, hk, F1, hb, hd⟩ := O
  refine ⟨fun pins s σ H Q I ⟨F, ρ, κ, δ, XD, QD, S, R, h, P, PX⟩ => ?_⟩
  refine wpAny_Call_Name_kw (ld_glob I hg hm ?_ hdb)
  refine PySem.W.callWith_KW0 (h₀ := X.base) I.ok.mod.kin hk hall (thn (hkw.run pos pins s σ H (fun zs H2 => ∃ F3 ρ3 κ3 ys, Ext F ρ F3 ρ3 ∧ StR (CtxOf X) F3 ρ3 κ3 H2 ∧ RepL (CtxOf X) F3 ρ3 ys zs ∧ cC sp 0 ks.length is dds [] ys κ3 (XD δ) QD) I
    ⟨F, ρ, κ, δ, XD, _, S, R, h, fun F3 ρ3 κ3 H3 ys zs e3 S3 R3 h3 => ⟨F3, ρ3, κ3, ys, e3, S3, R3, h3⟩, PX⟩) fun ws s2 ⟨zs, H2, I2, rz, F3, ρ3, κ3, ys, e3, S3, R3, h3⟩ => ⟨I2.kIn, ?_⟩) hpl
  rw [hks]
  exact run_fnC G F1 I2 hb hd .nil rz S3 (R.ext e3) .nil R3 h3 rfl (P.ext e3) (PX.ext e3)
end
/-! a def without defaults, called with keywords -/
section
variable {P : Program} {w : World} {K : PySem.W.Frag} {mg : Str → Option Value} {base : Heap}
theorem fnG_no {f : Addr} {fd : FuncData} {ps : List Str} {k : Nat} : FnG P w K mg base k f fd ps (fun _ _ _ _ => False) :=
  ⟨fun _ _ _ _ h => h.elim, fun _ _ _ _ _ _ _ _ _ _ _ _ _ _ _ _ _ _ _ _ _ _ h => h.elim⟩
theorem ok_mk {x : Str} {st : Stmt} {f : Addr} {fd : FuncData} {ps : List Str} {k : Nat} {sp : DSp} (D : DefAt K mg x st f fd) (F1 : FnG P w K mg base k f fd ps sp)
    (hbind : ∀ (kV doc pm : Value) (an : Option Addr) (cdv ct : Value) (us : List Value), us.length = ps.length → bindArgs (PySem.W.fnOf x x (defArgs st) (defBody st) (defScope st) .none kV doc pm an cdv ct) ⟨us, []⟩ = pure (ps.zip us)) : Ok P w K mg base k x ps sp :=
  ⟨f, fd, D.m, D.F.kp, F1, D.F.binds hbind⟩
end
end DL
/-! DLk: defs with defaults. -/
namespace DL
open PySem PySem.Spec PyProof.Rows L2
/-- where a def with defaults stands -/
structure DefD (K : PySem.W.Frag) (mg : Str → Option Value) (x : Str) (st : Stmt) (f : Addr) (fd : FuncData) (dvs : List V) (kws : List (Str × V)) : Prop where
  m : mg x = some (.ref f)
  F : FunD K x x (defArgs st) (defBody st) (defScope st) dvs kws f fd
section
variable {P : Program} {w : World} {K : PySem.W.Frag} {mg : Str → Option Value} {base : Heap}
/-- THE RULE for a def with defaults -/
theorem Fn_okD {x qual : Str} {st : Stmt} {dvs : List V} {kws : List (Str × V)} {f : Addr} {fd : FuncData} {N ps : List Str} {k : Nat} {b : DS} (F : FunD K x qual (defArgs st) (defBody st) (defScope st) dvs kws f fd) (S : FnScope N ps (defScope st)) (sm : ∃ o, base.get? sysModules = some o)
    (hbody : ∀ (cdv : Value) (A : Around) (outer : List Env) (s : Shared) (H : Hp) (E : XK), Good k (cxD P w K mg base N qual (defScope st) f cdv A outer s H E) (wxE E) → PSsD (cxD P w K mg base N qual (defScope st) f cdv A outer s H E) (wxE E) (defBody st) b) :
    FnG P w K mg base (k + 1) f fd ps (spOf N.length ps.length b) := by
  refine ⟨fun ds κ XD Q h => h.1, fun A outer s H args us vs ds F0 ρ κ XD QD Q E hr hg e0 hb rv S0 R0 hsp PQ PE => ?_⟩
  obtain ⟨oc, od, dV, kV, doc, pm, an, cdv, ct, osl, rfl, lk, hcd, _, _⟩ := F.ex
  have hl : vs.length = ps.length := by rw [← R0.length, hsp.1]
  have KX : K.In s.heap := e0.mod.kin.keeps fun b o e => (e0.bs b o e).1
  have lim : s.heap.NoLimit := e0.mod.nolimit.keeps fun b o e => (e0.bs b o e).1
  have kinds : ∀ y ∈ ps.zip us, (defScope st).names.lookup y.1 = some .local ∨ ((defScope st).names.lookup y.1 = some .cell ∧ ((cellsFrom (s.heap.objs.size + 1) (defScope st).names []).lookup y.1).isSome = true) := fun y hy => by
    rcases S.par y.1 (List.of_mem_zip (a := y.1) (b := y.2) hy).1 with q | q
    · exact .inl q
    · exact .inr ⟨q, PySem.W.cellsFrom_some _ _ _ (.inl q)⟩
  refine codeAny_call_function hr.depth (KX _ _ lk) rfl S.co S.gen rfl (PySem.W.codeRec_of KX hcd) (hb _ _ _ _ (wpAny_newFunctionEnv_cells S.kind kinds fun env he s1 x => ?_))
  subst he
  refine ⟨lim.keeps x.toInCall.keep, codeAny_func ?_⟩
  have I := inv_start (CX := L2N.CX P w) (N := N) (qual := qual) (E := E) (f := f) (cd := cdv) S hr.hd e0 hl rv x
  have g : Good k (cxD P w K mg base N qual (defScope st) f cdv A outer s H E) (wxE E) :=
    ⟨L2N.takes_of rfl rfl rfl rfl, passes_of rfl, hr.deeper _, hg, sm, rfl, S.nd⟩
  refine wpAny_mono ((hbody cdv A outer s H E g).run [] s1 _ H ⟨fun _ H' => Q .non H', Q, fun _ _ => False, fun _ _ => False⟩ I
    ⟨F0, ρ, κ, startD N.length ds, _, _, S0, repS_start R0, hsp.2, ⟨fun F' ρ' κ' H' δ σ e S R q => PQ _ _ _ _ _ _ e S .non q, PQ, fun _ _ _ _ _ _ _ _ _ z => z.elim, fun _ _ _ _ _ _ _ _ _ z => z.elim⟩,
      fun F' ρ' κ' H' δ σ c fs cls dd e S R rx q => PE _ _ _ _ _ _ _ _ e S rx q⟩) (fun fl s' hs => ?_) fun e s' hs => hs
  cases fl with
  | ret u =>
    obtain ⟨v, σ', H', J, rv', q⟩ := hs
    exact ⟨v, H', J.os, J.bare, J.base, J.hok, rv', q⟩
  | next =>
    obtain ⟨σ', H', J, q⟩ := hs
    exact ⟨.non, H', J.os, J.bare, J.base, J.hok, rfl, q⟩
  | brk => obtain ⟨_, _, _, q⟩ := hs; exact q.elim
  | cont => obtain ⟨_, _, _, q⟩ := hs; exact q.elim
variable {x : Str} {st : Stmt} {f : Addr} {fd : FuncData} {ps ks : List Str} {k n : Nat} {is : List Nat} {sp : DSp} {dds : List D} {dvs : List V} {kws : List (Str × V)}
theorem okC_k (D : DefD K mg x st f fd [] kws) (F1 : FnG P w K mg base k f fd ps sp) (ms : List (Str × V)) (hk : kws ≠ []) (hms : ∀ q ∈ ms, q ∈ kws) (hdd : ∀ F ρ, RepL ⟨K, mg⟩ F ρ dds (ms.map (·.2)))
    (h : ∀ (Da : Addr) (doc pm : Value) (an : Option Addr) (cdv ct : Value) (us mv ws : List Value), us.length = n → mv.length = ms.length → ws.length = ks.length →
      KwChain Da ((ms.map (·.1)).zip mv) (bindArgs (PySem.W.fnOf x x (defArgs st) (defBody st) (defScope st) .none (.ref Da) doc pm an cdv ct) ⟨us, ks.zip ws⟩) (ps.zip (pick is (us ++ (ws ++ mv))))) :
    OkC P w K mg base k x n ks is dds sp := by
  obtain ⟨mv, hb⟩ := D.F.kbinds0 n ks ms (fun us mv ws => pick is (us ++ (ws ++ mv))) hk hms (fun r1 r2 r3 => vals_pick (r1.append (r3.append r2))) h
  exact ⟨f, fd, ps, ms.map (·.2), mv, D.m, D.F.kp, F1, hb, hdd⟩
theorem defD_of {h : Heap} {x : Str} {f : Addr} {oc : Value} {od an : Option Addr} {osl : Array (Option Value)} {dV kV doc pm cdv ct : Value} {dvs : List V} {kws : List (Str × V)} (X : K.In h) (G : h.Ns mainGlobals mg) (a : PySem.W.nsIn K mainGlobals x = some (some (.ref f)))
    (l : K.lookup f = some ⟨oc, od, .func (PySem.W.fnOf x x (defArgs st) (defBody st) (defScope st) dV kV doc pm an cdv ct), osl⟩) (c : PySem.W.codeIn K cdv x = true) (k : PySem.W.keepIn K (.ref f) = true) (hd : DflV K dV dvs) (hk : KwdV K kV kws) :
    DefD K mg x st f (PySem.W.fnOf x x (defArgs st) (defBody st) (defScope st) dV kV doc pm an cdv ct) dvs kws := ⟨PySem.W.mg_of X G a, ⟨⟨oc, od, dV, kV, doc, pm, an, cdv, ct, osl, rfl, l, c, hd, hk⟩, k⟩⟩
theorem dfl_no : DflV K .none [] := .inl ⟨rfl, rfl⟩
theorem kwd_of {Da : Addr} (h : ∀ q ∈ kws, ∃ u, PySem.W.nsIn K Da q.1 = some (some u) ∧ RelV q.2 u) : KwdV K (.ref Da) kws := .inr ⟨Da, rfl, h⟩
end
end DL
/-! DLm: raise, try. -/
namespace DL
open PySem PySem.Spec PyProof.Rows L2
/-! ### raise -/
/-- an exception's fields, name and value in turn -/
def xfl : List Str → List D → List D
  | n :: ns, d :: ds => .str n :: d :: xfl ns ds
  | _, _ => []
theorem xfl_rep {C : Ctx} {F : Hp} {ρ : Loc0} : ∀ {ns : List Str} {ds : List D} {vs : List V}, RepL C F ρ ds vs → RepL C F ρ (xfl ns ds) (xflat (ns.zip vs))
  | [], _, _, _ => .nil
  | _ :: _, _, _, .nil => .nil
  | n :: ns, _, _, .cons h t => .cons (.str n) (.cons h (xfl_rep t))
/-! ### an own exception, made where none is handled: its context is None -/
abbrev mkHp (h : Heap) (C : Addr) (us : List Value) : Heap := (h.push (PySem.W.kdv_tup us)).push (PySem.HandSPX.excO C h.objs.size)
theorem pmk_oexN {X : Cx} {CX : CXT} {x : Str} {C fI : Addr} {k : Nat} {fd : FuncData} {ps : List Str} {sp : L2.Sp} {e : Expr} {es : List Expr} {ta : TA} {p pos : Pos}
    (T : OexC X.K C) (findI : PySem.W.findIn X.K (.ref C) "__init__" = some (some (.ref fI))) (typeI : PySem.W.typeIn X.K (.ref fI) = some (.type "function")) (fn : FnOk X.prog X.w X.K X.mg X.base CX k fI fd ps sp)
    (room : Room (k + 1) X.A) (binds : Binds X.K fd ps []) (pass : Passes CX X (fun _ _ _ => False)) (gl : Gl X x) (top : X.mg x = some (.ref C)) (args : PA X (e :: es) ta) (nodbg : (x == ("__debug__" : Str)) = false)
    (star : starEach (e :: es) X.env = (false, eval e X.env) :: starEach es X.env) (plain : (backTo pos (starEach es X.env)).any (·.1) = false) : L2N.PMk X (.Call (.Name x p) (e :: es) [] pos) (tMkO C sp [] ta) := by
  intro pins s σ H Q I todo
  have cls := T.cls
  obtain ⟨_, _, _, _, bm, _, _, _, _, _, _, _, _, _, _, atC, inBm⟩ := cls
  refine wpAny_Call_Name_kw
    (ld_glob I gl top ?_ nodbg)
  refine PySem.W.callWith_K (h₀ := X.base) I.ok.mod.kin T.kC
    (thn (args.run pos pins s σ H _ I todo) ?_) star plain
  rintro us ⟨hp, g, dr, tk, os⟩ ⟨vs, H1, I1, rel, small, next⟩
  refine ⟨I1.kIn, ?_⟩
  show wpAny _ _ (call (.ref C) us) _ _ _
  generalize ea : hp.objs.size + 1 = a
  have fits : hp.objs.size ≤ a := by omega
  have new : H1 a = none := I1.hok.fresh fits
  have here := next a new
  rw [List.append_nil] at here
  have grows : ∀ b o, hp.get? b = some o → (mkHp hp C us).get? b = some o :=
    fun b o z => Heap.get?_push_of_some _ (Heap.get?_push_of_some _ z)
  have stands : (mkHp hp C us).get? a = some (PySem.HandSPX.excO C hp.objs.size) := by
    rw [← ea]
    heap_get
  have J := I1.laid (t' := tk) (a := a) (o := exo a C none) (h' := mkHp hp C us) grows fits (exo_ok stands)
  have rel2 : Vals (V.ref a :: vs) (Value.ref a :: us) := .cons rfl rel
  have count : (Value.ref a :: us ++ []).length = ps.length := by
    have z := rel2.length
    rw [fn.len _ _ _ _ here] at z
    rw [List.append_nil]
    exact z.symm
  have few : us.length ≤ sizeLine := by
    have := Paired.length rel
    have : sizeLine = 16777216 := sizeLine_eq
    omega
  have bound := binds _ (Value.ref a :: us) J.kIn count
  rw [List.append_nil] at bound
  have walked := fn.run _ X.stack _ _ ⟨Value.ref a :: us, []⟩ (Value.ref a :: us) _ _ (fun _ _ _ => False) (room.make C us []) (J.env0.make C us []) bound rel2 here
  subst ea
  refine wpAny_call (PySem.HandSPX.call_own F.excBase_ValueError (fun Y => PySem.HandSPX.refsVE_contains Y bm inBm) (I1.kIn _ _ atC) (PySem.W.looks_findIn I1.kIn findI)
    (fun self => PySem.W.bind_fn I1.kIn self typeI) few (codeAny_mono walked fun r s' done => ?_))
  match r, done with
  | .error er, done => exact pass pins σ _ _ er s' J done
  | .ok .next, done | .ok .brk, done | .ok .cont, done => exact done.elim
  | .ok (.ret u), ⟨v, H2, sameOs, bare, un, ok, rv, isNon, d, fs, atA, atD, freeD, want⟩ =>
    subst isNon
    obtain ⟨h2, g2, d2, t2, os'⟩ := s'
    obtain ⟨t0, G, J2, back, goneA, obj, off⟩ := mk_end0 (d2 := d2) (t2 := t2) I1 fits grows un ok sameOs bare atA atD freeD
    exact ⟨rv, _, _, _, ⟨G, g2, d2, t2, os'⟩, _, .ref C, some d, rfl, J2, back, goneA, obj, ⟨rfl, rfl, fun ws z => by cases z; rfl⟩, rfl, rfl, off, rfl, bare, raises_own T.exC T.tyC, want⟩
def sRz (c : Str) (ns : List Str) (as : DA) : DS := fun δ κ X T => as δ κ X fun xs κ1 => xs.length = ns.length ∧ xs.length ≤ 100 ∧ X δ c (xfl ns xs.reverse) κ1
section
variable {X : Cx} {W : WX} {k : Nat} {c : Str} {ns : List Str} {e : Expr} {es : List Expr} {as : DA} {p pos pos2 : Pos}
theorem sd_raise (G : Good (k + 2) X W) (O : ExOk X.prog X.w X.K X.mg X.base c ns) (hne : ns ≠ []) (ha : PAD X W (e :: es) as) (hgl : Gl X c := by rfl) (hdb : (c == ("__debug__" : Str)) = false := by decide)
    (he : starEach (e :: es) X.env = (false, eval e X.env) :: starEach es X.env := by rfl) (hpl : (backTo pos (starEach es X.env)).any (·.1) = false := by rfl) : PSD X W (.Raise (some (.Call (.Name c p) (e :: es) [] pos)) none pos2) (sRz c ns as) := by
  obtain ⟨ca, fI, fd, ps, sp, M, hg, hf⟩ := O
  refine ps_weak (L2N.ps_raise G.calm G.tk (pmk_oexN (ta := fun σ H Q => liftA (CtxOf X) W as σ H Q) M.ox M.ini M.ty M.fn (G.rm.mono (by omega : 2 ≤ k + 2)) M.bd (fun _ _ _ _ _ _ _ z => z.elim) hgl M.m ha hdb he hpl)) ?_
  rintro T σ H ⟨F, ρ, κ, δ, XD, DD, S, R, h, P, PX⟩
  refine ⟨F, ρ, κ, δ, XD, _, S, R, h, ?_, PX⟩
  rintro F1 ρ1 κ1 H1 xs vs e1 S1 R1 ⟨hn, h100, hX⟩
  have lv : vs.length = ns.length := by rw [← R1.length, hn]
  refine ⟨by rw [← R1.length]; omega, fun a na => ?_⟩
  rw [List.append_nil]
  refine hg a ca vs _ _ _ lv M.ox hf upd_same ⟨fun z => absurd z hne, fun _ dx hdx hda => ⟨rfl, dx, ns.zip vs.reverse, upd_same, by rw [upd_ne hda]; exact upd_same, by rw [upd_ne hda] at hdx; exact hdx, ?_⟩⟩
  have hdx' : H1 dx = none := by rw [upd_ne hda] at hdx; exact hdx
  obtain ⟨ex, S2⟩ := S1.laid (p := dx) (o := .xd (ns.zip vs.reverse)) hdx'
  have eH : upd (del (upd (upd (upd H1 a (exo a ca none)) dx (exd dx (ns.zip vs.reverse))) a (exo a ca (some dx))) a) dx (.xd (ns.zip vs.reverse)) = upd H1 dx (.xd (ns.zip vs.reverse)) := by
    funext b
    by_cases e1 : b = dx
    · rw [e1, upd_same, upd_same]
    · rw [upd_ne e1, upd_ne e1]
      by_cases e2 : b = a
      · rw [e2, del_same, na]
      · rw [del_ne e2, upd_ne e2, upd_ne e1, upd_ne e2]
  rw [eH]
  exact PX _ _ _ _ _ _ _ _ _ _ (e1.trans ex) S2 (R.ext (e1.trans ex)) ⟨⟨M.m, ca, rfl⟩, _, xfl_rep ((R1.ext ex).reverse), .inr ⟨dx, _, rfl, upd_same, rfl⟩⟩ hX
end
/-! ### except: the field of what was caught -/
def fldOf (f : Str) : List D → Option D
  | .str n :: d :: r => if n = f then some d else fldOf f r
  | _ => none
section
variable {X : Cx} {W : WX} {a C : Addr} {dd : Option Addr} {oe : Obj} {pn : List (Addr × Obj)} {x f : Str} {p pos : Pos} {i : Nat} {xf : Str → Str → Bool}
def dXf (xf : Str → Str → Bool) (i : Nat) (f : Str) (a C : Addr) (dd : Option Addr) : DE := fun δ κ _ QD => ∃ c fs d, δ[i]? = some (some (.node (.cau c a C dd) fs)) ∧ xf c f = true ∧ fldOf f fs = some d ∧ QD d κ
end
end DL
/-! DLn: try, clauses with names and without. -/
namespace DL
open PySem PySem.Spec PyProof.Rows L2
/-- a clause: the class's value, the slot of its name, what its suite does -/
structure Hd where
  c : Value
  i : Option Nat
  ts : Addr → Value → Option Addr → TS
def endsG (D : Ends) (i : Nat) : Ends := { nx := fun τ G => D.nx (τ.set i none) G, rt := D.rt, bk := fun τ G => D.bk (τ.set i none) G, ct := fun τ G => D.ct (τ.set i none) G }
def Hd.go (h : Hd) (D : Ends) (a : Addr) (cls : Value) (d : Option Addr) (σ : L2.St) (H : Hp) : Prop := match h.i with
  | none => h.ts a cls d D σ H
  | some i => h.ts a cls d (endsG D i) (σ.set i (some (.ref a))) H
/-! ### try over data -/
abbrev HdD := Str × Option Nat × (Addr → Addr → Option Addr → DS)
def XN : DX := fun _ _ _ _ => False
def DEnds.un (T : DEnds) (i : Nat) : DEnds := { nx := fun δ κ => T.nx (δ.set i none) κ, rt := T.rt, bk := fun δ κ => T.bk (δ.set i none) κ, ct := fun δ κ => T.ct (δ.set i none) κ }
def hPick (xt : Str → Str → Option Bool) : List HdD → DX → DEnds → DX
  | [], X, _ => X
  | (x, o, s) :: r, X, T => fun δ c fs κ => ∃ b, xt c x = some b ∧ if b = true then ∀ a C dd, match o with
      | none => s a C dd δ κ XN T
      | some i => s a C dd (δ.set i (some (.node (.cau c a C dd) fs))) κ XN (T.un i)
    else hPick xt r X T δ c fs κ
def sTry (xt : Str → Str → Option Bool) (b : DS) (hs : List HdD) : DS := fun δ κ X T => b δ κ (hPick xt hs X T) T
end DL
/-! DLo: stores into dicts, list.index. -/
namespace DL
open PySem PySem.Spec PyProof.Rows L2
/-! ### list.index of truths -/
/-! ### tables of exceptions -/
/-! ### steps -/
section
variable {δ : DEnv} {κ : Kap} {X : DX} {Q : DQ} {as : DA} {b : DS} {c f : Str} {ns : List Str} {xs fs : List D} {T : DEnds} {xt : Str → Str → Option Bool} {xf : Str → Str → Bool} {hs : List HdD} {x : Str} {o : Option Nat} {s : Addr → Addr → Option Addr → DS} {i : Nat}
theorem s_rz (h : as δ κ X fun xs κ1 => xs.length = ns.length ∧ xs.length ≤ 100 ∧ X δ c (xfl ns xs.reverse) κ1) : sRz c ns as δ κ X T := h
theorem s_rz3 {Y : Str → List D → Kap → Prop} (h1 : xs.length = ns.length) (h2 : xs.length ≤ 100) (h3 : xfl ns xs.reverse = fs) (h : Y c fs κ) : xs.length = ns.length ∧ xs.length ≤ 100 ∧ Y c (xfl ns xs.reverse) κ := ⟨h1, h2, by rw [h3]; exact h⟩
theorem g_set {d : D} {δ' : DEnv} {QG : DEnv → Kap → Prop} (e : δ.set i (some d) = δ') (h : QG δ' κ) : gN i d δ κ X QG := by
  subst e
  exact h
theorem s_try (h : b δ κ (hPick xt hs X T) T) : sTry xt b hs δ κ X T := h
theorem fld_1 {n : Str} {d : D} {r : List D} : fldOf n (.str n :: d :: r) = some d := by
  show (if n = n then some d else _) = _
  rw [if_pos rfl]
theorem fld_2 {n m : Str} {d e : D} {r : List D} (h : m ≠ n) (q : fldOf n r = some e) : fldOf n (.str m :: d :: r) = some e := by
  show (if m = n then some d else _) = _
  rw [if_neg h]
  exact q
theorem e_xf {a C : Addr} {dd : Option Addr} {d : D} (e : δ[i]? = some (some (.node (.cau c a C dd) fs))) (h1 : xf c f = true) (h2 : fldOf f fs = some d) (h : Q d κ) : dXf xf i f a C dd δ κ X Q := ⟨c, fs, d, e, h1, h2, h⟩
end
end DL
/-! DLp: tuples that stand in the globals, three at once, == in a suite. -/
namespace DL
open PySem PySem.Spec PyProof.Rows L2
def sPar3 (i j l : Nat) (as : DA) : DS := fun δ κ X T => as δ κ X fun ds κ1 => ∃ x y z, ds = [x, y, z] ∧ T.nx (((δ.set i (some x)).set j (some y)).set l (some z)) κ1
/-! steps -/
section
variable {δ : DEnv} {κ : Kap} {X : DX} {as : DA} {x y z : D} {n : DEnv → Kap → Prop} {rt : DQ} {bk ct : DEnv → Kap → Prop}
theorem s_par3 {i j l : Nat} (h : as δ κ X fun ds κ1 => ∃ x y z, ds = [x, y, z] ∧ n (((δ.set i (some x)).set j (some y)).set l (some z)) κ1) : sPar3 i j l as δ κ X ⟨n, rt, bk, ct⟩ := h
theorem x_par3 {P : D → D → D → Prop} (h : P x y z) : ∃ u v w, [x, y, z] = [u, v, w] ∧ P u v w := ⟨x, y, z, rfl, h⟩
end
end DL
/-! DMc: list comprehensions with several for clauses. -/
namespace DL
open PySem PySem.Spec PyProof.Rows L2
structure BodyOk (Y : Cx) (bodyK : Sem PySem.Fin → Sem PySem.Fin) (vsI : List Nat) (tk : L2.St → Hp → (Hp → Prop) → Prop) : Prop where
  run : ∀ (pins : List (Addr × Obj)) (σ : L2.St) (H : Hp) (s : Shared) (Nx : Hp → Prop) (r : Sem PySem.Fin) (Q : PySem.Fin → Shared → Prop) (E : Value → Shared → Prop), L2.Inv Y pins σ H s → tk σ H Nx →
    (∀ s' σ' H', L2.Inv Y pins σ' H' s' → σ'.length = σ.length → (∀ (j : Nat) v, (wipe σ vsI)[j]? = some (some v) → σ'[j]? = some (some v)) → Nx H' → wpAny (model Y.prog Y.w) Y.A r Q E s') → wpAny (model Y.prog Y.w) Y.A (bodyK r) Q E s
/-! the clauses' turns -/
end DL
/-! DMd: comprehensions with several for clauses, over data. -/
namespace DL
open PySem PySem.Spec PyProof.Rows L2
abbrev DK := DEnv → Kap → (Kap → Prop) → Prop
def cElt (n : Nat) (e : DE) : DK := fun δ κ K => e δ κ XF fun y κ3 => ∃ acc, κ3 n = some (.live .lst acc) ∧ acc.length < sizeLine ∧ K (kset κ3 n (.live .lst (acc ++ [y])))
def cLoop (t : TN) (tt : DT) (vs : List Nat) (rest : DK) (gd : Kap → Prop) (δ : DEnv) (K : Kap → Prop) : List D → Kap → Prop
  | [], κ => gd κ ∧ K κ
  | d :: ds, κ => gd κ ∧ ∃ δ1, bindT t d (dwipe δ vs) κ = some δ1 ∧ tt δ1 κ XF fun b κ2 => if b = true then rest δ1 κ2 (cLoop t tt vs rest gd δ K ds) else cLoop t tt vs rest gd δ K ds κ2
def cFor (it : DI) (t : TN) (tt : DT) (vs : List Nat) (rest : DK) : DK := fun δ κ K => it δ κ XF fun items gd κ1 => cLoop t tt vs rest gd δ K items κ1
def dLcG (m : Bool) (it : DI) (t : TN) (tt : DT) (rest : Nat → DK) (vs : List Nat) : DE := fun δ κ X Q => it δ κ X fun items gd κ1 => ∀ n, κ1 n = none →
  cLoop t tt vs (rest n) gd δ (fun κ' => ∃ acc, κ' n = some (.live .lst acc) ∧ if m = true then Q (.cell n) κ' else Q (.lst acc) (kset κ' n .dead)) items (kset κ1 n (.live .lst []))
theorem BodyOk.imp {Y : Cx} {bk : Sem PySem.Fin → Sem PySem.Fin} {vsI : List Nat} {tk tk' : L2.St → Hp → (Hp → Prop) → Prop} (b : BodyOk Y bk vsI tk) (h : ∀ {σ H Nx}, tk' σ H Nx → tk σ H Nx) : BodyOk Y bk vsI tk' :=
  ⟨fun pins σ H s Nx r Q E I q fin => b.run pins σ H s Nx r Q E I (h q) fin⟩
end DL
/-! DMf: enumerate, tuple(..), x[::-1], n += .. -/
namespace DL
open PySem PySem.Spec PyProof.Rows L2
/-! ### enumerate -/
def enumD : Nat → List D → List D
  | _, [] => []
  | i, y :: ys => .node .tup [.int (i : Nat), y] :: enumD (i + 1) ys
def eQ (QI : List D → (Kap → Prop) → Kap → Prop) (xs : List D) (κ : Kap) : Prop := match xs with
  | [.cell n] => ∃ ys, κ n = some (.live .lst ys) ∧ QI (enumD 0 ys) (fun κ => κ n = some (.live .lst ys)) κ
  | [.node .lst ys] => QI (enumD 0 ys) gTrue κ
  | _ => False
def iEnumD (as : DA) : DI := fun δ κ X QI => as δ κ X (eQ QI)
/-! ### tuple(x), x[::-1] -/
def fTup : D → Kap → DQ → Prop := fun x κ Q => (∃ ys, view x κ = some (.lst, ys) ∧ Q (.node .tup ys) κ) ∨ ∃ ys, x = .node .tup ys ∧ Q (.node .tup ys) κ
def dTupOf (a : DE) : DE := fun δ κ X Q => a δ κ X fun x κ1 => fTup x κ1 Q
def fRev (m : Bool) : D → Kap → DQ → Prop := fun x κ Q => ∃ ys, view x κ = some (.lst, ys) ∧ fNew m .lst ys.reverse κ Q
def dRev (m : Bool) (a : DE) : DE := fun δ κ X Q => a δ κ X fun x κ1 => fRev m x κ1 Q
section
variable {X : Cx} {W : WX} {e : Expr} {a : DE} {p pos p1 p2 p3 : Pos} {k : Nat}
theorem pd_tupOf (hm : X.mg "tuple" = none) (ha : PED X W e a) (hg : Gl X "tuple" := by rfl) (na : starEach [e] X.env = (false, eval e X.env) :: starEach [] X.env := by rfl) : PED X W (.Call (.Name "tuple" p) [e] [] pos) (dTupOf a) :=
  pe_weak (pe_tupleOf hg hm ha na) fun σ H Q ⟨F, ρ, κ, δ, XD, QD, S, R, h, P, PX⟩ => ⟨F, ρ, κ, δ, XD, _, S, R, h, fun F1 ρ1 κ1 H1 x v e1 S1 R1 h0 => by
    rcases h0 with ⟨ys, h1, h3⟩ | ⟨ys, rfl, h3⟩
    · obtain ⟨q, vs, rfl, hk, rl⟩ := view_at S1 R1 h1
      refine .inl ⟨q, vs, rfl, SqL.of hk, fun b hb => ?_⟩
      obtain ⟨ex, S2⟩ := S1.laid (p := b) (o := .tup vs) hb
      exact P _ _ _ _ _ _ (e1.trans ex) S2 (.node (k := .tup) (.inl (.inl upd_same)) (rl.ext ex)) h3
    · cases R1 with
      | @node _ _ q ws hk2 rl2 => exact .inr ⟨q, ws, rfl, sqt_ext S1.sub hk2, P _ _ _ _ _ _ e1 S1 (.node (k := .tup) hk2 rl2) h3⟩, PX⟩
theorem pd_rev {kc : Nat} (m : Bool) (ha : PED X W e a) : PED X W (.Subscript e (.Slice none none (some (.UnaryOp .USub (.Constant (.int 1) kc p1) p2)) p3) pos) (dRev m a) :=
  pe_weak (pe_revL ha) fun σ H Q ⟨F, ρ, κ, δ, XD, QD, S, R, h, P, PX⟩ => ⟨F, ρ, κ, δ, XD, _, S, R, h, fun F1 ρ1 κ1 H1 x v e1 S1 R1 ⟨ys, h1, h2⟩ => by
    obtain ⟨q, vs, rfl, hk, rl⟩ := view_at S1 R1 h1
    refine ⟨q, vs, rfl, SqL.of hk, fun b hb => ?_⟩
    cases m with
    | false =>
      obtain ⟨ex, S2⟩ := S1.laid (p := b) (o := .lst vs.reverse) hb
      exact P _ _ _ _ _ _ (e1.trans ex) S2 (.node (k := .lst) upd_same (RepL.reverse (rl.ext ex))) h2
    | true =>
      obtain ⟨n, hn⟩ := S1.fresh
      obtain ⟨ρ2, e2, hr2, S2⟩ := S1.cell (o := .lst vs.reverse) (k := .lst) (vs := vs.reverse) (xs := ys.reverse) hb (fun _ q => q) (RepL.reverse rl) hn
      exact P _ _ _ _ _ _ (e1.trans e2) S2 (.cell hr2) (h2 n hn), PX⟩
end
/-! ### name += number -/
def fAddI : D2 := fun x y κ Q => ∃ i j, x = .int i ∧ y = .int j ∧ Q (.int (i + j)) κ
end DL
/-! DLq: defs held by names and by a dict of the top, dict(pairs), d[k], str of a tuple, a try that runs through. -/
namespace DL
open PySem PySem.Spec PyProof.Rows L2
/-! ### a dict of the top whose values are defs -/
end DL
namespace DL
open PySem PySem.Spec PyProof.Rows L2
/-! ### a def that a name holds, called -/
/-! ### a try that runs through -/
def W0 : WX := fun _ _ _ _ => False
theorem Good.nox {k : Nat} {X : Cx} {W : WX} (g : Good k X W) : Good k X.nox W0 := ⟨fun _ _ x => by
  obtain ⟨_, _, _, _, _, _, _, _, _, _, _, _, _, _, _, _, z⟩ := x
  exact z.elim, PassesOwn.never, g.rm, g.gd, g.sm, g.calm, g.nd⟩
end DL
namespace DL
open PySem PySem.Spec PyProof.Rows L2
/-! ### str of a number, of a tuple -/
/-! ### dict(pairs) -/
/-! ### d[k] of such a dict -/
end DL
namespace DL
open PySem PySem.Spec PyProof.Rows L2
end DL
/-! DLr: within an except suite: two names at once. -/
namespace DL
open PySem PySem.Spec PyProof.Rows L2 HotX
/-! ### the greatest of three -/
end DL
/-! DLs: texts: f-strings, split, startswith, find, lstrip, int of a text, a text many times. -/
namespace DL
open PySem PySem.Spec PyProof.Rows L2
/-! ### methods -/
/-! ### f-strings -/
/-! ### int of a text -/
/-! ### a text many times -/
end DL
/-! DLt: x, *y = a list. -/
namespace DL
open PySem PySem.Spec PyProof.Rows L2
end DL
/-! DLu: zip of any lists and tuples, at the library's level. -/
namespace ZN
open PySem
section
variable {prog : Program} {w : World} {A : Around} {E : Value → Shared → Prop} {s : Shared}
/-- a loop over a list that never leaves early -/
theorem zloop {α β : Type} {M : Model} {f : α → β → Sem (ForInStep β)} {Q : β → Shared → Prop} (Pv : Nat → β → Shared → Prop) : ∀ (ps : List α) (j : Nat) (b : β) (s : Shared),
    (∀ i p b s, ps[i]? = some p → Pv (j + i) b s → wpAny M A (f p b) (fun r s' => ∃ b', r = .yield b' ∧ Pv (j + i + 1) b' s') E s) → Pv j b s → (∀ b s, Pv (j + ps.length) b s → Q b s) → wpAny M A (forIn ps b f) Q E s
  | [], j, b, s, _, h, hq => by
    rw [List.forIn_nil]
    exact wpAny_pure (hq b s h)
  | p :: ps, j, b, s, st, h, hq => by
    rw [List.forIn_cons]
    refine wpAny_bind (wpAny_mono (st 0 p b s rfl h) ?_ fun _ _ e => e)
    rintro r s' ⟨b', rfl, hp⟩
    refine zloop Pv ps (j + 1) b' s' (fun i q c t hi hc => ?_) hp fun c t hc => hq c t ?_
    · have := st (i + 1) q c t hi (by rw [show j + (i + 1) = j + 1 + i by omega]; exact hc)
      rw [show j + (i + 1) + 1 = j + 1 + i + 1 by omega] at this
      exact this
    · rw [List.length_cons, show j + (ps.length + 1) = j + 1 + ps.length by omega]
      exact hc
/-- what zip walks: an iterator, whose it is, the items -/
structure Zs where
  it : Addr
  l : Addr
  xs : Array Value
def Sq (h : Heap) (l : Addr) (xs : Array Value) : Prop := h.IsList l xs ∨ h.IsTuple l xs
def Src (h : Heap) (k : Nat) (c : Zs) : Prop := (h.IsListIter c.it c.l k ∧ h.IsList c.l c.xs) ∨ (h.IsTupleIter c.it c.l k ∧ h.IsTuple c.l c.xs)
theorem Src.ext {h h' : Heap} {b : Addr} {k : Nat} {c : Zs} (x : Src h k c) (hs : Heap.ExtBut b h h') (h1 : c.it ≠ b) (h2 : c.l ≠ b) : Src h' k c := by
  rcases x with ⟨a, d⟩ | ⟨a, d⟩
  · exact .inl ⟨a.extBut hs h1, d.extBut hs h2⟩
  · exact .inr ⟨a.extBut hs h1, d.extBut hs h2⟩
theorem Src.obj {h : Heap} {k : Nat} {c : Zs} (x : Src h k c) : ∃ o vs, h.get? c.it = some o ∧ o.data = .fields vs := by
  rcases x with ⟨⟨o, a, b, d⟩, _⟩ | ⟨⟨o, a, b, d⟩, _⟩
  · exact ⟨o, _, a, d⟩
  · exact ⟨o, _, a, d⟩
theorem Src.keep {h h' : Heap} {k : Nat} {c : Zs} (x : Src h k c) (h1 : ∀ o, h.get? c.it = some o → h'.get? c.it = some o) (h2 : ∀ o, h.get? c.l = some o → h'.get? c.l = some o) : Src h' k c := by
  rcases x with ⟨⟨o, a, b⟩, ⟨o', d, e⟩⟩ | ⟨⟨o, a, b⟩, ⟨o', d, e⟩⟩
  · exact .inl ⟨⟨o, h1 _ a, b⟩, ⟨o', h2 _ d, e⟩⟩
  · exact .inr ⟨⟨o, h1 _ a, b⟩, ⟨o', h2 _ d, e⟩⟩
theorem src_item {k : Nat} {c : Zs} {v : Value} {Q : Value → Shared → Prop} (x : Src s.heap k c) (ne : c.l ≠ c.it) (hx : c.xs[k]? = some v)
    (hQ : ∀ h', Src h' (k + 1) c → Heap.SameBut c.it s.heap h' → Q v { s with heap := h' }) : wpAny (model prog w) A (Builtin.SmallTypes.nextOf (.ref c.it)) Q E s := by
  rcases x with ⟨a, d⟩ | ⟨a, d⟩
  · exact wpAny_nextOf_list_item a d hx fun h' b sb => hQ h' (.inl ⟨b, d.extBut sb.extBut ne⟩) sb
  · exact RZ.nextOf_tuple_item a d hx fun h' b sb => hQ h' (.inr ⟨b, d.extBut sb.extBut ne⟩) sb
theorem src_end {k : Nat} {c : Zs} {Q : Value → Shared → Prop} (hh : A.handled = none) (x : Src s.heap k c) (hx : c.xs[k]? = none)
    (hE : ∀ h' e, Heap.ExtBut c.it s.heap h' → (∃ o, h'.get? e = some o ∧ o.cls = .type "StopIteration") → E (.ref e) { s with heap := h' }) : wpAny (model prog w) A (Builtin.SmallTypes.nextOf (.ref c.it)) Q E s := by
  rcases x with ⟨a, d⟩ | ⟨a, d⟩
  · exact wpAny_nextOf_list_end hh a d hx hE
  · exact RZ.nextOf_tuple_end hh a d hx hE
theorem src_new {l : Addr} {xs : Array Value} {Q : Value → Shared → Prop} (x : Sq s.heap l xs) (hQ : ∀ o : Obj, Src (s.heap.push o) 0 ⟨s.heap.objs.size, l, xs⟩ → Q (.ref s.heap.objs.size) { s with heap := s.heap.push o }) :
    wpAny (model prog w) A (pyIter (.ref l)) Q E s := by
  rcases x with a | a
  · exact wpAny_pyIter_list a (hQ _ (.inl ⟨⟨_, Heap.get?_push_size _ rfl, rfl, rfl⟩, a.push _⟩))
  · exact wpAny_pyIter_tuple a (hQ _ (.inr ⟨⟨_, Heap.get?_push_size _ rfl, rfl, rfl⟩, a.push _⟩))
/-- the things of one zip lie apart -/
structure Apart (z TI TO : Addr) (cs : List Zs) : Prop where
  tz : TI ≠ z
  oz : TO ≠ z
  to : TI ≠ TO
  i : ∀ c ∈ cs, c.it ≠ z ∧ c.it ≠ TI ∧ c.it ≠ TO
  nd : ∀ (i j : Nat) (c d : Zs), cs[i]? = some c → cs[j]? = some d → i ≠ j → c.it ≠ d.it
  l : ∀ c ∈ cs, c.l ≠ z ∧ c.l ≠ TO ∧ ∀ d ∈ cs, c.l ≠ d.it
abbrev IsT (h : Heap) (T : Addr) (vs : List Value) : Prop := h.get? T = some { cls := .type "tuple", data := .seq vs.toArray }
def refsOf (cs : List Zs) : List Value := cs.map fun c => .ref c.it
/-- all but what a zip writes stays -/
def Stays (z TO : Addr) (cs : List Zs) (h h' : Heap) : Prop := ∀ a o, a ≠ z → a ≠ TO → (∀ c ∈ cs, a ≠ c.it) → h.get? a = some o → h'.get? a = some o
theorem upd_same {xs : List Value} {j : Nat} {v : Value} {i : Nat} : (xs.set j v)[i]? = if i = j ∧ j < xs.length then some v else xs[i]? := by
  rw [List.getElem?_set]
  by_cases h : j = i
  · subst h
    by_cases h2 : j < xs.length
    · simp [h2]
    · simp [h2]
  · rw [if_neg h, if_neg fun q => h q.1.symm]
theorem zs_next {z TI TO : Addr} {cs : List Zs} {k : Nat} {ts : List Value} {Q : Value → Shared → Prop} (hh : A.handled = none) (D : Apart z TI TO cs) (hne : cs ≠ []) (hn : cs.length ≤ 100) (hz : IsZip s.heap z TI TO .none) (hTI : IsT s.heap TI (refsOf cs)) (hTO : IsT s.heap TO ts) (htl : ts.length = cs.length) (hs : ∀ c ∈ cs, Src s.heap k c)
    (hQ : ∀ (vs : List Value) h', vs.length = cs.length → (∀ (i : Nat) (c : Zs), cs[i]? = some c → c.xs[k]? = vs[i]?) → IsZip h' z TI TO (rawInt s.heap.objs.size) → IsT h' TO vs → (∀ c ∈ cs, Src h' (k + 1) c) → IsT h' s.heap.objs.size vs →
      Stays z TO cs s.heap h' → Q (.ref s.heap.objs.size) { s with heap := h' })
    (hE : ∀ c ∈ cs, c.xs[k]? = none → ∀ h' e, Stays z TO cs s.heap h' → (∃ o, h'.get? e = some o ∧ o.cls = .type "StopIteration") → E (.ref e) { s with heap := h' }) :
    wpAny (model prog w) A (Builtin.«zip.__next__» ⟨[.ref z], []⟩) (fun fin s' => ∃ v, fin = .done (.ret v) ∧ Q v s') E s := by
  show wpAny _ _ (field (.ref z) 2 >>= _) _ _ _
  refine wpAny_bind (wpAny_field hz rfl (x := .bool false) rfl ?_)
  show wpAny _ _ (field (.ref z) 3 >>= _) _ _ _
  refine wpAny_bind (wpAny_field hz rfl (x := .ref TI) rfl ?_)
  refine wpAny_bind (wpAny_seqItems hTI rfl ?_)
  have he : ((refsOf cs).toArray.isEmpty = true) = False := by
    cases cs with
    | nil => exact absurd rfl hne
    | cons c cs => simp [refsOf]
  dsimp only
  rw [if_neg (by rw [he]; exact id)]
  show wpAny _ _ (Builtin.SmallTypes.ownedTupleIsFree (.ref z) >>= _) _ _ _
  refine wpAny_bind ?_
  unfold Builtin.SmallTypes.ownedTupleIsFree
  refine wpAny_bind (wpAny_field hz rfl (x := .none) rfl (wpAny_pure ?_))
  rw [if_pos rfl]
  refine wpAny_bind (wpAny_rule ?_)
  refine wpAny_bind (wpAny_field hz rfl (x := .ref TO) rfl ?_)
  refine wpAny_bind (wpAny_setField_rec hz (by simp) fun g1 z1 k1 => ?_)
  replace z1 : IsZip g1 z TI TO .ellipsis := z1
  refine wpAny_bind (zloop (fun j b s' => b.1 = none ∧ ∃ (h' : Heap) (kept : List Value), s' = { s with heap := h' } ∧ h'.objs.size = s.heap.objs.size ∧ IsZip h' z TI TO .ellipsis ∧ IsT h' TO kept ∧ kept.length = cs.length ∧
    (∀ (i : Nat) (c : Zs), i < j → cs[i]? = some c → c.xs[k]? = kept[i]?) ∧ (∀ (i : Nat) (c : Zs), cs[i]? = some c → Src h' (if i < j then k + 1 else k) c) ∧ Stays z TO cs s.heap h') _ 0 _ _ ?step ?start ?done)
  case start =>
    refine ⟨rfl, g1, ts, rfl, k1.1, z1, k1.extBut _ _ D.oz hTO, htl, fun i c h => absurd h (by omega), fun i c hc => ?_, fun a o h1 _ _ e => k1.extBut _ _ h1 e⟩
    have hm := List.mem_of_getElem? hc
    exact (hs c hm).ext k1.extBut (D.i c hm).1 (D.l c hm).1
  case step =>
    rintro i ⟨it, j⟩ b s' hp ⟨hb1, h', kept, rfl, hsz, hz', hTO', hl, hv, hsr, hst⟩
    rw [Nat.zero_add] at hv hsr
    rw [List.getElem?_zipIdx, Option.map_eq_some_iff] at hp
    obtain ⟨v0, hv0, hp⟩ := hp
    rw [Nat.zero_add, Prod.mk.injEq] at hp
    obtain ⟨rfl, rfl⟩ := hp
    have hv0' : (refsOf cs)[i]? = some v0 := hv0
    unfold refsOf at hv0'
    rw [List.getElem?_map, Option.map_eq_some_iff] at hv0'
    obtain ⟨c, hc, rfl⟩ := hv0'
    have hm := List.mem_of_getElem? hc
    have hsc := hsr i c hc
    rw [if_neg (Nat.lt_irrefl i)] at hsc
    refine wpAny_bind (wpAny_onRaise ?_)
    show wpAny _ _ (Builtin.SmallTypes.nextOf (.ref c.it) >>= _) _ _ _
    cases hx : c.xs[k]? with
    | none =>
      refine wpAny_bind (src_end (s := { s with heap := h' }) hh hsc hx fun h2 e k2 he2 => ?_)
      obtain ⟨oe, hoe, hce⟩ := he2
      have z2 : IsZip h2 z TI TO .ellipsis := k2 _ _ (D.i c hm).1.symm hz'
      have hez : e ≠ z := fun q => by
        rw [q, z2] at hoe
        cases hoe
        simp at hce
      refine wpAny_setField_rec (s := { s with heap := h2 }) z2 (by simp) fun h3 _ k3 => ?_
      exact hE c hm hx h3 e (fun a o a1 a2 a3 q => k3.extBut _ _ a1 (k2 _ _ (a3 c hm) (hst a o a1 a2 a3 q))) ⟨oe, k3.extBut _ _ hez hoe, hce⟩
    | some v =>
      refine wpAny_bind (src_item (s := { s with heap := h' }) hsc ((D.l c hm).2.2 c hm) hx fun h2 sc2 k2 => wpAny_pure ?_)
      have hTO2 : IsT h2 TO kept := k2.extBut _ _ (D.i c hm).2.2.symm hTO'
      refine wpAny_bind (wpAny_seqItems (s := { s with heap := h2 }) hTO2 rfl ?_)
      have hkz : kept.toArray.size ≤ sizeLine := by
        rw [List.size_toArray, hl, sizeLine_eq]
        omega
      refine wpAny_bind (wpAny_updateSeq (s := { s with heap := h2 }) hTO2 rfl ?_ hkz (by rw [Array.size_setIfInBounds]; omega))
      refine wpAny_bind (wpAny_letGo (wpAny_pure ⟨_, rfl, by first | exact hb1 | rfl, ?_⟩))
      have k3 := Heap.SameBut.update h2 TO (Obj.mapSeq fun x => x.setIfInBounds i v)
      have hTO3 : IsT (h2.update TO (Obj.mapSeq fun x => x.setIfInBounds i v)) TO (kept.set i v) := by
        refine (Heap.get?_update_self _ hTO2 rfl).trans ?_
        simp [Obj.mapSeq]
      have hil : i < kept.length := by
        rw [hl]
        exact (List.getElem?_eq_some_iff.mp hc).1
      refine ⟨_, kept.set i v, rfl, k3.1.trans (k2.1.trans hsz), k3.extBut _ _ D.oz.symm (k2.extBut _ _ (D.i c hm).1.symm hz'), hTO3, by rw [List.length_set]; exact hl, fun i2 c2 h2' hc2 => ?_, fun i2 c2 hc2 => ?_, fun a o a1 a2 a3 q => k3.extBut _ _ a2 (k2.extBut _ _ (a3 c hm) (hst a o a1 a2 a3 q))⟩
      · rw [Nat.zero_add] at h2'
        rw [upd_same]
        by_cases e : i2 = i
        · subst e
          rw [if_pos ⟨rfl, hil⟩]
          rw [hc] at hc2
          cases hc2
          exact hx
        · rw [if_neg fun q => e q.1]
          exact hv i2 c2 (by omega) hc2
      · rw [Nat.zero_add]
        have hm2 := List.mem_of_getElem? hc2
        by_cases e : i2 = i
        · subst e
          rw [hc] at hc2
          cases hc2
          rw [if_pos (by omega)]
          exact sc2.ext k3.extBut (D.i c hm).2.2 (D.l c hm).2.1
        · have q := hsr i2 c2 hc2
          have q2 : (if i2 < i + 1 then k + 1 else k) = if i2 < i then k + 1 else k := by
            by_cases r : i2 < i
            · rw [if_pos r, if_pos (by omega)]
            · rw [if_neg r, if_neg (by omega)]
          rw [q2]
          exact (q.ext k2.extBut (D.nd i2 i c2 c hc2 hc e) ((D.l c2 hm2).2.2 c hm)).ext k3.extBut (D.i c2 hm2).2.2 (D.l c2 hm2).2.1
  case done =>
    rintro b s' ⟨hb1, h', kept, rfl, hsz, hz', hTO', hl, hv, hsr, hst⟩
    have hpl : (refsOf cs).toArray.toList.zipIdx.length = cs.length := by simp [refsOf]
    rw [hpl, Nat.zero_add] at hv hsr
    have hi2 : ∀ (i : Nat) (c : Zs), cs[i]? = some c → i < cs.length := fun i c hc => (List.getElem?_eq_some_iff.mp hc).1
    have hz100 : kept.length ≤ sizeLine := by
      rw [hl, sizeLine_eq]
      omega
    rw [hb1]
    refine wpAny_bind (wpAny_seqItems (s := { s with heap := h' }) hTO' rfl ?_)
    refine wpAny_bind (wpAny_newTuple (s := { s with heap := h' }) ?_ hz100)
    show wpAny _ _ (Builtin.SmallTypes.ownedTupleHandOut (.ref z) (.ref h'.objs.size) >>= _) _ _ _
    refine wpAny_bind ?_
    unfold Builtin.SmallTypes.ownedTupleHandOut
    have hzl : z < h'.objs.size := Heap.lt_size hz'
    have hz6 : IsZip (h'.push { cls := .type "tuple", data := .seq kept.toArray }) z TI TO .ellipsis := Heap.get?_push_of_some _ hz'
    refine wpAny_bind (wpAny_setField_rec (s := { s with heap := h'.push { cls := .type "tuple", data := .seq kept.toArray } }) hz6 (by simp) fun h7 hz7 k7 => ?_)
    replace hz7 : IsZip h7 z TI TO (rawInt h'.objs.size) := hz7
    refine wpAny_setField_rec (s := { s with heap := h7 }) hz7 (by simp) fun h8 hz8 k8 => ?_
    replace hz8 : IsZip h8 z TI TO (rawInt h'.objs.size) := hz8
    have up : ∀ a o, a ≠ z → h'.get? a = some o → h8.get? a = some o := fun a o a1 q => k8.extBut _ _ a1 (k7.extBut _ _ a1 (Heap.get?_push_of_some _ q))
    have new : IsT h8 h'.objs.size kept := k8.extBut _ _ (Nat.ne_of_gt hzl) (k7.extBut _ _ (Nat.ne_of_gt hzl) (Heap.get?_push_size _ rfl))
    refine wpAny_pure ⟨_, rfl, ?_⟩
    show Q (.ref h'.objs.size) _
    rw [hsz] at new hz8 ⊢
    refine hQ kept h8 hl (fun i c hc => hv i c (hi2 i c hc) hc) hz8 (up _ _ D.oz hTO') (fun c hc => ?_) new fun a o a1 a2 a3 q => up a o a1 (hst a o a1 a2 a3 q)
    obtain ⟨i, hi⟩ := List.mem_iff_getElem?.mp hc
    have q := hsr i c hi
    rw [if_pos (hi2 i c hi)] at q
    exact q.keep (fun o => up _ o (D.i c hc).1) fun o => up _ o (D.l c hc).1
/-- one turn of a loop over a zip -/
theorem pyNext_zs {z TI TO : Addr} {cs : List Zs} {k : Nat} {ts : List Value} {Q : Option Value → Shared → Prop} (hh : A.handled = none) (D : Apart z TI TO cs) (hne : cs ≠ []) (hn : cs.length ≤ 100) (hz : IsZip s.heap z TI TO .none) (hTI : IsT s.heap TI (refsOf cs)) (hTO : IsT s.heap TO ts) (htl : ts.length = cs.length) (hs : ∀ c ∈ cs, Src s.heap k c)
    (hQ : ∀ (vs : List Value) h', vs.length = cs.length → (∀ (i : Nat) (c : Zs), cs[i]? = some c → c.xs[k]? = vs[i]?) → IsZip h' z TI TO (rawInt s.heap.objs.size) → IsT h' TO vs → (∀ c ∈ cs, Src h' (k + 1) c) → IsT h' s.heap.objs.size vs →
      Stays z TO cs s.heap h' → Q (some (.ref s.heap.objs.size)) { s with heap := h' })
    (hE : ∀ c ∈ cs, c.xs[k]? = none → ∀ h', Stays z TO cs s.heap h' → Q none { s with heap := h' }) : wpAny (model prog w) A (pyNext (.ref z)) Q E s := by
  have hT : s.TypeIs (.ref z) "zip" := ⟨_, hz, rfl⟩
  unfold pyNext
  refine wpAny_bind (wpAny_attempt (wpAny_callSpecial?_slot (name := Str.ofString "__next__") hT F.slot_zip_next
    (wpAny_call_entry F.slot_zip_next hT F.entry_zip_next (zs_next hh D hne hn hz hTI hTO htl hs (fun vs h' a1 a2 a3 a4 a5 a6 a7 => wpAny_pure (hQ vs h' a1 a2 a3 a4 a5 a6 a7)) fun c hc hx h' e st he => ?_) (F.args_zip_next_1 _))))
  obtain ⟨o, ho, hcl⟩ := he
  refine wpAny_bind (wpAny_isInstance (T := "StopIteration") (b := true) ⟨o, ho, hcl⟩ isSubtype_stop ?_)
  exact wpAny_pure (hE c hc hx _ st)
/-! ### a zip is made -/
def made (h : Heap) : List (Addr × Array Value) → Nat → List Zs
  | [], _ => []
  | (l, xs) :: r, n => ⟨n, l, xs⟩ :: made h r (n + 1)
theorem made_get {h : Heap} : ∀ {ls : List (Addr × Array Value)} {n i : Nat} {c : Zs}, (made h ls n)[i]? = some c → c.it = n + i ∧ ∃ q, ls[i]? = some q ∧ c.l = q.1 ∧ c.xs = q.2
  | [], _, _, _, q => by simp [made] at q
  | (l, xs) :: r, n, 0, c, q => by
    have e : (⟨n, l, xs⟩ : Zs) = c := Option.some.inj q
    subst e
    exact ⟨rfl, _, rfl, rfl, rfl⟩
  | (l, xs) :: r, n, i + 1, c, q => by
    obtain ⟨a, b⟩ := made_get (ls := r) (n := n + 1) (i := i) q
    exact ⟨a.trans (Nat.add_right_comm n 1 i), b⟩
theorem made_len {h : Heap} : ∀ (ls : List (Addr × Array Value)) (n : Nat), (made h ls n).length = ls.length
  | [], _ => rfl
  | (l, xs) :: r, n => by
    show (made h r (n + 1)).length + 1 = r.length + 1
    rw [made_len r (n + 1)]
theorem iterAll_zs {ls : List (Addr × Array Value)} {Q : List Value → Shared → Prop} (hl : ∀ q ∈ ls, Sq s.heap q.1 q.2)
    (hQ : ∀ h', h'.objs.size = s.heap.objs.size + ls.length → (∀ a o, s.heap.get? a = some o → h'.get? a = some o) → (∀ c ∈ made s.heap ls s.heap.objs.size, Src h' 0 c) → Q (refsOf (made s.heap ls s.heap.objs.size)) { s with heap := h' }) :
    wpAny (model prog w) A (Builtin.SmallTypes.iterAll (ls.map fun q => .ref q.1)) Q E s := by
  unfold Builtin.SmallTypes.iterAll
  refine wpAny_bind (zloop (fun j (b : Array Value) s' => ∃ h' : Heap, s' = { s with heap := h' } ∧ h'.objs.size = s.heap.objs.size + j ∧ (∀ a o, s.heap.get? a = some o → h'.get? a = some o) ∧
    b.toList = (refsOf (made s.heap ls s.heap.objs.size)).take j ∧ ∀ i c, i < j → (made s.heap ls s.heap.objs.size)[i]? = some c → Src h' 0 c) _ 0 _ _ ?step ?start ?done)
  case start => exact ⟨s.heap, rfl, rfl, fun _ _ q => q, by simp, fun i c q => absurd q (by omega)⟩
  case step =>
    rintro i p b s' hp ⟨h', rfl, hsz, hk, hb, hs⟩
    rw [Nat.zero_add] at hsz hb hs
    rw [List.getElem?_map, Option.map_eq_some_iff] at hp
    obtain ⟨⟨l, xs⟩, hq, rfl⟩ := hp
    have hil : i < ls.length := (List.getElem?_eq_some_iff.mp hq).1
    have hmi : (made s.heap ls s.heap.objs.size)[i]? = some ⟨s.heap.objs.size + i, l, xs⟩ := by
      have hx : i < (made s.heap ls s.heap.objs.size).length := by rw [made_len]; exact hil
      have e := List.getElem?_eq_getElem hx
      obtain ⟨a1, q, a2, a3, a4⟩ := made_get e
      rw [hq] at a2
      cases a2
      rw [e]
      generalize (made s.heap ls s.heap.objs.size)[i] = c at a1 a3 a4
      obtain ⟨c1, c2, c3⟩ := c
      dsimp only at a1 a3 a4
      rw [a1, a3, a4]
    have sq : Sq h' l xs := by
      rcases hl _ (List.mem_of_getElem? hq) with ⟨o, a, b⟩ | ⟨o, a, b⟩
      · exact .inl ⟨o, hk _ _ a, b⟩
      · exact .inr ⟨o, hk _ _ a, b⟩
    refine wpAny_bind (wpAny_holding (src_new (s := { s with heap := h' }) sq fun o sr => wpAny_pure ?_))
    refine ⟨_, rfl, _, rfl, by rw [Heap.size_push, hsz]; omega, fun a o' q => Heap.get?_push_of_some _ (hk a o' q), ?_, fun i2 c h2 hc => ?_⟩
    · rw [Array.toList_push, hb, Nat.zero_add, List.take_add_one]
      congr 1
      unfold refsOf
      rw [List.getElem?_map, hmi]
      show _ = [Value.ref (s.heap.objs.size + i)]
      rw [hsz]
    · rw [Nat.zero_add] at h2
      by_cases e : i2 = i
      · subst e
        rw [hmi] at hc
        cases hc
        have hs2 : (Shared.heap { s with heap := h' }).objs.size = s.heap.objs.size + i2 := hsz
        rw [hs2] at sr
        exact sr
      · exact (hs i2 c (by omega) hc).keep (fun o q => Heap.get?_push_of_some _ q) fun o q => Heap.get?_push_of_some _ q
  case done =>
    rintro b s' ⟨h', rfl, hsz, hk, hb, hs⟩
    rw [List.length_map, Nat.zero_add] at hsz hb hs
    have hbl : b.toList = refsOf (made s.heap ls s.heap.objs.size) := by
      rw [hb]
      refine List.take_of_length_le ?_
      unfold refsOf
      rw [List.length_map, made_len]
      exact Nat.le_refl _
    show wpAny _ _ (pure b.toList) _ _ _
    rw [hbl]
    refine wpAny_pure (hQ h' hsz hk fun c hc => ?_)
    obtain ⟨i, hi⟩ := List.mem_iff_getElem?.mp hc
    refine hs i c ?_ hi
    have := (List.getElem?_eq_some_iff.mp hi).1
    rw [made_len] at this
    exact this
theorem zip_new {ls : List (Addr × Array Value)} (hn : ls.length ≤ 100) : Meets (Builtin.«zip.__new__» ⟨.type "zip" :: ls.map (fun q => .ref q.1), []⟩) (fun _ R s => (∀ q ∈ ls, Sq s.heap q.1 q.2) ∧
    ∀ (h' : Heap) (cs : List Zs), cs = made s.heap ls s.heap.objs.size → IsZip h' (s.heap.objs.size + ls.length + 2) (s.heap.objs.size + ls.length) (s.heap.objs.size + ls.length + 1) .none → IsT h' (s.heap.objs.size + ls.length) (refsOf cs) →
      IsT h' (s.heap.objs.size + ls.length + 1) (cs.map fun _ => .none) → (∀ c ∈ cs, Src h' 0 c) → (∀ a o, s.heap.get? a = some o → h'.get? a = some o) → R (.ok (.ret (.ref (s.heap.objs.size + ls.length + 2)))) { s with heap := h' }) :=
  .of_wp fun prog w A R s h => by
    obtain ⟨hl, h⟩ := h
    show wpAny _ _ (Builtin.SmallTypes.newClass "zip" _ >>= _) _ _ s
    refine wpAny_bind ?_
    unfold Builtin.SmallTypes.newClass
    dsimp only
    refine wpAny_bind (wpAny_of_eq (a := true) (by first | rfl | (simp only [isType]; rfl)) ?_)
    show wpAny _ _ (isSubtype (.type "zip") (.type "zip") >>= _) _ _ s
    refine wpAny_bind (wpAny_of_eq sub_zip ?_)
    refine wpAny_pure ?_
    show wpAny _ _ (Builtin.SmallTypes.iterAll (ls.map fun q => Value.ref q.1) >>= _) _ _ s
    refine wpAny_bind (iterAll_zs hl fun h1 z1 k1 s1 => ?_)
    have hm : (made s.heap ls s.heap.objs.size).length ≤ sizeLine := by
      rw [made_len, sizeLine_eq]
      omega
    refine wpAny_bind (wpAny_newTuple (s := { s with heap := h1 }) ?_ (by unfold refsOf; rw [List.length_map]; exact hm))
    refine wpAny_bind (wpAny_newTuple ?_ (by unfold refsOf; rw [List.length_map, List.length_map]; exact hm))
    have hA : s.heap.objs.size + ls.length = h1.objs.size := z1.symm
    rw [hA] at h
    have hB : (h1.push { cls := .type "tuple", data := .seq (refsOf (made s.heap ls s.heap.objs.size)).toArray }).objs.size = h1.objs.size + 1 := Heap.size_push ..
    have hC : ((h1.push { cls := .type "tuple", data := .seq (refsOf (made s.heap ls s.heap.objs.size)).toArray }).push { cls := .type "tuple", data := .seq ((refsOf (made s.heap ls s.heap.objs.size)).map fun _ => Value.none).toArray }).objs.size = h1.objs.size + 2 := by
      rw [Heap.size_push, hB]
    refine wpAny_bind ?_
    unfold Builtin.SmallTypes.newRecord
    refine wpAny_newObj_type ?_ (by show _ ≤ sizeLine + 2; rw [sizeLine_eq]; simp [Builtin.SmallTypes.ownedTupleFields])
    refine wpAny_pure ⟨_, rfl, ?_⟩
    dsimp only
    rw [hC, hB]
    have g1 := Heap.get?_push_size h1 (o := ({ cls := .type "tuple", data := .seq (refsOf (made s.heap ls s.heap.objs.size)).toArray } : Obj)) rfl
    have g2 := Heap.get?_push_size (h1.push { cls := .type "tuple", data := .seq (refsOf (made s.heap ls s.heap.objs.size)).toArray }) (o := ({ cls := .type "tuple", data := .seq ((refsOf (made s.heap ls s.heap.objs.size)).map fun _ => Value.none).toArray } : Obj)) rfl
    have g3 := Heap.get?_push_size ((h1.push { cls := .type "tuple", data := .seq (refsOf (made s.heap ls s.heap.objs.size)).toArray }).push { cls := .type "tuple", data := .seq ((refsOf (made s.heap ls s.heap.objs.size)).map fun _ => Value.none).toArray })
      (o := ({ cls := .type "zip", data := .fields (Builtin.SmallTypes.ownedTupleFields ++ [Value.bool false, Value.ref h1.objs.size, Value.ref (h1.objs.size + 1)]).toArray } : Obj)) rfl
    rw [hB] at g2
    rw [hC] at g3
    have up : ∀ (o1 o2 o3 : Obj) a o, h1.get? a = some o → (((h1.push o1).push o2).push o3).get? a = some o := fun _ _ _ a o q => Heap.get?_push_of_some _ (Heap.get?_push_of_some _ (Heap.get?_push_of_some _ q))
    refine h _ _ rfl g3 (Heap.get?_push_of_some _ (Heap.get?_push_of_some _ g1)) ?_ (fun c hc => (s1 c hc).keep (fun o => up _ _ _ _ o) fun o => up _ _ _ _ o) fun a o q => up _ _ _ _ o (k1 a o q)
    have g4 := Heap.get?_push_of_some ({ cls := .type "zip", data := .fields (Builtin.SmallTypes.ownedTupleFields ++ [Value.bool false, Value.ref h1.objs.size, Value.ref (h1.objs.size + 1)]).toArray } : Obj) g2
    refine g4.trans ?_
    unfold refsOf
    rw [List.map_map]
    rfl
/-- what the table asks of the call: of two, of three -/
structure Few (us : List Value) : Prop where
  t : checkTypeCall "zip" ⟨us, []⟩ = pure ()
  n : checkBuiltinCall "zip.__new__" ⟨.type "zip" :: us, []⟩ = pure ()
  i : ∀ obj, argsOk "object.__init__" ⟨obj :: us, []⟩
theorem few2 (a b : Value) : Few [a, b] := ⟨F.typeCall_zip_2 a b, F.newCall_zip_2 a b, fun o => F.args_object_init_3 o a b⟩
theorem few3 (a b c : Value) : Few [a, b, c] where
  t := by kernel_rfl
  n := by kernel_rfl
  i := fun obj => by
    unfold argsOk
    rw [signature?_of (id := "object.__init__") (n := ['_', '_', 't', 'i', 'n', 'i', '_', '_']) (o := ['t', 'c', 'e', 'j', 'b', 'o']) (by kernel_rfl) F.owner_object]
    kernel_rfl
theorem call_zs {ls : List (Addr × Array Value)} {Q : Value → Shared → Prop} (hf : Few (ls.map fun q => .ref q.1)) (hn : ls.length ≤ 100) (hl : ∀ q ∈ ls, Sq s.heap q.1 q.2)
    (h : ∀ (h' : Heap) (cs : List Zs), cs = made s.heap ls s.heap.objs.size → IsZip h' (s.heap.objs.size + ls.length + 2) (s.heap.objs.size + ls.length) (s.heap.objs.size + ls.length + 1) .none → IsT h' (s.heap.objs.size + ls.length) (refsOf cs) →
      IsT h' (s.heap.objs.size + ls.length + 1) (cs.map fun _ => .none) → (∀ c ∈ cs, Src h' 0 c) → (∀ a o, s.heap.get? a = some o → h'.get? a = some o) → Q (.ref (s.heap.objs.size + ls.length + 2)) { s with heap := h' }) :
    wpAny (model prog w) A (call (.type "zip") (ls.map fun q => .ref q.1)) Q E s := by
  refine callType_new F.called_zip (by decide) hf.t hf.n hf.i F.entry_zip_new (zip_new hn) ⟨hl, fun h' cs e hz hTI hTO hs hk => ?_⟩
  exact ⟨⟨_, hz, rfl⟩, h h' cs e hz hTI hTO hs hk⟩
theorem made_apart {h : Heap} {ls : List (Addr × Array Value)} (hl : ∀ q ∈ ls, q.1 < h.objs.size) : Apart (h.objs.size + ls.length + 2) (h.objs.size + ls.length) (h.objs.size + ls.length + 1) (made h ls h.objs.size) := by
  have at_ : ∀ c ∈ made h ls h.objs.size, ∃ i, i < ls.length ∧ c.it = h.objs.size + i ∧ c.l < h.objs.size := fun c hc => by
    obtain ⟨i, hi⟩ := List.mem_iff_getElem?.mp hc
    obtain ⟨a, q, b, d, _⟩ := made_get hi
    refine ⟨i, (List.getElem?_eq_some_iff.mp b).1, a, ?_⟩
    rw [d]
    exact hl _ (List.mem_of_getElem? b)
  have key : ∀ {a b : Nat}, a < b → a ≠ b := fun h => Nat.ne_of_lt h
  refine ⟨Nat.ne_of_lt (by show h.objs.size + ls.length < _; omega), Nat.ne_of_lt (by show h.objs.size + ls.length + 1 < _; omega), Nat.ne_of_lt (by show h.objs.size + ls.length < _; omega), fun c hc => ?_, fun i j c d hc hd e => ?_, fun c hc => ?_⟩
  · obtain ⟨i, hi, e, _⟩ := at_ c hc
    rw [e]
    exact ⟨Nat.ne_of_lt (by show h.objs.size + i < _; omega), Nat.ne_of_lt (by show h.objs.size + i < _; omega), Nat.ne_of_lt (by show h.objs.size + i < _; omega)⟩
  · rw [(made_get hc).1, (made_get hd).1]
    intro q
    exact e (Nat.add_left_cancel q)
  · obtain ⟨i, hi, e, hlt⟩ := at_ c hc
    refine ⟨Nat.ne_of_lt (Nat.lt_of_lt_of_le hlt (by show _ ≤ h.objs.size + ls.length + 2; omega)), Nat.ne_of_lt (Nat.lt_of_lt_of_le hlt (by show _ ≤ h.objs.size + ls.length + 1; omega)), fun d hd => ?_⟩
    obtain ⟨j, hj, e2, _⟩ := at_ d hd
    rw [e2]
    exact Nat.ne_of_lt (Nat.lt_of_lt_of_le hlt (Nat.le_add_right _ _))
end
end ZN
/-! DLv: zip in loops and comprehensions. -/
namespace ZN
open PySem PySem.Spec PyProof.Rows L2
def SqK (K : PySem.W.Frag) (H : Hp) (b : Bool) (a : Addr) (xs : List V) : Prop := match b with
  | true => SqL K H a xs
  | false => SqT K H a xs
def SrcI (h : Heap) (i : Nat) (b : Bool) (it l : Addr) : Prop := match b with
  | true => h.IsListIter it l i
  | false => h.IsTupleIter it l i
def Shp (b : Bool) (h : Heap) (a : Addr) (xs : Array Value) : Prop := match b with
  | true => h.IsList a xs
  | false => h.IsTuple a xs
theorem paired_of {α β : Type} {R : α → β → Prop} : ∀ {xs : List α} {us : List β}, xs.length = us.length → (∀ (j : Nat) (x : α) (u : β), xs[j]? = some x → us[j]? = some u → R x u) → Paired R xs us
  | [], [], _, _ => .nil
  | [], _ :: _, h, _ => by simp at h
  | _ :: _, [], h, _ => by simp at h
  | x :: xs, u :: us, h, p => .cons (p 0 x u rfl rfl) (paired_of (by simpa using h) fun j y v h1 h2 => p (j + 1) y v h1 h2)
theorem list_of {α : Type} {P : Nat → α → Prop} : ∀ n : Nat, (∀ j, j < n → ∃ a, P j a) → ∃ l : List α, l.length = n ∧ ∀ (j : Nat) (a : α), l[j]? = some a → P j a
  | 0, _ => ⟨[], rfl, fun j a h => by simp at h⟩
  | n + 1, h => by
    obtain ⟨l, hl, p⟩ := list_of n fun j hj => h j (by omega)
    obtain ⟨a, ha⟩ := h n (by omega)
    refine ⟨l ++ [a], by simp [hl], fun j b hb => ?_⟩
    by_cases e : j < n
    · rw [List.getElem?_append_left (by omega)] at hb
      exact p j b hb
    · rw [List.getElem?_append_right (by omega), hl] at hb
      have e2 : j - n = 0 := by
        cases hjn : j - n with
        | zero => rfl
        | succ k => rw [hjn] at hb; simp at hb
      rw [e2] at hb
      cases hb
      rw [show j = n by omega]
      exact ha
/-- the lists and tuples as they stand at each turn, their items in a new tuple -/
def ItzN (K : PySem.W.Frag) (ks : List (Bool × Addr)) : It :=
  ⟨fun i H => ∀ (j : Nat) (q : Bool × Addr), ks[j]? = some q → ∃ xs x, SqK K H q.1 q.2 xs ∧ xs[i]? = some x,
    fun i H v H' => ∃ T vs, v = .ref T ∧ H T = none ∧ H' = upd H T (.tup vs) ∧ vs.length = ks.length ∧ ∀ (j : Nat) (q : Bool × Addr) (xs : List V), ks[j]? = some q → SqK K H q.1 q.2 xs → ∃ x, xs[i]? = some x ∧ vs[j]? = some x,
    fun i H => (∀ (j : Nat) (q : Bool × Addr), ks[j]? = some q → ∃ xs, SqK K H q.1 q.2 xs) ∧ ∃ (j : Nat) (q : Bool × Addr) (xs : List V), ks[j]? = some q ∧ SqK K H q.1 q.2 xs ∧ xs.length ≤ i⟩
section
variable {X : Cx} {pins : List (Addr × Obj)} {σ : L2.St} {H : Hp} {s : Shared}
theorem seq_at {b : Bool} {a : Addr} {xs : List V} (I : Inv X pins σ H s) (h : SqK X.K H b a xs) : ∃ its : List Value, Vals xs its ∧ Shp b s.heap a its.toArray := by
  cases b with
  | true =>
    obtain ⟨its, rv, p, _⟩ := I.list h
    exact ⟨its, rv, p.isList⟩
  | false =>
    obtain ⟨its, rv, p, _⟩ := I.tuple h
    exact ⟨its, rv, p⟩
theorem seq_inj {b : Bool} {a : Addr} {xs ys : List V} (I : Inv X pins σ H s) (h : SqK X.K H b a xs) (h' : SqK X.K H b a ys) : xs = ys := by
  cases b with
  | true => exact I.list_inj h h'
  | false => exact I.tuple_inj h h'
/-- the sources as they stand now -/
theorem srcs_at {ks : List (Bool × Addr)} {its : List Addr} {k : Nat} (I : Inv X pins σ H s) (hl : its.length = ks.length) (hi : ∀ (j : Nat) (q : Bool × Addr) (it : Addr), ks[j]? = some q → its[j]? = some it → SrcI s.heap k q.1 it q.2)
    (hq : ∀ (j : Nat) (q : Bool × Addr), ks[j]? = some q → ∃ xs, SqK X.K H q.1 q.2 xs) :
    ∃ cs : List Zs, cs.length = ks.length ∧ ∀ (j : Nat) (c : Zs), cs[j]? = some c → ∃ q xs us, ks[j]? = some q ∧ its[j]? = some c.it ∧ c.l = q.2 ∧ SqK X.K H q.1 q.2 xs ∧ Vals xs us ∧ c.xs = us.toArray ∧ Src s.heap k c := by
  refine list_of ks.length fun j hj => ?_
  have e1 := List.getElem?_eq_getElem hj
  have e2 := List.getElem?_eq_getElem (show j < its.length by omega)
  generalize ks[j] = q at e1
  generalize its[j]'(show j < its.length by omega) = it at e2
  obtain ⟨xs, hx⟩ := hq j q e1
  obtain ⟨us, rv, hs⟩ := seq_at I hx
  have hsi := hi j q it e1 e2
  obtain ⟨b, a⟩ := q
  refine ⟨⟨it, a, us.toArray⟩, (b, a), xs, us, e1, e2, rfl, hx, rv, rfl, ?_⟩
  cases b with
  | true => exact .inl ⟨hsi, hs⟩
  | false => exact .inr ⟨hsi, hs⟩
theorem refs_of {cs : List Zs} {its : List Addr} (hl : cs.length = its.length) (h : ∀ (j : Nat) (c : Zs), cs[j]? = some c → its[j]? = some c.it) : refsOf cs = its.map Value.ref := by
  unfold refsOf
  refine List.ext_getElem? fun j => ?_
  rw [List.getElem?_map, List.getElem?_map]
  cases hc : cs[j]? with
  | none =>
    rw [List.getElem?_eq_none_iff] at hc
    rw [List.getElem?_eq_none_iff.mpr (by omega)]
    rfl
  | some c =>
    rw [h j c hc]
    rfl
/-- where a zip's own things lie -/
structure Ap (z TI TO : Addr) (its : List Addr) (ks : List (Bool × Addr)) : Prop where
  tz : TI ≠ z
  oz : TO ≠ z
  to : TI ≠ TO
  i : ∀ a ∈ its, a ≠ z ∧ a ≠ TI ∧ a ≠ TO
  nd : ∀ (i j : Nat) (a b : Addr), its[i]? = some a → its[j]? = some b → i ≠ j → a ≠ b
  l : ∀ q ∈ ks, q.2 ≠ z ∧ q.2 ≠ TO ∧ ∀ a ∈ its, q.2 ≠ a
theorem Ap.to' {z TI TO : Addr} {its : List Addr} {ks : List (Bool × Addr)} {cs : List Zs} (D : Ap z TI TO its ks) (h : ∀ (j : Nat) (c : Zs), cs[j]? = some c → its[j]? = some c.it ∧ ∃ q, ks[j]? = some q ∧ c.l = q.2) : Apart z TI TO cs := by
  have hm : ∀ c ∈ cs, c.it ∈ its ∧ ∃ q ∈ ks, c.l = q.2 := fun c hc => by
    obtain ⟨j, hj⟩ := List.mem_iff_getElem?.mp hc
    obtain ⟨a, q, b, d⟩ := h j c hj
    exact ⟨List.mem_of_getElem? a, q, List.mem_of_getElem? b, d⟩
  refine ⟨D.tz, D.oz, D.to, fun c hc => D.i _ (hm c hc).1, fun i j c d hc hd e => D.nd i j _ _ (h i c hc).1 (h j d hd).1 e, fun c hc => ?_⟩
  obtain ⟨_, q, hq, e⟩ := hm c hc
  rw [e]
  exact ⟨(D.l q hq).1, (D.l q hq).2.1, fun d hd => (D.l q hq).2.2 _ (hm d hd).1⟩
theorem turn_zs {P : Program} {w : World} {K : PySem.W.Frag} {elts : List Expr} {kk : Nat} {tpos : Pos} {z TI TO : Addr} {its : List Addr} {ks : List (Bool × Addr)} (D : Ap z TI TO its ks) (hl : its.length = ks.length) (hne : ks ≠ []) (hn : ks.length ≤ 100) :
    Turn P w K (.Tuple elts kk tpos) (ItzN K ks) (z :: TI :: TO :: its) z (fun i h => IsZip h z TI TO .none ∧ IsT h TI (its.map Value.ref) ∧ (∃ ts, ts.length = ks.length ∧ IsT h TO ts) ∧ ∀ (j : Nat) (q : Bool × Addr) (it : Addr), ks[j]? = some q → its[j]? = some it → SrcI h i q.1 it q.2) where
  mem := by simp
  obj := fun i h st c hc => by
    obtain ⟨hz, hTI, ⟨ts, _, hTO⟩, hi⟩ := st
    rcases List.mem_cons.mp hc with q | hc
    · rw [q]; exact ⟨_, hz, fun v q => nomatch q⟩
    rcases List.mem_cons.mp hc with q | hc
    · rw [q]; exact ⟨_, hTI, fun v q => nomatch q⟩
    rcases List.mem_cons.mp hc with q | hc
    · rw [q]; exact ⟨_, hTO, fun v q => nomatch q⟩
    obtain ⟨j, hj⟩ := List.mem_iff_getElem?.mp hc
    have hjl : j < ks.length := by
      have := (List.getElem?_eq_some_iff.mp hj).1
      omega
    have q := hi j _ c (List.getElem?_eq_getElem hjl) hj
    generalize ks[j] = kq at q
    obtain ⟨b, a⟩ := kq
    cases b with
    | true => obtain ⟨o, e, _, d⟩ := q; exact ⟨o, e, fun v q => by rw [d] at q; cases q⟩
    | false => obtain ⟨o, e, _, d⟩ := q; exact ⟨o, e, fun v q => by rw [d] at q; cases q⟩
  keep := fun i h h' st k => by
    obtain ⟨hz, hTI, ⟨ts, ht, hTO⟩, hi⟩ := st
    refine ⟨k z (by simp) _ hz, k TI (by simp) _ hTI, ⟨ts, ht, k TO (by simp) _ hTO⟩, fun j q it h1 h2 => ?_⟩
    have r := hi j q it h1 h2
    have hm : it ∈ z :: TI :: TO :: its := by simp [List.mem_of_getElem? h2]
    obtain ⟨b, a⟩ := q
    cases b with
    | true => obtain ⟨o, e, d⟩ := r; exact ⟨o, k it hm _ e, d⟩
    | false => obtain ⟨o, e, d⟩ := r; exact ⟨o, k it hm _ e, d⟩
  item := by
    intro X hP hw hK hc i pins s σ H E I hf st hg
    subst hP hw hK
    obtain ⟨hz, hTI, ⟨ts, ht, hTO⟩, hi⟩ := st
    obtain ⟨cs, hcl, hcs⟩ := srcs_at I hl hi fun j q h => by
      obtain ⟨xs, x, a, _⟩ := hg j q h
      exact ⟨xs, a⟩
    have hcit : ∀ (j : Nat) (c : Zs), cs[j]? = some c → its[j]? = some c.it := fun j c h => by
      obtain ⟨q, xs, us, a, b, _⟩ := hcs j c h
      exact b
    have er := refs_of (hcl.trans hl.symm) hcit
    have DA : Apart z TI TO cs := D.to' fun j c h => by
      obtain ⟨q, xs, us, a, b, e, _⟩ := hcs j c h
      exact ⟨b, q, a, e⟩
    rw [← er] at hTI
    have cne : cs ≠ [] := fun e => by
      rw [e] at hcl
      exact hne (List.length_eq_zero_iff.mp hcl.symm)
    have hzl : z < s.heap.objs.size := Heap.lt_size hz
    have cmem : ∀ c ∈ cs, ∃ (j : Nat), cs[j]? = some c := fun c h => List.mem_iff_getElem?.mp h
    refine pyNext_zs (k := i) (I.ok.hd hc) DA cne (by omega) hz hTI hTO (ht.trans hcl.symm) (fun c h => ?_) (fun vs h' hvl hv z' TO' sr hT stays => ?_) (fun c h hx => ?_)
    · obtain ⟨j, hj⟩ := cmem c h
      obtain ⟨q, xs, us, _, _, _, _, _, _, z⟩ := hcs j c hj
      exact z
    · refine ⟨_, rfl, wpAny_letOwnedTupleGo_zip (s := { s with heap := h' }) z' fun h'' z'' sb => ?_⟩
      have hT2 : IsT h'' s.heap.objs.size vs := (sb.2 _ (Nat.ne_of_gt hzl)).trans hT
      obtain ⟨ws, hwl, hws⟩ : ∃ ws : List V, ws.length = ks.length ∧ ∀ (j : Nat) (x : V), ws[j]? = some x → ∃ q xs u, ks[j]? = some q ∧ SqK X.K H q.1 q.2 xs ∧ xs[i]? = some x ∧ vs[j]? = some u ∧ RelV x u := by
        refine list_of ks.length fun j hj => ?_
        have e3 := List.getElem?_eq_getElem (show j < cs.length by omega)
        obtain ⟨q, xs, us, a, _, _, sq, rv, ex, _⟩ := hcs j _ e3
        obtain ⟨xs2, x, sq2, hx⟩ := hg j q a
        rw [seq_inj I sq2 sq] at hx
        obtain ⟨u, hu, ru⟩ := rv.get hx
        refine ⟨x, q, xs, u, a, sq, hx, ?_, ru⟩
        rw [← hv j _ e3, ex]
        simpa using hu
      have rws : Vals ws vs := paired_of (by omega) fun j x u h1 h2 => by
        obtain ⟨q, xs, u', _, _, _, hu, ru⟩ := hws j x h1
        rw [h2] at hu
        cases hu
        exact ru
      have new : ObjOk X.prog X.w (upd H s.heap.objs.size (.tup ws)) h'' s.heap.objs.size (.tup ws) :=
        ⟨by rw [hwl, sizeLine_eq]; omega, vs, rws, ⟨_, hT2, rfl, _, rfl⟩⟩
      have hmz : ∀ a, a ∉ z :: TI :: TO :: its → a ≠ z ∧ a ≠ TI ∧ a ≠ TO ∧ ∀ c ∈ cs, a ≠ c.it := fun a ha => by
        simp only [List.mem_cons, not_or] at ha
        refine ⟨ha.1, ha.2.1, ha.2.2.1, fun c hc e => ?_⟩
        obtain ⟨j, hj⟩ := cmem c hc
        exact ha.2.2.2 (e ▸ List.mem_of_getElem? (hcit j c hj))
      have I1 : Inv X pins σ (upd H s.heap.objs.size (.tup ws)) { s with heap := h'' } :=
        I.turnedNew (t' := s.toks) (ch := z :: TI :: TO :: its) (fun a o hb q => by
          obtain ⟨b1, b2, b3, b4⟩ := hmz a hb
          exact (sb.2 a b1).trans (stays a o b1 b3 b4 q)) hf (Nat.le_refl _) new
      refine ⟨.ref s.heap.objs.size, _, I1, rfl, ⟨_, ws, rfl, I.hok.fresh (Nat.le_refl _), rfl, hwl, fun j q xs h1 h2 => ?_⟩, ⟨z'', ?_, ⟨vs, by omega, ?_⟩, fun j q it h1 h2 => ?_⟩, fun c hcm => ?_⟩
      · have e3 := List.getElem?_eq_getElem (show j < ws.length by have := (List.getElem?_eq_some_iff.mp h1).1; omega)
        obtain ⟨q2, xs2, u, a, b, d, _, _⟩ := hws j _ e3
        rw [h1] at a
        cases a
        rw [seq_inj I h2 b]
        exact ⟨_, d, e3⟩
      · rw [← er]
        exact (sb.2 _ D.tz).trans (stays _ _ D.tz D.to (fun c hc => (DA.i c hc).2.1.symm) hTI)
      · exact (sb.2 _ D.oz).trans TO'
      · have hjl : j < cs.length := by have := (List.getElem?_eq_some_iff.mp h1).1; omega
        have e3 := List.getElem?_eq_getElem hjl
        have hci := hcit j _ e3
        rw [h2] at hci
        cases hci
        have e4 := sr _ (List.mem_of_getElem? e3)
        obtain ⟨q2, xs2, us2, a1, a2, a3, a4, a5, a6, a7⟩ := hcs j _ e3
        rw [h1] at a1
        cases a1
        have ni := (DA.i _ (List.mem_of_getElem? e3)).1
        obtain ⟨b, l⟩ := q
        have hri := hi j (b, l) _ h1 h2
        cases b with
        | true =>
          rcases e4 with ⟨x1, x2⟩ | ⟨x1, x2⟩
          · rw [a3] at x1
            exact x1.at fun o q => (sb.2 _ ni).trans q
          · exfalso
            obtain ⟨its', _, p, _⟩ := I.list (show SqL X.K H l xs2 from a4)
            obtain ⟨o1, y1, y2, _⟩ := p.isList
            obtain ⟨o2, y3, y4, _⟩ := x2
            rw [a3] at y3
            have hle := DA.l _ (List.mem_of_getElem? e3)
            rw [a3] at hle
            rw [stays _ _ hle.1 hle.2.1 hle.2.2 y1] at y3
            cases y3
            rw [y2] at y4
            exact absurd y4 (by simp)
        | false =>
          rcases e4 with ⟨x1, x2⟩ | ⟨x1, x2⟩
          · exfalso
            obtain ⟨its', _, p, _⟩ := I.tuple (show SqT X.K H l xs2 from a4)
            obtain ⟨o1, y1, y2, _⟩ := p
            obtain ⟨o2, y3, y4, _⟩ := x2
            rw [a3] at y3
            have hle := DA.l _ (List.mem_of_getElem? e3)
            rw [a3] at hle
            rw [stays _ _ hle.1 hle.2.1 hle.2.2 y1] at y3
            cases y3
            rw [y2] at y4
            exact absurd y4 (by simp)
          · rw [a3] at x1
            exact x1.at fun o q => (sb.2 _ ni).trans q
      · have hlt : c < s.heap.objs.size := by
          rcases List.mem_cons.mp hcm with q | hc
          · rw [q]; exact hzl
          rcases List.mem_cons.mp hc with q | hc
          · rw [q]; exact Heap.lt_size hTI
          rcases List.mem_cons.mp hc with q | hc
          · rw [q]; exact Heap.lt_size hTO
          obtain ⟨j, hj⟩ := List.mem_iff_getElem?.mp hc
          have hjl : j < ks.length := by have := (List.getElem?_eq_some_iff.mp hj).1; omega
          have q := hi j _ c (List.getElem?_eq_getElem hjl) hj
          generalize ks[j] = kq at q
          obtain ⟨b, a⟩ := kq
          cases b with
          | true => obtain ⟨o, e, _⟩ := q; exact Heap.lt_size e
          | false => obtain ⟨o, e, _⟩ := q; exact Heap.lt_size e
        rw [upd_ne (Nat.ne_of_lt hlt)]
        exact (hf c hcm).1
    · exfalso
      obtain ⟨j, hj⟩ := cmem c h
      obtain ⟨q, xs, us, a, _, _, sq, rv, ex, _⟩ := hcs j c hj
      obtain ⟨xs2, x, sq2, hx2⟩ := hg j q a
      rw [seq_inj I sq2 sq] at hx2
      obtain ⟨u, hu, ru⟩ := rv.get hx2
      rw [ex] at hx
      simp only [List.getElem?_toArray] at hx
      rw [hu] at hx
      cases hx
  done := by
    intro X hP hw hK hc i pins s σ H E I hf st hg
    subst hP hw hK
    obtain ⟨hz, hTI, ⟨ts, ht, hTO⟩, hi⟩ := st
    obtain ⟨hall, j0, q0, xs0, hj0, sq0, hle0⟩ := hg
    obtain ⟨cs, hcl, hcs⟩ := srcs_at I hl hi hall
    have hcit : ∀ (j : Nat) (c : Zs), cs[j]? = some c → its[j]? = some c.it := fun j c h => by
      obtain ⟨q, xs, us, a, b, _⟩ := hcs j c h
      exact b
    have er := refs_of (hcl.trans hl.symm) hcit
    have DA : Apart z TI TO cs := D.to' fun j c h => by
      obtain ⟨q, xs, us, a, b, e, _⟩ := hcs j c h
      exact ⟨b, q, a, e⟩
    rw [← er] at hTI
    have cne : cs ≠ [] := fun e => by
      rw [e] at hcl
      exact hne (List.length_eq_zero_iff.mp hcl.symm)
    have cmem : ∀ c ∈ cs, ∃ (j : Nat), cs[j]? = some c := fun c h => List.mem_iff_getElem?.mp h
    refine pyNext_zs (k := i) (I.ok.hd hc) DA cne (by omega) hz hTI hTO (ht.trans hcl.symm) (fun c h => ?_) (fun vs h' hvl hv z' TO' sr hT stays => ?_) (fun c h hx h' stays => ⟨rfl, ?_⟩)
    · obtain ⟨j, hj⟩ := cmem c h
      obtain ⟨q, xs, us, _, _, _, _, _, _, z⟩ := hcs j c hj
      exact z
    · exfalso
      have hjl : j0 < cs.length := by have := (List.getElem?_eq_some_iff.mp hj0).1; omega
      have e3 := List.getElem?_eq_getElem hjl
      obtain ⟨q2, xs2, us2, a1, a2, a3, a4, a5, a6, a7⟩ := hcs j0 _ e3
      rw [hj0] at a1
      cases a1
      have hlen := a5.length
      rw [seq_inj I a4 sq0] at hlen
      have e5 := hv j0 _ e3
      rw [a6, List.getElem?_toArray, List.getElem?_eq_none_iff.mpr (by omega), List.getElem?_eq_getElem (show j0 < vs.length by omega)] at e5
      cases e5
    · refine I.turnedL (t' := s.toks) (ch := z :: TI :: TO :: its) (fun a o ha q => ?_) hf
      simp only [List.mem_cons, not_or] at ha
      refine stays a o ha.1 ha.2.2.1 (fun c hc e => ?_) q
      obtain ⟨j, hj⟩ := cmem c hc
      exact ha.2.2.2 (e ▸ List.mem_of_getElem? (hcit j c hj))
  self := fun A i s Q E st h => wpAny_pyIter_zip st.1 h
def iZipN (K : PySem.W.Frag) (ta : TA) : TI := fun σ H R => ta σ H fun vs H1 => ∃ ks : List (Bool × Addr), vs = ks.map (fun q => V.ref q.2) ∧ (ks.length = 2 ∨ ks.length = 3) ∧ (∀ q ∈ ks, ∃ xs, SqK K H1 q.1 q.2 xs) ∧ R (ItzN K ks) H1
theorem vals_refs : ∀ {ks : List (Bool × Addr)} {us : List Value}, Vals (ks.map (fun q => V.ref q.2)) us → us = ks.map fun q => Value.ref q.2
  | [], _, .nil => rfl
  | q :: ks, _, .cons r t => by
    cases r
    rw [vals_refs t]
    rfl
theorem few_of : ∀ {us : List Value}, us.length = 2 ∨ us.length = 3 → Few us
  | [a, b], _ => few2 a b
  | [a, b, c], _ => few3 a b c
  | [], h => by simp at h
  | [a], h => by simp at h
  | _ :: _ :: _ :: _ :: _, h => by simp at h
theorem pi_zipN {X : Cx} {e : Expr} {es : List Expr} {ta : TA} {p pos tpos : Pos} {elts : List Expr} {kk : Nat} (hg : Gl X "zip") (hm : X.mg "zip" = none) (ha : PA X (e :: es) ta)
    (hs : starEach (e :: es) X.env = (false, eval e X.env) :: starEach es X.env := by rfl) (hpl : (backTo pos (starEach es X.env)).any (·.1) = false := by rfl) :
    PI X (.Tuple elts kk tpos) (.Call (.Name "zip" p) (e :: es) [] pos) (iZipN X.K ta) := by
  refine ⟨fun pins s σ H R I h => ?_⟩
  refine Call_ (ld_blt I hg hm PyProof.Rows.boot_zip (PyProof.Rows.callWith_type1 (thn (ha.run pos pins s σ H _ I h) fun us s1 ⟨vs, H1, I1, r1, q1⟩ => ?_) hs hpl))
  obtain ⟨ks, ex, hks, hsq, q1⟩ := q1
  subst ex
  have eu := vals_refs r1
  subst eu
  obtain ⟨ls, hll, hls⟩ : ∃ ls : List (Addr × Array Value), ls.length = ks.length ∧ ∀ (j : Nat) (l : Addr × Array Value), ls[j]? = some l → ∃ q, ks[j]? = some q ∧ l.1 = q.2 ∧ Shp q.1 s1.heap l.1 l.2 := by
    refine list_of ks.length fun j hj => ?_
    have e1 := List.getElem?_eq_getElem hj
    generalize ks[j] = q at e1
    obtain ⟨xs, hx⟩ := hsq q (List.mem_of_getElem? e1)
    obtain ⟨us, rv, hs⟩ := seq_at I1 hx
    obtain ⟨b, a⟩ := q
    exact ⟨(a, us.toArray), (b, a), e1, rfl, hs⟩
  have em : (ks.map fun q => Value.ref q.2) = ls.map fun q => Value.ref q.1 := List.ext_getElem? fun j => by
    rw [List.getElem?_map, List.getElem?_map]
    cases hc : ls[j]? with
    | none =>
      rw [List.getElem?_eq_none_iff] at hc
      rw [List.getElem?_eq_none_iff.mpr (by omega)]
      rfl
    | some c =>
      obtain ⟨q, a, b, _⟩ := hls j c hc
      rw [a]
      show some (Value.ref q.2) = some (Value.ref c.1)
      rw [b]
  have lt : ∀ l ∈ ls, l.1 < s1.heap.objs.size := fun l hl => by
    obtain ⟨j, hj⟩ := List.mem_iff_getElem?.mp hl
    obtain ⟨⟨b, a⟩, _, _, d⟩ := hls j l hj
    cases b with
    | true => obtain ⟨o, e, _⟩ := d; exact Heap.lt_size e
    | false => obtain ⟨o, e, _⟩ := d; exact Heap.lt_size e
  rw [em]
  refine call_zs (few_of (by rw [List.length_map, hll]; exact hks)) (by omega) (fun l hl => ?_) fun h' cs ecs hz hTI hTO hsr hk => wpAny_pyIter_zip hz ?_
  · obtain ⟨j, hj⟩ := List.mem_iff_getElem?.mp hl
    obtain ⟨⟨b, a⟩, _, _, d⟩ := hls j l hj
    cases b with
    | true => exact .inl d
    | false => exact .inr d
  have I2 : L2.Inv X pins σ H1 { s1 with heap := h' } := I1.kept (t' := s1.toks) hk
  have hcl : cs.length = ks.length := by rw [ecs, made_len, hll]
  have AP := made_apart (h := s1.heap) lt
  rw [← ecs] at AP
  have er : refsOf cs = (cs.map (·.it)).map Value.ref := by
    unfold refsOf
    rw [List.map_map]
    rfl
  have hat : ∀ (j : Nat) (c : Zs), cs[j]? = some c → c.it = s1.heap.objs.size + j ∧ ∃ q, ks[j]? = some q ∧ c.l = q.2 ∧ Shp q.1 s1.heap c.l c.xs := fun j c hc => by
    rw [ecs] at hc
    obtain ⟨a, l, b, d, f⟩ := made_get hc
    obtain ⟨q, x1, x2, x3⟩ := hls j l b
    refine ⟨a, q, x1, d.trans x2, ?_⟩
    rw [d, f]
    exact x3
  have APk : Ap (s1.heap.objs.size + ls.length + 2) (s1.heap.objs.size + ls.length) (s1.heap.objs.size + ls.length + 1) (cs.map (·.it)) ks := by
    refine ⟨AP.tz, AP.oz, AP.to, fun a ha => ?_, fun i j a b h1 h2 e => ?_, fun q hq => ?_⟩
    · obtain ⟨c, hc, rfl⟩ := List.mem_map.mp ha
      exact AP.i c hc
    · rw [List.getElem?_map, Option.map_eq_some_iff] at h1 h2
      obtain ⟨c, hc, rfl⟩ := h1
      obtain ⟨d, hd, rfl⟩ := h2
      exact AP.nd i j c d hc hd e
    · obtain ⟨j, hj⟩ := List.mem_iff_getElem?.mp hq
      have e3 := List.getElem?_eq_getElem (show j < cs.length by have := (List.getElem?_eq_some_iff.mp hj).1; omega)
      obtain ⟨_, q2, a, b, _⟩ := hat j _ e3
      rw [hj] at a
      cases a
      have r := AP.l _ (List.mem_of_getElem? e3)
      rw [b] at r
      refine ⟨r.1, r.2.1, fun a ha => ?_⟩
      obtain ⟨c, hc, rfl⟩ := List.mem_map.mp ha
      exact r.2.2 c hc
  have kne : ks ≠ [] := fun e => by
    rw [e] at hks
    simp at hks
  refine ⟨s1.heap.objs.size + ls.length + 2, (s1.heap.objs.size + ls.length + 2) :: (s1.heap.objs.size + ls.length) :: (s1.heap.objs.size + ls.length + 1) :: cs.map (·.it), _, _, H1, rfl, I2,
    turn_zs APk (by rw [List.length_map, hcl]) kne (by omega), ⟨hz, by rw [← er]; exact hTI, ⟨_, by rw [List.length_map, hcl], hTO⟩, fun j q it h1 h2 => ?_⟩, fun c hc => ?_, q1⟩
  · rw [List.getElem?_map, Option.map_eq_some_iff] at h2
    obtain ⟨c, hc, rfl⟩ := h2
    have sr := hsr c (List.mem_of_getElem? hc)
    obtain ⟨_, q2, a, b, d⟩ := hat j c hc
    rw [h1] at a
    cases a
    obtain ⟨kb, l⟩ := q
    cases kb with
    | true =>
      rcases sr with ⟨x1, x2⟩ | ⟨x1, x2⟩
      · rw [b] at x1
        exact x1
      · exfalso
        obtain ⟨o1, y1, y2, _⟩ := d
        obtain ⟨o2, y3, y4, _⟩ := x2
        rw [hk _ _ y1] at y3
        cases y3
        rw [y2] at y4
        exact absurd y4 (by simp)
    | false =>
      rcases sr with ⟨x1, x2⟩ | ⟨x1, x2⟩
      · exfalso
        obtain ⟨o1, y1, y2, _⟩ := d
        obtain ⟨o2, y3, y4, _⟩ := x2
        rw [hk _ _ y1] at y3
        cases y3
        rw [y2] at y4
        exact absurd y4 (by simp)
      · rw [b] at x1
        exact x1
  · have hle : s1.heap.objs.size ≤ c := by
      rcases List.mem_cons.mp hc with z | hc
      · rw [z]; exact Nat.le_trans (Nat.le_add_right _ _) (Nat.le_add_right _ _)
      rcases List.mem_cons.mp hc with z | hc
      · rw [z]; exact Nat.le_add_right _ _
      rcases List.mem_cons.mp hc with z | hc
      · rw [z]; exact Nat.le_trans (Nat.le_add_right _ _) (Nat.le_add_right _ _)
      obtain ⟨c', hc', rfl⟩ := List.mem_map.mp hc
      obtain ⟨j, hj⟩ := List.mem_iff_getElem?.mp hc'
      rw [(hat j c' hj).1]
      exact Nat.le_add_right _ _
    exact I1.fpOk hle (I1.hok.fresh hle)
end
end ZN
/-! DLw: zip, extend, sorted ints, a, b = a list, comprehensions over i, (j, k). -/
namespace DL
open PySem PySem.Spec PyProof.Rows L2
/-! ### extend -/
/-! ### sorted -/
/-! ### a, b = a list -/
/-! ### zip -/
def zipK : Kd → Option Bool
  | .lst => some true
  | .tup => some false
  | _ => none
/-- what a zip tells: rows as long as there are things in all -/
def rowsD (yss : List (List D)) (i : Nat) : List D := yss.filterMap (·[i]?)
def zipD (yss : List (List D)) (n : Nat) : List D := (List.range n).map fun i => .node .tup (rowsD yss i)
def zQ (QI : List D → (Kap → Prop) → Kap → Prop) (xs : List D) (κ : Kap) : Prop := (xs.length = 2 ∨ xs.length = 3) ∧ ∃ (ks : List (Kd × Bool)) (yss : List (List D)) (n : Nat), ks.length = xs.length ∧ yss.length = xs.length ∧
  (∀ (j : Nat) (x : D), xs[j]? = some x → ∃ k b ys, ks[j]? = some (k, b) ∧ zipK k = some b ∧ yss[j]? = some ys ∧ n ≤ ys.length ∧ view x κ = some (k, ys)) ∧ (∃ ys ∈ yss, ys.length = n) ∧
  QI (zipD yss n) (fun κ' => ∀ (j : Nat) (x : D), xs[j]? = some x → view x κ' = view x κ) κ
def iZipD (as : DA) : DI := fun δ κ X QI => as δ κ X (zQ QI)
theorem rows_get : ∀ {yss : List (List D)} {i : Nat}, (∀ ys ∈ yss, i < ys.length) → (rowsD yss i).length = yss.length ∧ ∀ (j : Nat) (ys : List D), yss[j]? = some ys → ∃ y, ys[i]? = some y ∧ (rowsD yss i)[j]? = some y
  | [], _, _ => ⟨rfl, fun j ys h => by simp at h⟩
  | zs :: yss, i, h => by
    have hz := h zs List.mem_cons_self
    obtain ⟨ih1, ih2⟩ := rows_get (yss := yss) (i := i) fun ys hy => h ys (List.mem_cons_of_mem _ hy)
    have e : rowsD (zs :: yss) i = zs[i] :: rowsD yss i := by
      unfold rowsD
      rw [List.filterMap_cons, List.getElem?_eq_getElem hz]
    rw [e]
    refine ⟨by rw [List.length_cons, List.length_cons, ih1], fun j ys hj => ?_⟩
    cases j with
    | zero =>
      cases hj
      exact ⟨_, List.getElem?_eq_getElem hz, rfl⟩
    | succ j => exact ih2 j ys hj
theorem repL_of {C : Ctx} {F : Hp} {ρ : Loc0} : ∀ {ds : List D} {vs : List V}, ds.length = vs.length → (∀ (j : Nat) (d : D) (v : V), ds[j]? = some d → vs[j]? = some v → Rep C F ρ d v) → RepL C F ρ ds vs
  | [], [], _, _ => .nil
  | [], _ :: _, h, _ => by simp at h
  | _ :: _, [], h, _ => by simp at h
  | d :: ds, v :: vs, h, p => .cons (p 0 d v rfl rfl) (repL_of (by simpa using h) fun j x y h1 h2 => p (j + 1) x y h1 h2)
theorem hold_sq {C : Ctx} {H : Hp} {k : Kd} {b : Bool} {a : Addr} {vs : List V} (hb : zipK k = some b) (h : HoldK C H k a vs) : ZN.SqK C.K H b a vs := by
  cases k <;> first | (cases hb; exact SqL.of h) | (cases hb; exact h) | cases hb
section
variable {X : Cx} {W : WX} {e : Expr} {es : List Expr} {as : DA} {p pos tpos : Pos} {elts : List Expr} {kk : Nat}
theorem pi_zipD (hm : X.mg "zip" = none) (ha : PAD X W (e :: es) as) (hg : Gl X "zip" := by rfl) (hs : starEach (e :: es) X.env = (false, eval e X.env) :: starEach es X.env := by rfl) (hpl : (backTo pos (starEach es X.env)).any (·.1) = false := by rfl) :
    PID X W (.Tuple elts kk tpos) (.Call (.Name "zip" p) (e :: es) [] pos) (iZipD as) :=
  pi_weak (ZN.pi_zipN hg hm ha hs hpl) fun σ H R ⟨F, ρ, κ, δ, XD, QD, S, Rr, h, P, PX⟩ => ⟨F, ρ, κ, δ, XD, _, S, Rr, h, fun F1 ρ1 κ1 H1 xs vs e1 S1 R1 hz => by
    obtain ⟨hxl, kbs, yss, n, hkl, hyl, hall, ⟨y0, hy0, hy0n⟩, hq⟩ := hz
    have hvl := R1.length
    obtain ⟨ks, hksl, hks⟩ : ∃ ks : List (Bool × Addr), ks.length = xs.length ∧ ∀ (j : Nat) (q : Bool × Addr), ks[j]? = some q → vs[j]? = some (.ref q.2) ∧ ∃ x k ys, xs[j]? = some x ∧ zipK k = some q.1 ∧ yss[j]? = some ys ∧ n ≤ ys.length ∧ view x κ1 = some (k, ys) := by
      refine ZN.list_of xs.length fun j hj => ?_
      have e1' := List.getElem?_eq_getElem hj
      generalize xs[j] = x at e1'
      obtain ⟨k, b, ys, a1, a2, a3, a4, a5⟩ := hall j x e1'
      obtain ⟨v, hv, rv⟩ := R1.get e1'
      obtain ⟨a, ws, rfl, hk, rl⟩ := view_at S1 rv a5
      exact ⟨(b, a), hv, x, k, ys, e1', a2, a3, a4, a5⟩
    have ev : vs = ks.map fun q => V.ref q.2 := List.ext_getElem? fun j => by
      rw [List.getElem?_map]
      cases hc : ks[j]? with
      | none =>
        rw [List.getElem?_eq_none_iff] at hc
        rw [List.getElem?_eq_none_iff.mpr (by omega)]
        rfl
      | some q => exact (hks j q hc).1
    have now : ∀ {F' : Hp} {ρ' : Loc0} {κ' : Kap} {H' : Hp}, Ext F1 ρ1 F' ρ' → StR (CtxOf X) F' ρ' κ' H' → (∀ (j : Nat) (x : D), xs[j]? = some x → view x κ' = view x κ1) → ∀ (j : Nat) (q : Bool × Addr), ks[j]? = some q → ∃ ys ws, yss[j]? = some ys ∧ n ≤ ys.length ∧ ZN.SqK X.K H' q.1 q.2 ws ∧ RepL (CtxOf X) F' ρ' ys ws := fun ex St hg j q hj => by
      obtain ⟨b1, x, k, ys, b2, b3, b4, b5, b6⟩ := hks j q hj
      obtain ⟨v, hv, rv⟩ := (R1.ext ex).get b2
      rw [b1] at hv
      cases hv
      obtain ⟨a, ws, ea, hk, rl⟩ := view_at St rv ((hg j x b2).trans b6)
      cases ea
      exact ⟨ys, ws, b4, b5, hold_sq b3 hk, rl⟩
    refine ⟨ks, ev, by rw [hksl]; exact hxl, fun q hq' => ?_, P _ _ _ _ _ _ _ e1 S1 (fun F' ρ' κ' H' i ex St hg => ?_) hq⟩
    · obtain ⟨j, hj⟩ := List.mem_iff_getElem?.mp hq'
      obtain ⟨ys, ws, _, _, a, _⟩ := now (Ext.refl _ _) S1 (fun _ _ _ => rfl) j q hj
      exact ⟨ws, a⟩
    · have hzl : (zipD yss n).length = n := by
        unfold zipD
        rw [List.length_map, List.length_range]
      have big : ∀ ys ∈ yss, n ≤ ys.length := fun ys hy => by
        obtain ⟨j, hj⟩ := List.mem_iff_getElem?.mp hy
        have hjl : j < xs.length := by
          have := (List.getElem?_eq_some_iff.mp hj).1
          omega
        obtain ⟨k, b, ys2, _, _, a3, a4, _⟩ := hall j _ (List.getElem?_eq_getElem hjl)
        rw [hj] at a3
        cases a3
        exact a4
      refine ⟨fun hi => ?_, fun d hd => ?_⟩
      · rw [hzl] at hi
        refine ⟨fun j q hj => ?_, ?_⟩
        · obtain ⟨ys, ws, _, _, a, _⟩ := now ex St hg j q hj
          exact ⟨ws, a⟩
        · obtain ⟨j, hj⟩ := List.mem_iff_getElem?.mp hy0
          have hjl : j < ks.length := by
            have := (List.getElem?_eq_some_iff.mp hj).1
            omega
          have e3 := List.getElem?_eq_getElem hjl
          obtain ⟨ys, ws, a1, _, a2, a3⟩ := now ex St hg j _ e3
          rw [hj] at a1
          cases a1
          exact ⟨j, _, ws, e3, a2, by rw [← a3.length, hy0n, hi]; exact Nat.le_refl _⟩
      · have hin : i < n := by
          have := (List.getElem?_eq_some_iff.mp hd).1
          omega
        have ed : d = .node .tup (rowsD yss i) := by
          unfold zipD at hd
          rw [List.getElem?_map, List.getElem?_range hin] at hd
          cases hd
          rfl
        subst ed
        obtain ⟨r1, r2⟩ := rows_get (yss := yss) (i := i) fun ys hy => Nat.lt_of_lt_of_le hin (big ys hy)
        refine ⟨fun j q hj => ?_, fun x H2 hy => ?_⟩
        · obtain ⟨ys, ws, a1, a2, a3, a4⟩ := now ex St hg j q hj
          obtain ⟨y, hy, _⟩ := r2 j ys a1
          obtain ⟨w, hw, _⟩ := a4.get hy
          exact ⟨ws, w, a3, hw⟩
        · obtain ⟨T, ts, rfl, hT, rfl, htl, hts⟩ := hy
          obtain ⟨ex2, S2⟩ := St.laid (p := T) (o := .tup ts) hT
          refine ⟨_, ex2, S2, .node (k := .tup) (.inl (.inl upd_same)) (repL_of (by rw [r1, htl]; omega) fun j d2 v2 h1 h2 => ?_)⟩
          have hjl : j < ks.length := by
            have := (List.getElem?_eq_some_iff.mp h2).1
            omega
          have e3 := List.getElem?_eq_getElem hjl
          obtain ⟨ys, ws, a1, a2, a3, a4⟩ := now ex St hg j _ e3
          obtain ⟨y, hy, hr⟩ := r2 j ys a1
          rw [h1] at hr
          cases hr
          obtain ⟨w, hw, rw'⟩ := a4.get hy
          obtain ⟨u, hu, hv2⟩ := hts j _ ws e3 a3
          rw [hw] at hu
          cases hu
          rw [h2] at hv2
          cases hv2
          exact rw'.ext ex2, PX⟩
end
/-! ### comprehensions over i, (j, k) -/
end DL
/-! DOa: objects of own classes: made, their fields read and laid, their methods called. -/
namespace DL
open PySem PySem.Spec PyProof.Rows L2
/-! ### classes -/
structure ObC (K : PySem.W.Frag) (mg : Str → Option Value) (c : Str) (C : Addr) : Prop where
  m : mg c = some (.ref C)
  cl : Cls K C
/-! ### fields -/
/-! ### methods -/
/-- the method m of the class c keeps a promise -/
def MeOk (P : Program) (w : World) (K : PySem.W.Frag) (mg : Str → Option Value) (base : Heap) (k : Nat) (c m : Str) (ps : List Str) (sp : DSp) : Prop :=
  ∃ C f fd, ObC K mg c C ∧ Meth K C m f ∧ FnG P w K mg base k f fd ps sp ∧ Binds K fd ps []
theorem MeOk.mono {P : Program} {w : World} {K : PySem.W.Frag} {mg : Str → Option Value} {base : Heap} {j k : Nat} {c m : Str} {ps : List Str} {sp : DSp} (O : MeOk P w K mg base j c m ps sp) (h : j ≤ k) : MeOk P w K mg base k c m ps sp :=
  let ⟨C, f, fd, h1, h2, h3, h4⟩ := O; ⟨C, f, fd, h1, h2, h3.mono h, h4⟩
/-- .. called with n values by place (itself not counted) and the keywords ks -/
def MeC (P : Program) (w : World) (K : PySem.W.Frag) (mg : Str → Option Value) (base : Heap) (k : Nat) (c m : Str) (n : Nat) (ks : List Str) (is : List Nat) (dds : List D) (sp : DSp) : Prop :=
  ∃ C f fd ps, ∃ dvs : List V, ∃ its : List Value, ObC K mg c C ∧ Meth K C m f ∧ FnG P w K mg base k f fd ps sp ∧ KBn K fd ps (n + 1) ks (fun us ws => pick is (us ++ (ws ++ its))) (fun vs zs => pick is (vs ++ (zs ++ dvs))) ∧ ∀ F ρ, RepL ⟨K, mg⟩ F ρ dds dvs
theorem MeC.mono {P : Program} {w : World} {K : PySem.W.Frag} {mg : Str → Option Value} {base : Heap} {j k : Nat} {c m : Str} {n : Nat} {ks : List Str} {is : List Nat} {dds : List D} {sp : DSp} (O : MeC P w K mg base j c m n ks is dds sp) (h : j ≤ k) : MeC P w K mg base k c m n ks is dds sp :=
  let ⟨C, f, fd, ps, dvs, its, h1, h2, h3, h4⟩ := O; ⟨C, f, fd, ps, dvs, its, h1, h2, h3.mono h, h4⟩
/-! ### made -/
def MkOk (P : Program) (w : World) (K : PySem.W.Frag) (mg : Str → Option Value) (base : Heap) (k : Nat) (c : Str) (ps : List Str) (sp : DSp) : Prop :=
  ∃ C f fd, ObC K mg c C ∧ Mk K C f ∧ FnG P w K mg base k f fd ps sp ∧ Binds K fd ps []
theorem MkOk.mono {P : Program} {w : World} {K : PySem.W.Frag} {mg : Str → Option Value} {base : Heap} {j k : Nat} {c : Str} {ps : List Str} {sp : DSp} (O : MkOk P w K mg base j c ps sp) (h : j ≤ k) : MkOk P w K mg base k c ps sp :=
  let ⟨C, f, fd, h1, h2, h3, h4⟩ := O; ⟨C, f, fd, h1, h2, h3.mono h, h4⟩
end DL
/-! DLz: list(zip(..)), at the library's level. -/
namespace ZN
open PySem
/-- a zip whose last tuple lives on -/
abbrev IsZp (h : Heap) (z TI TO : Addr) (f0 f1 : Value) : Prop :=
  h.get? z = some { cls := .type "zip", dict := none, data := .fields #[f0, f1, .bool false, .ref TI, .ref TO], slots := #[] }
end ZN
namespace ZN
open PySem PySem.Spec PyProof.Rows L2
/-- a zip behind i turns; the tuples that it told live on -/
def ZSt (z TI TO : Addr) (its : List Addr) (ks : List (Bool × Addr)) (i : Nat) (h : Heap) : Prop :=
  (IsZp h z TI TO .none (.bool false) ∨ ∃ (a : Addr) (k : Bool) (o : Obj), IsZp h z TI TO (rawInt a) (.bool k) ∧ h.get? a = some o) ∧ IsT h TI (its.map Value.ref) ∧ (∃ ts : List Value, ts.length = ks.length ∧ IsT h TO ts) ∧ ∀ (j : Nat) (q : Bool × Addr) (it : Addr), ks[j]? = some q → its[j]? = some it → SrcI h i q.1 it q.2
theorem ZSt.keep {z TI TO : Addr} {its : List Addr} {ks : List (Bool × Addr)} {i : Nat} {h h' : Heap} (st : ZSt z TI TO its ks i h) (k : ∀ b ∈ z :: TI :: TO :: its, ∀ o, h.get? b = some o → h'.get? b = some o) (al : ∀ b o, h.get? b = some o → ∃ o', h'.get? b = some o') : ZSt z TI TO its ks i h' := by
  obtain ⟨hz, hTI, ⟨ts, ht, hTO⟩, hi⟩ := st
  refine ⟨?_, k TI (by simp) _ hTI, ⟨ts, ht, k TO (by simp) _ hTO⟩, fun j q it h1 h2 => ?_⟩
  · rcases hz with hz | ⟨a, c, o, hz, ha⟩
    · exact .inl (k z (by simp) _ hz)
    · obtain ⟨o', ho⟩ := al _ _ ha
      exact .inr ⟨a, c, o', k z (by simp) _ hz, ho⟩
  · have r := hi j q it h1 h2
    have hm : it ∈ z :: TI :: TO :: its := by simp [List.mem_of_getElem? h2]
    obtain ⟨b, a⟩ := q
    cases b with
    | true => obtain ⟨o, e, d⟩ := r; exact ⟨o, k it hm _ e, d⟩
    | false => obtain ⟨o, e, d⟩ := r; exact ⟨o, k it hm _ e, d⟩
end ZN
/-! DOb: list(x), list(zip(..)), sums, greatest and least, what is done to lists. -/
namespace DL
open PySem PySem.Spec PyProof.Rows L2
/-! ### list(x) -/
def fListOf (m : Bool) : DN := fun xs κ Q => match xs with
  | [d] => ∃ ys, ((∃ k, view d κ = some (k, ys) ∧ (k = .lst ∨ k = .tup ∨ k = .klst))) ∧ fNew m .lst ys κ Q
  | _ => False
theorem sim_listOf {C : Ctx} (m : Bool) : SimN C (fListOf m) (fun xs H Q => ∃ p ys, xs = [.ref p] ∧ (SqL C.K H p ys ∨ SqT C.K H p ys) ∧ ∀ l, H l = none → Q (.ref l) (upd H l (.lst ys))) := by
  intro F ρ κ H xs vs QD Q S r h P
  match xs, h with
  | [d], ⟨ys, ⟨k, h1, h2⟩, h3⟩ =>
    obtain ⟨v, rfl, rv⟩ := repL1 r
    obtain ⟨a, ws, rfl, hk, rl⟩ := view_at S rv h1
    refine ⟨a, ws, rfl, ?_, new_lst S rl h3 P⟩
    rcases h2 with rfl | rfl | rfl
    · exact .inl (SqL.of hk)
    · exact .inr hk
    · exact .inl hk
/-! ### sums, greatest, least -/
/-! ### what is done to a list -/
def dBM0 (T : String) (f : D1) (a : DE) : DE := fun δ κ X Q => a δ κ X fun x κ1 => isSeq T x κ1 ∧ f x κ1 Q
theorem lift_bm0 {K : PySem.W.Frag} {mg : Str → Option Value} {W : WX} {T : String} {f : D1} {r : V → List V → Hp → VK → Prop} {a : DE} (hs : Sim1 ⟨K, mg⟩ f (fun x H Q => r x [] H Q)) {σ : L2.St} {H : Hp} {Q : VK} (h : liftE ⟨K, mg⟩ W (dBM0 T f a) σ H Q) : tBM0 K T r (liftE ⟨K, mg⟩ W a) σ H Q := by
  obtain ⟨F, ρ, κ, δ, XD, QD, S, R, h, P, PX⟩ := h
  exact ⟨F, ρ, κ, δ, XD, _, S, R, h, fun F1 ρ1 κ1 H1 x v e1 S1 R1 ⟨h0, h1⟩ => ⟨isSeq_at S1 R1 h0, hs _ _ _ _ _ _ _ _ S1 R1 h1 (P.ext e1)⟩, PX⟩
def fClear : D1 := fun x κ Q => ∃ n xs, x = .cell n ∧ κ n = some (.live .lst xs) ∧ Q .non (kset κ n (.live .lst []))
theorem sim_clear {C : Ctx} : Sim1 C fClear (fun x H Q => rClear x [] H Q) := by
  intro F ρ κ H x v QD Q S r ⟨n, xs, hx, h1, h2⟩ P
  subst hx
  obtain ⟨a, ws, rfl, h4, h5, h6, h7⟩ := cell_lst S r h1
  exact ⟨a, ws, rfl, rfl, h5, P _ _ _ _ _ _ (Ext.refl _ _) (h7 _ _ .nil) .non h2⟩
def fReverse : D1 := fun x κ Q => ∃ n xs, x = .cell n ∧ κ n = some (.live .lst xs) ∧ Q .non (kset κ n (.live .lst xs.reverse))
theorem sim_reverse {C : Ctx} : Sim1 C fReverse (fun x H Q => rReverse x [] H Q) := by
  intro F ρ κ H x v QD Q S r ⟨n, xs, hx, h1, h2⟩ P
  subst hx
  obtain ⟨a, ws, rfl, h4, h5, h6, h7⟩ := cell_lst S r h1
  exact ⟨a, ws, rfl, rfl, h5, P _ _ _ _ _ _ (Ext.refl _ _) (h7 _ _ (RepL.reverse h6)) .non h2⟩
section
variable {X : Cx} {W : WX} {o e : Expr} {es : List Expr} {a : DE} {as : DA} {apos cpos : Pos}
theorem pd_clear (ho : PED X W o a) (hbase : attributeBase o "clear" X.env (eval o X.env) = eval o X.env := by rfl) (hline : (apos.endLine == cpos.line) = true := by rfl) : PED X W (.Call (.Attribute o "clear" apos) [] [] cpos) (dBM0 "list" fClear a) :=
  pe_weak (pe_bm0 PySem.F.plainAttrs_list PySem.F.slot_list_clear PySem.F.type_list_clear mt_clear ho hbase hline) fun _ _ _ => lift_bm0 sim_clear
theorem pd_reverse (ho : PED X W o a) (hbase : attributeBase o "reverse" X.env (eval o X.env) = eval o X.env := by rfl) (hline : (apos.endLine == cpos.line) = true := by rfl) : PED X W (.Call (.Attribute o "reverse" apos) [] [] cpos) (dBM0 "list" fReverse a) :=
  pe_weak (pe_bm0 PySem.F.plainAttrs_list PySem.F.slot_list_reverse PySem.F.type_list_reverse mt_reverse ho hbase hline) fun _ _ _ => lift_bm0 sim_reverse
end
/-! ### extend, by a list in a cell too -/
/-! ### slices of tuples -/
/-! ### list(zip(..)) -/
/-! ### methods by name -/
end DL
/-! DLy: enumerate(zip(..)) in loops. -/
namespace ZN
open PySem PySem.Spec PyProof.Rows L2
/-- a zip behind i turns, whatever became of the tuple that it told last -/
def ZSo (z TI TO : Addr) (its : List Addr) (ks : List (Bool × Addr)) (i : Nat) (h : Heap) : Prop :=
  (IsZp h z TI TO .none (.bool false) ∨ ∃ (a : Addr) (k : Bool), IsZp h z TI TO (rawInt a) (.bool k)) ∧ IsT h TI (its.map Value.ref) ∧ (∃ ts : List Value, ts.length = ks.length ∧ IsT h TO ts) ∧ ∀ (j : Nat) (q : Bool × Addr) (it : Addr), ks[j]? = some q → its[j]? = some it → SrcI h i q.1 it q.2
theorem ZSo.keep {z TI TO : Addr} {its : List Addr} {ks : List (Bool × Addr)} {i : Nat} {h h' : Heap} (hl : its.length = ks.length) (st : ZSo z TI TO its ks i h) (k : ∀ b ∈ z :: TI :: TO :: its, ∀ o, h.get? b = some o → h'.get? b = some o) : ZSo z TI TO its ks i h' := by
  obtain ⟨hz, hTI, ⟨ts, ht, hTO⟩, hi⟩ := st
  refine ⟨?_, k TI (by simp) _ hTI, ⟨ts, ht, k TO (by simp) _ hTO⟩, fun j q it h1 h2 => ?_⟩
  · rcases hz with hz | ⟨a, c, hz⟩
    · exact .inl (k z (by simp) _ hz)
    · exact .inr ⟨a, c, k z (by simp) _ hz⟩
  · have r := hi j q it h1 h2
    have hm : it ∈ z :: TI :: TO :: its := by simp [List.mem_of_getElem? h2]
    obtain ⟨b, a⟩ := q
    cases b with
    | true => obtain ⟨o, e, d⟩ := r; exact ⟨o, k it hm _ e, d⟩
    | false => obtain ⟨o, e, d⟩ := r; exact ⟨o, k it hm _ e, d⟩
end ZN
namespace ZN
open PySem PySem.Spec PyProof.Rows L2
theorem ZSo.obj {z TI TO : Addr} {its : List Addr} {ks : List (Bool × Addr)} {i : Nat} {h : Heap} (hl : its.length = ks.length) (st : ZSo z TI TO its ks i h) : ∀ b ∈ z :: TI :: TO :: its, ∃ o, h.get? b = some o ∧ ∀ v, o.data ≠ .cell v := by
  intro c hc
  obtain ⟨hz, hTI, ⟨ts, _, hTO⟩, hi⟩ := st
  rcases List.mem_cons.mp hc with q | hc
  · rw [q]
    rcases hz with hz | ⟨_, _, hz⟩ <;> exact ⟨_, hz, fun v q => nomatch q⟩
  rcases List.mem_cons.mp hc with q | hc
  · rw [q]; exact ⟨_, hTI, fun v q => nomatch q⟩
  rcases List.mem_cons.mp hc with q | hc
  · rw [q]; exact ⟨_, hTO, fun v q => nomatch q⟩
  obtain ⟨j, hj⟩ := List.mem_iff_getElem?.mp hc
  have hjl : j < ks.length := by
    have := (List.getElem?_eq_some_iff.mp hj).1
    omega
  have r := hi j _ c (List.getElem?_eq_getElem hjl) hj
  generalize ks[j] = kq at r
  obtain ⟨b, a⟩ := kq
  cases b with
  | true => obtain ⟨o, e, _, d⟩ := r; exact ⟨o, e, fun v q => by rw [d] at q; cases q⟩
  | false => obtain ⟨o, e, _, d⟩ := r; exact ⟨o, e, fun v q => by rw [d] at q; cases q⟩
/-! ### an enumerate over a zip is made -/
end ZN
namespace DL
open PySem PySem.Spec PyProof.Rows L2
end DL
/-! DOc: comprehensions of several clauses that are stored. -/
namespace DL
open PySem PySem.Spec PyProof.Rows L2
end DL
namespace DL
open PySem PySem.Spec PyProof.Rows L2
/-! ### d.get(k, x) -/
end DL
/-! DP: plain steps over data. -/
namespace DL
open PySem PySem.Spec PyProof.Rows L2
section
variable {κ : Kap} {Q : DQ} {P : Bool → Prop} {i j : Int} {b c : Bool} {x y : Str} {m : Bool} {xs ys : List D}
theorem sl_str {u v : Option Int} : fSl m (.str x) u v κ Q = (x.length ≤ sizeLine ∧ Q (.str (cutS x u v)) κ) := rfl
theorem ix_lst : fIx (.node .lst xs) (.int i) κ Q = ∃ d, atI xs i = some d ∧ Q d κ := rfl
theorem ix_tup : fIx (.node .tup xs) (.int i) κ Q = ∃ d, atI xs i = some d ∧ Q d κ := rfl
theorem vw_cell {n : Nat} {k : Kd} (h : κ n = some (.live k xs)) : view (.cell n) κ = some (k, xs) := by
  unfold view
  simp only [h]
theorem ix_cell {n : Nat} (h : κ n = some (.live .lst xs)) : fIx (.cell n) (.int i) κ Q = ∃ d, atI xs i = some d ∧ Q d κ := by
  show (match view (.cell n) κ with
    | some (.lst, xs) => ∃ d, atI xs i = some d ∧ Q d κ
    | some (.tup, xs) => ∃ d, atI xs i = some d ∧ Q d κ
    | some (.klst, xs) => ∃ d, atI xs i = some d ∧ Q d κ
    | _ => False) = _
  rw [vw_cell h]
theorem ixN_nat {k n : Nat} (h : n < k) : ixN k (n : Int) = some n := by
  unfold ixN
  rw [if_pos (Int.natCast_nonneg n), if_pos (by omega), Int.toNat_natCast]
theorem at_nat {α : Type} {xs : List α} {n : Nat} {a : α} (h : xs[n]? = some a) : atI xs (n : Int) = some a := by
  unfold atI
  obtain ⟨h1, _⟩ := List.getElem?_eq_some_iff.mp h
  rw [ixN_nat h1]
  exact h
theorem at_0 {a : D} {l : List D} {P : D → Prop} : (∃ d, atI (a :: l) 0 = some d ∧ P d) = P a := propext ⟨fun ⟨d, h, q⟩ => by
    have : atI (a :: l) 0 = some a := at_nat (n := 0) rfl
    rw [this] at h; cases h; exact q, fun h => ⟨a, at_nat (n := 0) rfl, h⟩⟩
theorem at_1 {a b : D} {l : List D} {P : D → Prop} : (∃ d, atI (a :: b :: l) 1 = some d ∧ P d) = P b := propext ⟨fun ⟨d, h, q⟩ => by
    have : atI (a :: b :: l) 1 = some b := at_nat (n := 1) rfl
    rw [this] at h; cases h; exact q, fun h => ⟨b, at_nat (n := 1) rfl, h⟩⟩
theorem at_2 {a b c : D} {l : List D} {P : D → Prop} : (∃ d, atI (a :: b :: c :: l) 2 = some d ∧ P d) = P c := propext ⟨fun ⟨d, h, q⟩ => by
    have : atI (a :: b :: c :: l) 2 = some c := at_nat (n := 2) rfl
    rw [this] at h; cases h; exact q, fun h => ⟨c, at_nat (n := 2) rfl, h⟩⟩
theorem at_3 {a b c e : D} {l : List D} {P : D → Prop} : (∃ d, atI (a :: b :: c :: e :: l) 3 = some d ∧ P d) = P e := propext ⟨fun ⟨d, h, q⟩ => by
    have : atI (a :: b :: c :: e :: l) 3 = some e := at_nat (n := 3) rfl
    rw [this] at h; cases h; exact q, fun h => ⟨e, at_nat (n := 3) rfl, h⟩⟩
/-- the item of a list at a place below its length -/
theorem at_of {α : Type} {xs : List α} {i : Int} (h0 : 0 ≤ i) (h1 : i < xs.length) : ∃ d, atI xs i = some d ∧ d ∈ xs := by
  unfold atI ixN
  rw [if_pos h0, if_pos h1]
  have h2 : i.toNat < xs.length := by omega
  exact ⟨xs[i.toNat], List.getElem?_eq_getElem h2, List.getElem_mem h2⟩
theorem ix_mem {xs : List D} {i : Int} {κ : Kap} {Q : DQ} (h0 : 0 ≤ i) (h1 : i < xs.length) (h : ∀ d ∈ xs, Q d κ) : fIx (.node .lst xs) (.int i) κ Q := by
  obtain ⟨d, e, hd⟩ := at_of h0 h1
  exact ⟨d, e, h d hd⟩
theorem se_cell {n : Nat} {d : D} {T : Kap → Prop} (h : κ n = some (.live .lst xs)) : fSet (.cell n) (.int i) d κ T = ∃ m, ixN xs.length i = some m ∧ T (kset κ n (.live .lst (xs.set m d))) := by
  unfold fSet
  simp only [h]
theorem se_0 {n : Nat} {a d : D} {l : List D} {T : Kap → Prop} (h : κ n = some (.live .lst (a :: l))) : fSet (.cell n) (.int 0) d κ T = T (kset κ n (.live .lst (d :: l))) := by
  rw [se_cell h]
  exact propext ⟨fun ⟨m, h, q⟩ => by
    have : ixN (a :: l).length 0 = some 0 := by unfold ixN; simp
    rw [this] at h; cases h; exact q, fun h => ⟨0, by unfold ixN; simp, h⟩⟩
theorem se_2 {n : Nat} {a b c d : D} {l : List D} {T : Kap → Prop} (h : κ n = some (.live .lst (a :: b :: c :: l))) : fSet (.cell n) (.int 2) d κ T = T (kset κ n (.live .lst (a :: b :: d :: l))) := by
  rw [se_cell h]
  have e : ixN (a :: b :: c :: l).length 2 = some 2 := ixN_nat (n := 2) (by simp)
  exact propext ⟨fun ⟨m, h, q⟩ => by rw [e] at h; cases h; exact q, fun h => ⟨2, e, h⟩⟩
theorem se_3 {n : Nat} {a b c e d : D} {l : List D} {T : Kap → Prop} (h : κ n = some (.live .lst (a :: b :: c :: e :: l))) : fSet (.cell n) (.int 3) d κ T = T (kset κ n (.live .lst (a :: b :: c :: d :: l))) := by
  rw [se_cell h]
  have e : ixN (a :: b :: c :: e :: l).length 3 = some 3 := ixN_nat (n := 3) (by simp)
  exact propext ⟨fun ⟨m, h, q⟩ => by rw [e] at h; cases h; exact q, fun h => ⟨3, e, h⟩⟩
end
/-! equality of what can be told apart -/
theorem pd_int_is {κ : Kap} {i : Int} {p : PyData} (h : Pd κ (.int i) p) : p = .int i := by
  cases h with
  | int => rfl
  | lst h _ => cases h
  | tup h _ => cases h
  | dct h _ => cases h
theorem eq_int {κ : Kap} {Q : DQ} {i j : Int} : fEq (.int i) (.int j) κ Q = Q (.bl (decide (i = j))) κ := propext ⟨fun ⟨p, q, h1, h2, _, _, h⟩ => by
    cases pd_int_is h1
    cases pd_int_is h2
    exact h, fun h => ⟨.int i, .int j, .int i, .int j, rfl, rfl, h⟩⟩
theorem ne_int' {κ : Kap} {Q : DQ} {i j : Int} : fNe (.int i) (.int j) κ Q = Q (.bl (!decide (i = j))) κ := propext ⟨fun ⟨p, q, h1, h2, _, _, h⟩ => by
    cases pd_int_is h1
    cases pd_int_is h2
    exact h, fun h => ⟨.int i, .int j, .int i, .int j, rfl, rfl, h⟩⟩
theorem eq_dat {κ : Kap} {Q : DQ} {x y : D} {p q : PyData} (hx : pdata x = some p) (hy : pdata y = some q) (sx : SeqAt.shaped p = true) (sy : SeqAt.shaped q = true) (h : Q (.bl (PyData.eqv p q)) κ) : fEq x y κ Q := ⟨p, q, pd_of hx, pd_of hy, sx, sy, h⟩
theorem ne_dat {κ : Kap} {Q : DQ} {x y : D} {p q : PyData} (hx : pdata x = some p) (hy : pdata y = some q) (sx : SeqAt.shaped p = true) (sy : SeqAt.shaped q = true) (h : Q (.bl (!PyData.eqv p q)) κ) : fNe x y κ Q := ⟨p, q, pd_of hx, pd_of hy, sx, sy, h⟩
/-! side conditions -/
theorem log_lt {n k : Nat} (h : n < 2 ^ k) : n.log2 ≤ k := by
  by_cases h0 : n = 0
  · subst h0; simp
  · exact Nat.le_of_lt ((Nat.log2_lt h0).mpr h)
theorem cmul_of (a b : Nat) {i j : Int} (h : i.natAbs < 2 ^ a) (h' : j.natAbs < 2 ^ b) (hs : a + b < 1000000) : CMulW i j := by
  have h1 := log_lt h
  have h2 := log_lt h'
  unfold CMulW
  omega
theorem cmul64 {i j : Int} (h : i.natAbs < 2 ^ 64) (h' : j.natAbs < 2 ^ 64) : CMulW i j := cmul_of 64 64 h h' (by decide)
theorem cdiv_of (a : Nat) {i j : Int} (h0 : j ≠ 0) (h : j.natAbs < 2 ^ a) (hs : a < 9000) : CDivD i j := ⟨h0, Nat.lt_of_le_of_lt (log_lt h) hs⟩
theorem cdiv64 {i j : Int} (h0 : j ≠ 0) (h : j.natAbs < 2 ^ 64) : CDivD i j := cdiv_of 64 h0 h (by decide)
theorem fm_bd (x w : Int) (h : 0 < w) : 0 ≤ x.fmod w ∧ x.fmod w < w := ⟨Int.fmod_nonneg_of_pos x h, Int.fmod_lt_of_pos x h⟩
theorem len_cut (z : Str) (u v : Option Int) : (cutS z u v).length ≤ z.length := cutS_length z u v
theorem len_app (x y : Str) : (x ++ y).length = x.length + y.length := Array.size_append
theorem len_emp : (Str.ofString "").length = 0 := by decide +kernel
theorem ipow_le {b : Int} (hb : 1 ≤ b) {i n : Nat} (h : i ≤ n) : b ^ i ≤ b ^ n := by
  induction n with
  | zero => rw [Nat.le_zero.mp h]; exact Int.le_refl _
  | succ n ih =>
    by_cases hi : i = n + 1
    · rw [hi]; exact Int.le_refl _
    · have h1 := ih (by omega)
      have h2 : 0 ≤ b ^ n := Int.pow_nonneg (by omega)
      rw [Int.pow_succ]
      exact Int.le_trans h1 (by have := Int.mul_le_mul_of_nonneg_left hb h2; simpa using this)
/-! isinstance, told -/
theorem isi_in {tab : List KRow} {d : D} {n : String} {κ : Kap} {Q : DQ} (t : TyK) (b : Bool) (h1 : tyK d κ = some t) (h2 : ktOf tab t (.b n) = some b) (h : Q (.bl b) κ) : fIsi (ktOf tab) [d, .ty n] κ Q := ⟨t, b, h1, h2, h⟩
/-! repr of data -/
theorem bi_inl {i : Nat} {d : D} {δ : DEnv} {κ : Kap} {P : DEnv → Prop} : (∃ δ1, bindT (.inl i) d δ κ = some δ1 ∧ P δ1) = P (δ.set i (some d)) := propext ⟨fun ⟨δ1, h, q⟩ => by cases h; exact q, fun h => ⟨_, rfl, h⟩⟩
theorem bi_inr {is : List Nat} {xs : List D} {δ δ' : DEnv} {κ : Kap} {P : DEnv → Prop} (h : bindL is xs δ = some δ') : (∃ δ1, bindT (.inr is) (.node .tup xs) δ κ = some δ1 ∧ P δ1) = P δ' := propext ⟨fun ⟨δ1, e, q⟩ => by
    have e' : bindL is xs δ = some δ1 := e
    rw [h] at e'; cases e'; exact q, fun q => ⟨δ', h, q⟩⟩
/-! loops -/
/-- a loop over items: what holds of the rest -/
theorem dLoop_ind {g : DG} {b : DS} {gd : Kap → Prop} {X : DX} {T : DEnds} (I : List D → DEnv → Kap → Prop) (h0 : ∀ δ κ, I [] δ κ → gd κ ∧ T.nx δ κ)
    (hs : ∀ d ds δ κ (L : DEnv → Kap → Prop), (∀ δ κ, I ds δ κ → L δ κ) → I (d :: ds) δ κ → gd κ ∧ g d δ κ X fun δ1 κ1 => b δ1 κ1 X { nx := L, ct := L, bk := T.nx, rt := T.rt }) : ∀ ds δ κ, I ds δ κ → dLoop g b gd X T ds δ κ
  | [], δ, κ, h => h0 δ κ h
  | d :: ds, δ, κ, h => hs d ds δ κ _ (dLoop_ind I h0 hs ds) h
/-- a loop over items: what holds behind i of them -/
theorem dLoop_ix {g : DG} {b : DS} {gd : Kap → Prop} {X : DX} {T : DEnds} {items : List D} (I : Nat → DEnv → Kap → Prop) (h0 : ∀ δ κ, I items.length δ κ → gd κ ∧ T.nx δ κ)
    (hs : ∀ i d δ κ (L : DEnv → Kap → Prop), items[i]? = some d → (∀ δ κ, I (i + 1) δ κ → L δ κ) → I i δ κ → gd κ ∧ g d δ κ X fun δ1 κ1 => b δ1 κ1 X { nx := L, ct := L, bk := T.nx, rt := T.rt }) {δ : DEnv} {κ : Kap} (h : I 0 δ κ) : dLoop g b gd X T items δ κ := by
  refine dLoop_ind (fun ds δ κ => ∃ i, ds = items.drop i ∧ i ≤ items.length ∧ I i δ κ) ?_ ?_ items δ κ ⟨0, rfl, Nat.zero_le _, h⟩
  · rintro δ κ ⟨i, e, hi, h⟩
    have : i = items.length := by
      have := congrArg List.length e
      simp at this
      omega
    subst this
    exact h0 δ κ h
  · rintro d ds δ κ L hL ⟨i, e, hi, h⟩
    have hlt : i < items.length := by
      have := congrArg List.length e
      simp at this
      omega
    rw [List.drop_eq_getElem_cons hlt] at e
    injection e with e1 e2
    exact hs i d δ κ L (by rw [e1]; exact List.getElem?_eq_getElem hlt) (fun δ κ q => hL δ κ ⟨i + 1, e2, hlt, q⟩) h
theorem lcLoop_ind {n : Nat} {t : TN} {tt : DT} {e : DE} {gd : Kap → Prop} {vs : List Nat} {δ : DEnv} {fin : List D → Kap → Prop} (I : List D → List D → Kap → Prop) (h0 : ∀ acc κ, I [] acc κ → gd κ ∧ fin acc κ)
    (hs : ∀ d ds acc κ (L : List D → Kap → Prop), (∀ acc κ, I ds acc κ → L acc κ) → I (d :: ds) acc κ → gd κ ∧ ∃ δ1, bindT t d (dwipe δ vs) κ = some δ1 ∧ tt δ1 κ XF fun b κ2 => if b = true then e δ1 κ2 XF fun y κ3 => κ3 n = some (.live .lst acc) ∧ acc.length < sizeLine ∧ L (acc ++ [y]) (kset κ3 n (.live .lst (acc ++ [y])))
      else L acc κ2) : ∀ ds acc κ, I ds acc κ → lcLoop n t tt e gd vs δ fin ds acc κ
  | [], acc, κ, h => h0 acc κ h
  | d :: ds, acc, κ, h => hs d ds acc κ _ (lcLoop_ind I h0 hs ds) h
theorem lcLoop_ix {n : Nat} {t : TN} {tt : DT} {e : DE} {gd : Kap → Prop} {vs : List Nat} {δ : DEnv} {fin : List D → Kap → Prop} {items : List D} (I : Nat → List D → Kap → Prop) (h0 : ∀ acc κ, I items.length acc κ → gd κ ∧ fin acc κ)
    (hs : ∀ i d acc κ (L : List D → Kap → Prop), items[i]? = some d → (∀ acc κ, I (i + 1) acc κ → L acc κ) → I i acc κ → gd κ ∧ ∃ δ1, bindT t d (dwipe δ vs) κ = some δ1 ∧ tt δ1 κ XF fun b κ2 => if b = true then e δ1 κ2 XF fun y κ3 => κ3 n = some (.live .lst acc) ∧ acc.length < sizeLine ∧ L (acc ++ [y]) (kset κ3 n (.live .lst (acc ++ [y])))
      else L acc κ2) {acc : List D} {κ : Kap} (h : I 0 acc κ) : lcLoop n t tt e gd vs δ fin items acc κ := by
  refine lcLoop_ind (fun ds acc κ => ∃ i, ds = items.drop i ∧ i ≤ items.length ∧ I i acc κ) ?_ ?_ items acc κ ⟨0, rfl, Nat.zero_le _, h⟩
  · rintro δ κ ⟨i, e, hi, h⟩
    have : i = items.length := by
      have := congrArg List.length e
      simp at this
      omega
    subst this
    exact h0 δ κ h
  · rintro d ds δ κ L hL ⟨i, e, hi, h⟩
    have hlt : i < items.length := by
      have := congrArg List.length e
      simp at this
      omega
    rw [List.drop_eq_getElem_cons hlt] at e
    injection e with e1 e2
    exact hs i d δ κ L (by rw [e1]; exact List.getElem?_eq_getElem hlt) (fun δ κ q => hL δ κ ⟨i + 1, e2, hlt, q⟩) h
theorem rangeD_len {lo : Int} {n : Nat} : (rangeD lo n).length = n := by unfold rangeD; simp
theorem rangeD_get {lo : Int} {n i : Nat} {d : D} (h : (rangeD lo n)[i]? = some d) : i < n ∧ d = .int (lo + (i : Nat)) := by
  unfold rangeD at h
  rw [List.getElem?_map, Option.map_eq_some_iff] at h
  obtain ⟨j, hj, rfl⟩ := h
  obtain ⟨h1, h2⟩ := List.getElem?_eq_some_iff.mp hj
  rw [List.length_range] at h1
  rw [List.getElem_range] at h2
  subst h2
  exact ⟨h1, rfl⟩
/-! a box that is drawn from -/
/-- the box at b: three whole numbers, at most m drawn so far -/
def Bx (b m : Nat) (κ : Kap) : Prop := ∃ x y z : Int, κ b = some (.live .lst [.int x, .int y, .int z]) ∧ 0 ≤ y ∧ y < 2 ^ 31 ∧ 0 ≤ z ∧ z ≤ (m : Int)
/-- all cells but b's stay -/
def Fr (b : Nat) (κ κ' : Kap) : Prop := ∀ n c, n ≠ b → κ n = some c → κ' n = some c
theorem Fr.refl {b : Nat} {κ : Kap} : Fr b κ κ := fun _ _ _ h => h
theorem Fr.trans {b : Nat} {κ κ1 κ2 : Kap} (h : Fr b κ κ1) (g : Fr b κ1 κ2) : Fr b κ κ2 := fun n c hn e => g n c hn (h n c hn e)
theorem Fr.set {b n : Nat} {κ : Kap} {c : Cell} (h : κ n = none) : Fr b κ (kset κ n c) := fun m d hm e => by rw [kset_ne (kne e h)]; exact e
theorem Fr.put {b n : Nat} {κ κ' : Kap} {c : Cell} (f : Fr b κ κ') (h : κ n = none) : Fr b κ (kset κ' n c) := fun m d hm e => by rw [kset_ne (kne e h)]; exact f m d hm e
theorem Fr.box {b : Nat} {κ : Kap} {c : Cell} : Fr b κ (kset κ b c) := fun m d hm e => by rw [kset_ne hm]; exact e
theorem Bx.mono {b m m' : Nat} {κ : Kap} (h : Bx b m κ) (hm : m ≤ m') : Bx b m' κ := let ⟨x, y, z, h1, h2, h3, h4, h5⟩ := h; ⟨x, y, z, h1, h2, h3, h4, by omega⟩
theorem Bx.is {b m : Nat} {κ : Kap} (h : Bx b m κ) : ∃ k xs, κ b = some (.live k xs) := let ⟨_, _, _, h1, _⟩ := h; ⟨_, _, h1⟩
theorem Bx.ne {b m n : Nat} {κ : Kap} (h : Bx b m κ) (hn : κ n = none) : n ≠ b := fun e => by obtain ⟨_, _, q⟩ := h.is; rw [e] at hn; rw [hn] at q; cases q
theorem Bx.set {b m n : Nat} {κ : Kap} {c : Cell} (h : Bx b m κ) (hn : n ≠ b) : Bx b m (kset κ n c) := let ⟨x, y, z, h1, h2⟩ := h; ⟨x, y, z, by rw [kset_ne hn.symm]; exact h1, h2⟩
end DL
/-! DS: one step for each reading. -/
namespace DL
open PySem PySem.Spec L2
def rQ (QI : List D → (Kap → Prop) → Kap → Prop) (xs : List D) (κ : Kap) : Prop := match xs with
  | [.int j] => -(2 ^ 62) ≤ j ∧ j < 2 ^ 62 ∧ QI (rangeD 0 j.toNat) gTrue κ
  | _ => False
def sQ (QI : List D → (Kap → Prop) → Kap → Prop) (d : D) (κ : Kap) : Prop := match d with
  | .str x => QI (charsD x) gTrue κ
  | .cell n => match κ n with
    | some (.live .lst xs) => QI xs (fun κ => κ n = some (.live .lst xs)) κ
    | _ => False
  | d => match view d κ with
    | some (.lst, xs) => QI xs gTrue κ
    | some (.klst, xs) => QI xs gTrue κ
    | some (.tup, xs) => QI xs gTrue κ
    | _ => False
section
variable {δ : DEnv} {κ : Kap} {X : DX} {Q : DQ} {a b c : DE} {as r : DA} {t u : DT} {s s' : DS} {d x y : D} {f g : D2} {n : DEnv → Kap → Prop} {rt : DQ} {bk ct : DEnv → Kap → Prop} {T : DEnds} {QL : List D → Kap → Prop} {QB : Bool → Kap → Prop} {QG : DEnv → Kap → Prop} {xs ys : List D} {A B : Prop} {i j : Int} {z v : Str} {m k : Bool}
theorem s_sp {n m : Nat} {b : DS} {ds : List D} {X : Str → List D → Kap → Prop} (h : ds.length = m) (q : b (startD n ds) κ (fun _ c fs κ' => X c fs κ') ⟨fun _ κ' => Q .non κ', Q, fun _ _ => False, fun _ _ => False⟩) : spOf n m b ds κ X Q := ⟨h, q⟩
theorem s_seq (h : s δ κ X ⟨fun δ1 κ1 => s' δ1 κ1 X ⟨n, rt, bk, ct⟩, rt, bk, ct⟩) : sSeq s s' δ κ X ⟨n, rt, bk, ct⟩ := h
theorem s_nil (h : n δ κ) : sNil δ κ X ⟨n, rt, bk, ct⟩ := h
theorem s_asg {g : DG} (h : a δ κ X fun d κ1 => g d δ κ1 X n) : sAsg a g δ κ X ⟨n, rt, bk, ct⟩ := h
theorem s_exp (h : a δ κ X fun _ κ1 => n δ κ1) : sExp a δ κ X ⟨n, rt, bk, ct⟩ := h
theorem s_ret (h : a δ κ X rt) : sRet a δ κ X ⟨n, rt, bk, ct⟩ := h
theorem s_retN (h : rt .non κ) : sRetN δ κ X ⟨n, rt, bk, ct⟩ := h
theorem s_brk (h : bk δ κ) : sBrk δ κ X ⟨n, rt, bk, ct⟩ := h
theorem s_con (h : ct δ κ) : sCon δ κ X ⟨n, rt, bk, ct⟩ := h
theorem s_if (h : t δ κ X fun k κ1 => if k = true then s δ κ1 X T else s' δ κ1 X T) : sIf t s s' δ κ X T := h
theorem s_par {i j : Nat} (h : as δ κ X fun ds κ1 => ∃ x y, ds = [x, y] ∧ n ((δ.set i (some x)).set j (some y)) κ1) : sPar i j as δ κ X ⟨n, rt, bk, ct⟩ := h
theorem s_for {it : DI} {g : DG} (h : it δ κ X fun items gd κ1 => dLoop g s gd X T items δ κ1) : sFor it g s δ κ X T := h
theorem x_par {P : D → D → Prop} (h : P x y) : ∃ u v, [x, y] = [u, v] ∧ P u v := ⟨x, y, rfl, h⟩
theorem e_var {i : Nat} (e : δ[i]? = some (some d)) (h : Q d κ) : dVar i δ κ X Q := by unfold dVar; rw [e]; exact h
theorem e_c (h : Q d κ) : dC d δ κ X Q := h
theorem e_op (h : a δ κ X fun x κ1 => b δ κ1 X fun y κ2 => f x y κ2 Q) : dOp f a b δ κ X Q := h
theorem e_un {f : D1} (h : a δ κ X fun x κ1 => f x κ1 Q) : dUn f a δ κ X Q := h
theorem e_nil (h : QL [] κ) : dNil δ κ X QL := h
theorem e_cons (h : a δ κ X fun x κ1 => r δ κ1 X fun xs κ2 => QL (x :: xs) κ2) : dCons a r δ κ X QL := h
theorem e_B {f : DN} (h : as δ κ X fun xs κ1 => f xs κ1 Q) : dB f as δ κ X Q := h
theorem e_tup (h : as δ κ X fun xs κ1 => xs.length ≤ sizeLine ∧ Q (.node .tup xs) κ1) : dTup as δ κ X Q := h
theorem e_lst (h : as δ κ X fun xs κ1 => xs.length ≤ sizeLine ∧ fNew m .lst xs κ1 Q) : dLst m as δ κ X Q := h
theorem e_dct0 (h : fNew m (.dct []) [] κ Q) : dDct0 m δ κ X Q := h
theorem e_sz (h1 : xs.length ≤ sizeLine) (h : A) : xs.length ≤ sizeLine ∧ A := ⟨h1, h⟩
theorem cpow_of {i j : Int} (h0 : 0 ≤ j) (h1 : j ≤ 1000000) (h2 : i.natAbs < 2 ^ 64) : CPow i j := ⟨h0, h1, h2⟩
theorem e_nwf {k : Kd} (h : Q (.node k xs) κ) : fNew false k xs κ Q := h
theorem e_nwt {k : Kd} (h : ∀ n, κ n = none → Q (.cell n) (kset κ n (.live k xs))) : fNew true k xs κ Q := h
theorem e_and (h : a δ κ X fun x κ1 => withTruth x κ1 fun t => if t = true then b δ κ1 X Q else Q x κ1) : dAnd a b δ κ X Q := h
theorem e_or (h : a δ κ X fun x κ1 => withTruth x κ1 fun t => if t = true then Q x κ1 else b δ κ1 X Q) : dOr a b δ κ X Q := h
theorem e_not (h : a δ κ X fun x κ1 => withTruth x κ1 fun t => Q (.bl (!t)) κ1) : dNot a δ κ X Q := h
theorem e_if (h : t δ κ X fun k κ1 => if k = true then a δ κ1 X Q else b δ κ1 X Q) : dIf t a b δ κ X Q := h
theorem e_chain (h : a δ κ X fun x κ1 => b δ κ1 X fun y κ2 => f x y κ2 fun z κ3 => ∃ k, z = .bl k ∧ if k = true then c δ κ3 X (fun w κ4 => g y w κ4 Q) else Q (.bl false) κ3) : dChain f g a b c δ κ X Q := h
theorem e_sl {lo hi : DO} (h : a δ κ X fun x κ1 => lo δ κ1 X fun i κ2 => hi δ κ2 X fun j κ3 => fSl m x i j κ3 Q) : dSl m a lo hi δ κ X Q := h
theorem e_no {QO : Option Int → Kap → Prop} (h : QO none κ) : dNo δ κ X QO := h
theorem e_part {QO : Option Int → Kap → Prop} (h : a δ κ X fun x κ1 => ∃ i, x = .int i ∧ QO (some i) κ1) : dPart a δ κ X QO := h
theorem e_call {sp : DSp} (h : as δ κ X fun xs κ1 => sp xs κ1 (X δ) Q) : dCall sp [] as δ κ X Q := by
  unfold dCall
  simp only [List.append_nil]
  exact h
theorem e_m1 {f : D → D → Kap → DQ → Prop} (h : a δ κ X fun x κ1 => (∃ y, x = .str y) ∧ b δ κ1 X fun z κ2 => f x z κ2 Q) : dM1 f a b δ κ X Q := h
theorem e_m0 {f : D → Kap → DQ → Prop} (h : a δ κ X fun x κ1 => (∃ y, x = .str y) ∧ f x κ1 Q) : dM0 f a δ κ X Q := h
theorem e_lc {it : DI} {t : TN} {tt : DT} {e : DE} {vs : List Nat} (h : it δ κ X fun items gd κ1 => ∀ n, κ1 n = none →
  lcLoop n t tt e gd vs δ (fun acc κ' => κ' n = some (.live .lst acc) ∧ Q (.node .lst acc) (kset κ' n .dead)) items [] (kset κ1 n (.live .lst []))) : dLc false it t tt e vs δ κ X Q := h
theorem e_lcm {it : DI} {t : TN} {tt : DT} {e : DE} {vs : List Nat} (h : it δ κ X fun items gd κ1 => ∀ n, κ1 n = none →
  lcLoop n t tt e gd vs δ (fun acc κ' => κ' n = some (.live .lst acc) ∧ Q (.cell n) κ') items [] (kset κ1 n (.live .lst []))) : dLc true it t tt e vs δ κ X Q := h
theorem t_yes (h : QB true κ) : tYesD δ κ X QB := h
theorem t_tru (h : a δ κ X fun x κ1 => withTruth x κ1 fun t => QB t κ1) : tTru a δ κ X QB := h
theorem t_bl (h : a δ κ X fun x κ1 => ∃ k, x = .bl k ∧ QB k κ1) : tBl a δ κ X QB := h
theorem t_and (h : t δ κ X fun k κ1 => if k = true then u δ κ1 X QB else QB false κ1) : tAndD t u δ κ X QB := h
theorem t_or (h : t δ κ X fun k κ1 => if k = true then QB true κ1 else u δ κ1 X QB) : tOrD t u δ κ X QB := h
theorem t_not (h : t δ κ X fun k κ1 => QB (!k) κ1) : tNotD t δ κ X QB := h
theorem w_bl {P : Bool → Prop} (h : P k) : withTruth (.bl k) κ P := h
theorem w_non {P : Bool → Prop} (h : P false) : withTruth .non κ P := h
theorem w_int {P : Bool → Prop} (h : P (i != 0)) : withTruth (.int i) κ P := h
theorem x_bl {P : Bool → Prop} (h : P k) : ∃ q, D.bl k = D.bl q ∧ P q := ⟨k, rfl, h⟩
theorem x_int {P : Int → Prop} (h : P i) : ∃ q, D.int i = D.int q ∧ P q := ⟨i, rfl, h⟩
theorem x_str (h : A) : (∃ q, D.str z = D.str q) ∧ A := ⟨⟨z, rfl⟩, h⟩
theorem i_T (h : A) : if true = true then A else B := by rw [if_pos rfl]; exact h
theorem i_F (h : B) : if false = true then A else B := by rw [if_neg (by decide)]; exact h
theorem i_not (h : if k = true then B else A) : if (!k) = true then A else B := by cases k <;> exact h
theorem i_dT {p : Prop} [Decidable p] (hp : p) (h : A) : if decide p = true then A else B := by rw [if_pos (decide_eq_true hp)]; exact h
theorem i_dF {p : Prop} [Decidable p] (hp : ¬p) (h : B) : if decide p = true then A else B := by rw [if_neg (by rw [decide_eq_false hp]; decide)]; exact h
theorem i_d {p : Prop} [Decidable p] (h : p → A) (h' : ¬p → B) : if decide p = true then A else B := by
  by_cases hp : p
  · exact i_dT hp (h hp)
  · exact i_dF hp (h' hp)
theorem g_nil (h : QG δ κ) : gNilD [] δ κ X QG := ⟨rfl, h⟩
theorem g_cons {g : DG} {r : DGs} (h : g d δ κ X fun δ1 κ1 => r xs δ1 κ1 X QG) : gConsD g r (d :: xs) δ κ X QG := h
theorem g_tup {N : Nat} {g : DGs} (hl : xs.length = N) (h : g xs δ κ X QG) : gTupD N g (.node .tup xs) δ κ X QG := ⟨xs, rfl, hl, h⟩
theorem g_sub {f : D → D → D → Kap → (Kap → Prop) → Prop} (h : a δ κ X fun x κ1 => b δ κ1 X fun y κ2 => f x y d κ2 fun κ3 => QG δ κ3) : gSubD a b f d δ κ X QG := h
theorem s_while (I : Nat → DEnv → Kap → Prop) (h0 : ∃ m, I m δ κ) (h : ∀ m δ κ (L : DEnv → Kap → Prop), (∀ m' δ κ, m' < m → I m' δ κ → L δ κ) → I m δ κ → t δ κ X fun k κ1 => if k = true then s δ κ1 X ⟨L, rt, n, L⟩ else n δ κ1) : sWhile t s δ κ X ⟨n, rt, bk, ct⟩ :=
  ⟨I, h0, fun m δ κ hI => h m δ κ _ (fun m' δ κ hm hI => ⟨m', hm, hI⟩) hI⟩
theorem dl_ix {g : DG} {gd : Kap → Prop} {items : List D} (I : Nat → DEnv → Kap → Prop) (h0 : ∀ δ κ, I items.length δ κ → gd κ ∧ n δ κ)
    (hs : ∀ i d δ κ (L : DEnv → Kap → Prop), items[i]? = some d → (∀ δ κ, I (i + 1) δ κ → L δ κ) → I i δ κ → gd κ ∧ g d δ κ X fun δ1 κ1 => s δ1 κ1 X ⟨L, rt, n, L⟩) (h : I 0 δ κ) : dLoop g s gd X ⟨n, rt, bk, ct⟩ items δ κ := dLoop_ix I h0 hs h
theorem p_nil {QP : List (D × D) → Kap → Prop} (h : QP [] κ) : dPairs [] δ κ X QP := h
theorem p_cons {l : List (DE × DE)} {QP : List (D × D) → Kap → Prop} (h : a δ κ X fun x κ1 => b δ κ1 X fun y κ2 => dPairs l δ κ2 X fun ps κ3 => QP ((x, y) :: ps) κ3) : dPairs ((a, b) :: l) δ κ X QP := h
theorem r_1 {QI : List D → (Kap → Prop) → Kap → Prop} (h : as δ κ X (rQ QI)) : iRange1 as δ κ X QI := h
theorem r_q {QI : List D → (Kap → Prop) → Kap → Prop} (h1 : -(2 ^ 62) ≤ j) (h2 : j < 2 ^ 62) (h : QI (rangeD 0 j.toNat) gTrue κ) : rQ QI [.int j] κ := ⟨h1, h2, h⟩
theorem q_seq {QI : List D → (Kap → Prop) → Kap → Prop} (h : a δ κ X (sQ QI)) : iSeq a δ κ X QI := h
theorem q_S {QI : List D → (Kap → Prop) → Kap → Prop} (h : QI (charsD z) gTrue κ) : sQ QI (.str z) κ := h
theorem q_L {QI : List D → (Kap → Prop) → Kap → Prop} (h : QI xs gTrue κ) : sQ QI (.node .lst xs) κ := h
theorem q_K {QI : List D → (Kap → Prop) → Kap → Prop} (h : QI xs gTrue κ) : sQ QI (.node .klst xs) κ := h
theorem q_T {QI : List D → (Kap → Prop) → Kap → Prop} (h : QI xs gTrue κ) : sQ QI (.node .tup xs) κ := h
/-! operators -/
theorem f_adI (h : Q (.int (i + j)) κ) : fAdd m (.int i) (.int j) κ Q := h
theorem f_adS (h1 : z.length + v.length ≤ sizeLine) (h : Q (.str (z ++ v)) κ) : fAdd m (.str z) (.str v) κ Q := ⟨h1, h⟩
theorem f_adL (h1 : xs.length + ys.length ≤ sizeLine) (h : Q (.node .lst (xs ++ ys)) κ) : fAdd false (.node .lst xs) (.node .lst ys) κ Q := ⟨h1, h⟩
theorem f_sub (h : Q (.int (i - j)) κ) : fSub (.int i) (.int j) κ Q := ⟨trivial, h⟩
theorem f_mod (h1 : j ≠ 0) (h : Q (.int (i.fmod j)) κ) : fMod (.int i) (.int j) κ Q := ⟨h1, h⟩
theorem f_div (h1 : CDivD i j) (h : Q (.int (i.fdiv j)) κ) : fDiv (.int i) (.int j) κ Q := ⟨h1, h⟩
theorem f_mul (h1 : CMulW i j) (h : Q (.int (i * j)) κ) : fMulI (.int i) (.int j) κ Q := ⟨h1, h⟩
theorem f_pow (h1 : CPow i j) (h : Q (.int (i ^ j.toNat)) κ) : fPow (.int i) (.int j) κ Q := ⟨h1, h⟩
theorem f_neg (h : Q (.int (-i)) κ) : fNeg (.int i) κ Q := h
theorem f_ltI (h : Q (.bl (decide (i < j))) κ) : fLtS (.int i) (.int j) κ Q := h
theorem f_leI (h : Q (.bl (decide (i ≤ j))) κ) : fLeS (.int i) (.int j) κ Q := h
theorem f_gtI (h : Q (.bl (decide (j < i))) κ) : fGtS (.int i) (.int j) κ Q := h
theorem f_geI (h : Q (.bl (decide (j ≤ i))) κ) : fGeS (.int i) (.int j) κ Q := h
theorem f_leS (h : Q (.bl (!decide (v.cps.toList < z.cps.toList))) κ) : fLeS (.str z) (.str v) κ Q := h
theorem f_ltS (h : Q (.bl (decide (z.cps.toList < v.cps.toList))) κ) : fLtS (.str z) (.str v) κ Q := h
theorem f_eqI (h : Q (.bl (decide (i = j))) κ) : fEq (.int i) (.int j) κ Q := by rw [eq_int]; exact h
theorem f_neI (h : Q (.bl (!decide (i = j))) κ) : fNe (.int i) (.int j) κ Q := by rw [ne_int']; exact h
theorem f_neS (h1 : SeqAt.shaped (.str z) = true) (h2 : SeqAt.shaped (.str v) = true) (h : Q (.bl (!(z == v))) κ) : fNe (.str z) (.str v) κ Q := ne_dat rfl rfl h1 h2 h
theorem f_inS (h : Q (.bl (strIn z v)) κ) : fIn false (.str z) (.str v) κ Q := h
theorem f_abs (h : Q (.int (if i < 0 then -i else i)) κ) : fAbs [.int i] κ Q := h
theorem f_max (h : Q (.int (if j > i then j else i)) κ) : fMax2 [.int i, .int j] κ Q := h
theorem f_min (h : Q (.int (if j < i then j else i)) κ) : fMin2 [.int i, .int j] κ Q := h
theorem f_lnS (h1 : z.length ≤ sizeLine) (h : Q (.int (z.length : Nat)) κ) : fLen [.str z] κ Q := ⟨h1, h⟩
theorem f_lnL (h : Q (.int (xs.length : Nat)) κ) : fLen [.node .lst xs] κ Q := h
theorem f_lnK (h : Q (.int (xs.length : Nat)) κ) : fLen [.node .klst xs] κ Q := h
theorem f_lnT (h : Q (.int (xs.length : Nat)) κ) : fLen [.node .tup xs] κ Q := h
theorem f_stI (h1 : i.natAbs.log2 < 1920) (h : Q (.str (toString i)) κ) : fStr [.int i] κ Q := ⟨h1, h⟩
theorem f_slS {p q : Option Int} (h1 : z.length ≤ sizeLine) (h : Q (.str (cutS z p q)) κ) : fSl m (.str z) p q κ Q := ⟨h1, h⟩
theorem f_ix0 (h : Q d κ) : fIx (.node .lst (d :: xs)) (.int 0) κ Q := by rw [ix_lst, at_0]; exact h
theorem f_ix1 (h : Q d κ) : fIx (.node .lst (x :: d :: xs)) (.int 1) κ Q := by rw [ix_lst, at_1]; exact h
theorem f_ix2 (h : Q d κ) : fIx (.node .lst (x :: y :: d :: xs)) (.int 2) κ Q := by rw [ix_lst, at_2]; exact h
theorem f_ic0 {N : Nat} (e : κ N = some (.live .lst (d :: xs))) (h : Q d κ) : fIx (.cell N) (.int 0) κ Q := by rw [ix_cell e, at_0]; exact h
theorem f_ic1 {N : Nat} (e : κ N = some (.live .lst (x :: d :: xs))) (h : Q d κ) : fIx (.cell N) (.int 1) κ Q := by rw [ix_cell e, at_1]; exact h
theorem f_ic2 {N : Nat} (e : κ N = some (.live .lst (x :: y :: d :: xs))) (h : Q d κ) : fIx (.cell N) (.int 2) κ Q := by rw [ix_cell e, at_2]; exact h
theorem f_ik0 {N : Nat} (h : Q d (kset κ N (.live .lst (d :: xs)))) : fIx (.cell N) (.int 0) (kset κ N (.live .lst (d :: xs))) Q := f_ic0 kset_same h
theorem f_ik1 {N : Nat} (h : Q d (kset κ N (.live .lst (x :: d :: xs)))) : fIx (.cell N) (.int 1) (kset κ N (.live .lst (x :: d :: xs))) Q := f_ic1 kset_same h
theorem f_ik2 {N : Nat} (h : Q d (kset κ N (.live .lst (x :: y :: d :: xs)))) : fIx (.cell N) (.int 2) (kset κ N (.live .lst (x :: y :: d :: xs))) Q := f_ic2 kset_same h
theorem f_se0 {N : Nat} {P : Kap → Prop} (e : κ N = some (.live .lst (x :: xs))) (h : P (kset κ N (.live .lst (d :: xs)))) : fSet (.cell N) (.int 0) d κ P := by rw [se_0 e]; exact h
theorem f_se2 {N : Nat} {v w : D} {P : Kap → Prop} (e : κ N = some (.live .lst (v :: w :: x :: xs))) (h : P (kset κ N (.live .lst (v :: w :: d :: xs)))) : fSet (.cell N) (.int 2) d κ P := by rw [se_2 e]; exact h
theorem f_it0 (h : Q d κ) : fIx (.node .tup (d :: xs)) (.int 0) κ Q := by rw [ix_tup, at_0]; exact h
theorem f_it1 (h : Q d κ) : fIx (.node .tup (x :: d :: xs)) (.int 1) κ Q := by rw [ix_tup, at_1]; exact h
theorem f_it2 (h : Q d κ) : fIx (.node .tup (x :: y :: d :: xs)) (.int 2) κ Q := by rw [ix_tup, at_2]; exact h
theorem g_n0 {e0 : Option D} {l : DEnv} (h : QG (some d :: l) κ) : gN 0 d (e0 :: l) κ X QG := h
theorem g_n1 {e0 e1 : Option D} {l : DEnv} (h : QG (e0 :: some d :: l) κ) : gN 1 d (e0 :: e1 :: l) κ X QG := h
theorem g_n2 {e0 e1 e2 : Option D} {l : DEnv} (h : QG (e0 :: e1 :: some d :: l) κ) : gN 2 d (e0 :: e1 :: e2 :: l) κ X QG := h
theorem g_n3 {e0 e1 e2 e3 : Option D} {l : DEnv} (h : QG (e0 :: e1 :: e2 :: some d :: l) κ) : gN 3 d (e0 :: e1 :: e2 :: e3 :: l) κ X QG := h
theorem g_n4 {e0 e1 e2 e3 e4 : Option D} {l : DEnv} (h : QG (e0 :: e1 :: e2 :: e3 :: some d :: l) κ) : gN 4 d (e0 :: e1 :: e2 :: e3 :: e4 :: l) κ X QG := h
theorem g_n5 {e0 e1 e2 e3 e4 e5 : Option D} {l : DEnv} (h : QG (e0 :: e1 :: e2 :: e3 :: e4 :: some d :: l) κ) : gN 5 d (e0 :: e1 :: e2 :: e3 :: e4 :: e5 :: l) κ X QG := h
theorem g_n6 {e0 e1 e2 e3 e4 e5 e6 : Option D} {l : DEnv} (h : QG (e0 :: e1 :: e2 :: e3 :: e4 :: e5 :: some d :: l) κ) : gN 6 d (e0 :: e1 :: e2 :: e3 :: e4 :: e5 :: e6 :: l) κ X QG := h
theorem g_n7 {e0 e1 e2 e3 e4 e5 e6 e7 : Option D} {l : DEnv} (h : QG (e0 :: e1 :: e2 :: e3 :: e4 :: e5 :: e6 :: some d :: l) κ) : gN 7 d (e0 :: e1 :: e2 :: e3 :: e4 :: e5 :: e6 :: e7 :: l) κ X QG := h
theorem g_n8 {e0 e1 e2 e3 e4 e5 e6 e7 e8 : Option D} {l : DEnv} (h : QG (e0 :: e1 :: e2 :: e3 :: e4 :: e5 :: e6 :: e7 :: some d :: l) κ) : gN 8 d (e0 :: e1 :: e2 :: e3 :: e4 :: e5 :: e6 :: e7 :: e8 :: l) κ X QG := h
theorem g_n9 {e0 e1 e2 e3 e4 e5 e6 e7 e8 e9 : Option D} {l : DEnv} (h : QG (e0 :: e1 :: e2 :: e3 :: e4 :: e5 :: e6 :: e7 :: e8 :: some d :: l) κ) : gN 9 d (e0 :: e1 :: e2 :: e3 :: e4 :: e5 :: e6 :: e7 :: e8 :: e9 :: l) κ X QG := h
theorem g_n10 {e0 e1 e2 e3 e4 e5 e6 e7 e8 e9 e10 : Option D} {l : DEnv} (h : QG (e0 :: e1 :: e2 :: e3 :: e4 :: e5 :: e6 :: e7 :: e8 :: e9 :: some d :: l) κ) : gN 10 d (e0 :: e1 :: e2 :: e3 :: e4 :: e5 :: e6 :: e7 :: e8 :: e9 :: e10 :: l) κ X QG := h
theorem g_n11 {e0 e1 e2 e3 e4 e5 e6 e7 e8 e9 e10 e11 : Option D} {l : DEnv} (h : QG (e0 :: e1 :: e2 :: e3 :: e4 :: e5 :: e6 :: e7 :: e8 :: e9 :: e10 :: some d :: l) κ) : gN 11 d (e0 :: e1 :: e2 :: e3 :: e4 :: e5 :: e6 :: e7 :: e8 :: e9 :: e10 :: e11 :: l) κ X QG := h
end
end DL
/-! DT: texts of a bounded length, of code points. -/
namespace DL
open PySem PySem.Spec PyProof.Rows L2
def Tx (n : Nat) (x : Str) : Prop := x.length ≤ n ∧ ∀ c ∈ x.cps.toList, c < 0x110000
theorem Tx.mono {n m : Nat} {x : Str} (h : Tx n x) (hm : n ≤ m) : Tx m x := ⟨Nat.le_trans h.1 hm, h.2⟩
theorem Tx.app {n m : Nat} {x y : Str} (h : Tx n x) (h' : Tx m y) : Tx (n + m) (x ++ y) := ⟨by
    rw [len_app]
    exact Nat.add_le_add h.1 h'.1, fun c hc => by
    have e : (x ++ y).cps.toList = x.cps.toList ++ y.cps.toList := Array.toList_append
    rw [e] at hc
    rcases List.mem_append.mp hc with hc | hc
    · exact h.2 c hc
    · exact h'.2 c hc⟩
theorem Tx.cut {n : Nat} {x : Str} (h : Tx n x) (p q : Option Int) : Tx n (cutS x p q) := ⟨Nat.le_trans (len_cut x p q) h.1, fun c hc => by
    have e : (cutS x p q).cps.toList = (x.cps.toList.drop (HT.sIx x.length 0 p)).take (HT.sIx x.length x.length q - HT.sIx x.length 0 p) := rfl
    rw [e] at hc
    exact h.2 c (List.drop_subset _ _ (List.take_subset _ _ hc))⟩
theorem Tx.one {c : Nat} (h : c < 0x110000) : Tx 1 ⟨#[c]⟩ := ⟨Nat.le_refl _, fun d hd => by
    have : d ∈ [c] := hd
    rw [List.mem_singleton.mp this]
    exact h⟩
theorem Tx.of {n : Nat} (s : String) (h : (Str.ofString s).length ≤ n) : Tx n (Str.ofString s) := ⟨h, fun c hc => by
    rw [PySem.Str.ofString_eq_toList] at hc
    have hc' : c ∈ s.toList.map Char.toNat := hc
    obtain ⟨ch, _, rfl⟩ := List.mem_map.mp hc'
    rcases ch.valid with h | ⟨_, h⟩
    · exact Nat.lt_trans h (by decide)
    · exact h⟩
theorem Tx.num {i : Int} (h : i.natAbs.log2 < 1920) : Tx 1921 (toString i : String) := Tx.of _ (PyProof.Rows.int_text_len_1921 h)
theorem Tx.emp : Tx 0 (Str.ofString "") := Tx.of _ (by rw [len_emp]; exact Nat.le_refl _)
theorem Tx.join {n : Nat} : ∀ {ys : List Str}, (∀ y ∈ ys, Tx n y) → Tx (ys.length * n) (Str.join "" ys)
  | [], _ => Tx.emp.mono (Nat.zero_le _)
  | [x], h => by
    have := h x List.mem_cons_self
    exact this.mono (by simp)
  | x :: y :: r, h => by
    have h1 := h x List.mem_cons_self
    have h2 := Tx.join (ys := y :: r) fun z hz => h z (List.mem_cons_of_mem _ hz)
    have := (h1.app Tx.emp).app h2
    exact this.mono (by simp only [List.length_cons, Nat.add_mul, Nat.one_mul]; omega)
theorem Tx.sum {n : Nat} : ∀ {ys : List Str}, (∀ y ∈ ys, Tx n y) → (ys.map (·.length)).sum ≤ ys.length * n
  | [], _ => Nat.zero_le _
  | y :: ys, h => by
    have h1 := (h y List.mem_cons_self).1
    have h2 := Tx.sum (ys := ys) fun z hz => h z (List.mem_cons_of_mem _ hz)
    rw [List.map_cons, List.sum_cons, List.length_cons, Nat.add_mul, Nat.one_mul]
    omega
theorem Tx.shaped {n : Nat} {x : Str} (h : Tx n x) : SeqAt.shaped (.str x) = true := by
  have : PyData.strOk x = true := by
    unfold PyData.strOk
    rw [Array.all_eq_true']
    intro c hc
    exact decide_eq_true (h.2 c (Array.mem_toList_iff.mpr hc))
  show ((PyData.strOk x) && decide _) = true
  rw [this]
  rfl
/-- a sign of a text -/
theorem Tx.at {n : Nat} {x : Str} {i : Int} (h : Tx n x) (h0 : 0 ≤ i) (h1 : i < x.length) : ∃ c, atI x.cps.toList i = some c ∧ Tx 1 ⟨#[c]⟩ := by
  obtain ⟨c, e, hc⟩ := at_of (xs := x.cps.toList) h0 (by rw [Array.length_toList]; exact h1)
  exact ⟨c, e, .one (h.2 c hc)⟩
theorem f_adT {n m : Nat} {z v : Str} {k : Bool} {κ : Kap} {Q : DQ} (h : Tx n z) (h' : Tx m v) (hs : n + m ≤ 16777216) (q : Tx (n + m) (z ++ v) → Q (.str (z ++ v)) κ) : fAdd k (.str z) (.str v) κ Q :=
  ⟨by have h1 := h.1; have h2 := h'.1; unfold sizeLine; omega, q (h.app h')⟩
theorem f_slT {n : Nat} {z : Str} {k : Bool} {u v : Option Int} {κ : Kap} {Q : DQ} (h : Tx n z) (hs : n ≤ 16777216) (q : Tx n (cutS z u v) → Q (.str (cutS z u v)) κ) : fSl k (.str z) u v κ Q :=
  ⟨Nat.le_trans h.1 hs, q (h.cut u v)⟩
theorem f_lnTx {n : Nat} {z : Str} {κ : Kap} {Q : DQ} (h : Tx n z) (hs : n ≤ 16777216) (q : z.length ≤ n → Q (.int (z.length : Nat)) κ) : fLen [.str z] κ Q := ⟨Nat.le_trans h.1 hs, q h.1⟩
end DL
/-! DN: numbers as tops and bases. -/
namespace DL
open PySem PySem.Spec PyProof.Rows L2
/-! texts of data -/
theorem Tx.list {n : Nat} {ts : List Str} (h : ∀ t ∈ ts, Tx n t) : Tx (ts.length * (n + 2) + 2) (listText ts) := by
  have t1 : Tx 1 (Str.ofString "[") := .of _ (by decide +kernel)
  have t2 : Tx 1 (Str.ofString "]") := .of _ (by decide +kernel)
  have t3 : Tx 2 (Str.ofString ", ") := .of _ (by decide +kernel)
  have go : ∀ (ts : List Str) (k : Nat) (acc : Str) (m : Nat), (∀ t ∈ ts, Tx n t) → Tx m acc → Tx (m + ts.length * (n + 2)) (textFrom k acc ts) := by
    intro ts
    induction ts with
    | nil => intro k acc m _ ha; exact ha.mono (by simp)
    | cons t r ih =>
      intro k acc m ht ha
      have h1 := ht t List.mem_cons_self
      have h0 : Tx 2 (Str.ofString (if k > 0 then ", " else "")) := by
        split
        · exact t3
        · exact Tx.emp.mono (by decide)
      have := ih (k + 1) _ (m + 2 + n) (fun z hz => ht z (List.mem_cons_of_mem _ hz)) ((ha.app h0).app h1)
      refine this.mono ?_
      rw [List.length_cons, Nat.add_mul]
      omega
  exact ((go ts 0 _ 1 h t1).app t2).mono (by omega)
theorem Tx.joinC {n : Nat} : ∀ {ys : List Str}, (∀ y ∈ ys, Tx n y) → Tx (ys.length * (n + 2)) (Str.join ", " ys)
  | [], _ => Tx.emp.mono (Nat.zero_le _)
  | [x], h => (h x List.mem_cons_self).mono (by simp)
  | x :: y :: r, h => by
    have t3 : Tx 2 (Str.ofString ", ") := .of _ (by decide +kernel)
    have h1 := h x List.mem_cons_self
    have h2 := Tx.joinC (ys := y :: r) fun z hz => h z (List.mem_cons_of_mem _ hz)
    have := (h1.app t3).app h2
    exact this.mono (by simp only [List.length_cons, Nat.add_mul, Nat.one_mul]; omega)
theorem Tx.tuple {n : Nat} {ts : List Str} (h : ∀ t ∈ ts, Tx n t) : Tx (ts.length * (n + 2) + 3) (tupleText ts) := by
  have t1 : Tx 1 (Str.ofString "(") := .of _ (by decide +kernel)
  have t2 : Tx 2 (Str.ofString (if ts.length == 1 then ",)" else ")")) := by
    split
    · exact .of _ (by decide +kernel)
    · exact (Tx.of (n := 1) _ (by decide +kernel)).mono (by decide)
  exact ((t1.app (Tx.joinC h)).app t2).mono (by omega)
theorem shownAll_mem : ∀ {ps : List PyData} {t : Str}, t ∈ PyData.shownAll ps → ∃ p ∈ ps, t = p.shown
  | [], _, h => absurd h List.not_mem_nil
  | p :: ps, t, h => by
    rcases List.mem_cons.mp (show t ∈ p.shown :: PyData.shownAll ps from h) with h | h
    · exact ⟨p, List.mem_cons_self, h⟩
    · obtain ⟨q, hq, e⟩ := shownAll_mem h
      exact ⟨q, List.mem_cons_of_mem _ hq, e⟩
theorem shownAll_len : ∀ {ps : List PyData}, (PyData.shownAll ps).length = ps.length
  | [] => rfl
  | p :: ps => by
    show (p.shown :: PyData.shownAll ps).length = _
    rw [List.length_cons, List.length_cons, shownAll_len]
/-- data whose text is of a bounded length -/
def Sh (n : Nat) (p : PyData) : Prop := p.showable = true ∧ Tx n p.shown
theorem Sh.mono {n m : Nat} {p : PyData} (h : Sh n p) (hm : n ≤ m) : Sh m p := ⟨h.1, h.2.mono hm⟩
theorem Sh.int {i : Int} (h : i.natAbs.log2 < 1920) : Sh 1921 (.int i) := ⟨by
  show decide _ = true
  exact decide_eq_true h, Tx.num h⟩
theorem Sh.all {n : Nat} : ∀ {ps : List PyData}, (∀ p ∈ ps, Sh n p) → PyData.showableAll ps = true
  | [], _ => rfl
  | p :: ps, h => by
    show (p.showable && PyData.showableAll ps) = true
    rw [(h p List.mem_cons_self).1, Sh.all fun q hq => h q (List.mem_cons_of_mem _ hq)]
    rfl
theorem Sh.list {n : Nat} {ps : List PyData} (h : ∀ p ∈ ps, Sh n p) : Sh (ps.length * (n + 2) + 2) (.list ps) := ⟨Sh.all h, by
  show Tx _ (listText (PyData.shownAll ps))
  rw [← shownAll_len]
  exact Tx.list fun t ht => by
    obtain ⟨p, hp, rfl⟩ := shownAll_mem ht
    exact (h p hp).2⟩
theorem Sh.tuple {n : Nat} {ps : List PyData} (h : ∀ p ∈ ps, Sh n p) : Sh (ps.length * (n + 2) + 3) (.tuple ps) := ⟨Sh.all h, by
  show Tx _ (tupleText (PyData.shownAll ps))
  rw [← shownAll_len]
  exact Tx.tuple fun t ht => by
    obtain ⟨p, hp, rfl⟩ := shownAll_mem ht
    exact (h p hp).2⟩
/-! shape of data -/
/-- data that compares: how deep at most -/
def Sp (k : Nat) (p : PyData) : Prop := p.canLay0 = true ∧ p.depth ≤ k
theorem Sp.mono {k m : Nat} {p : PyData} (h : Sp k p) (hm : k ≤ m) : Sp m p := ⟨h.1, Nat.le_trans h.2 hm⟩
theorem Sp.int {i : Int} : Sp 0 (.int i) := ⟨rfl, Nat.le_refl _⟩
theorem Sp.bool {b : Bool} : Sp 0 (.bool b) := ⟨rfl, Nat.le_refl _⟩
theorem Sp.none : Sp 0 .none := ⟨rfl, Nat.le_refl _⟩
theorem Sp.str {n : Nat} {x : Str} (h : Tx n x) : Sp 0 (.str x) := ⟨by
  show PyData.strOk x = true
  unfold PyData.strOk
  rw [Array.all_eq_true']
  intro c hc
  exact decide_eq_true (h.2 c (Array.mem_toList_iff.mpr hc)), Nat.le_refl _⟩
theorem Sp.all {k : Nat} : ∀ {ps : List PyData}, (∀ p ∈ ps, Sp k p) → PyData.canLayAll0 ps = true ∧ PyData.depthAll ps ≤ k
  | [], _ => ⟨rfl, Nat.zero_le _⟩
  | p :: ps, h => by
    obtain ⟨a, b⟩ := Sp.all fun q hq => h q (List.mem_cons_of_mem _ hq)
    obtain ⟨c, d⟩ := h p List.mem_cons_self
    refine ⟨?_, ?_⟩
    · show (p.canLay0 && PyData.canLayAll0 ps) = true
      rw [a, c]
      rfl
    · show max p.depth (PyData.depthAll ps) ≤ k
      omega
theorem Sp.list {k : Nat} {ps : List PyData} (h : ∀ p ∈ ps, Sp k p) : Sp (k + 1) (.list ps) := ⟨(Sp.all h).1, by
  show PyData.depthAll ps + 1 ≤ k + 1
  have := (Sp.all h).2
  omega⟩
theorem Sp.tuple {k : Nat} {ps : List PyData} (h : ∀ p ∈ ps, Sp k p) : Sp (k + 1) (.tuple ps) := ⟨(Sp.all h).1, by
  show PyData.depthAll ps + 1 ≤ k + 1
  have := (Sp.all h).2
  omega⟩
theorem Sp.shaped {k : Nat} {p : PyData} (h : Sp k p) (hk : k ≤ 64) : SeqAt.shaped p = true := by
  show (p.canLay0 && decide (p.depth ≤ 64)) = true
  rw [h.1, decide_eq_true (Nat.le_trans h.2 hk)]
  rfl
theorem pdataL_map {α : Type} {f : α → D} {g : α → PyData} (h : ∀ a, pdata (f a) = some (g a)) : ∀ l : List α, pdataL (l.map f) = some (l.map g)
  | [] => rfl
  | a :: l => by
    show (match pdata (f a), pdataL (l.map f) with
      | some p, some ps => some (p :: ps)
      | _, _ => none) = _
    rw [h a, pdataL_map h l]
    rfl
theorem pdata_list {xs : List D} {ps : List PyData} (h : pdataL xs = some ps) : pdata (.node .lst xs) = some (.list ps) := by
  show (match pdataL xs with
    | some ps => some (PyData.list ps)
    | none => none) = _
  rw [h]
/-! the greatest common part -/
theorem gcd_step {x y : Nat} (h : y ≠ 0) : Nat.gcd y (x % y) = Nat.gcd x y := by
  rw [Nat.gcd_comm x y, Nat.gcd_rec y x, Nat.gcd_comm]
theorem abs_nat (i : Int) : (if i < 0 then -i else i) = (i.natAbs : Int) := by
  split <;> omega
/-- the part by which a number is shortened -/
def cpt (u l : Int) : Int := if l < 0 then 0 - (Int.gcd u l : Int) else (Int.gcd u l : Int)
theorem cpt_ne {u l : Int} (h : l ≠ 0) : cpt u l ≠ 0 := by
  have := Int.gcd_pos_of_ne_zero_right u h
  unfold cpt
  split <;> omega
def rtn (u l : Int) : Int := u.fdiv (cpt u l)
def rtd (u l : Int) : Int := l.fdiv (cpt u l)
theorem cpt_dvd_l (u l : Int) : cpt u l ∣ u := by
  unfold cpt
  split
  · rw [Int.zero_sub]
    exact Int.neg_dvd.mpr (Int.gcd_dvd_left ..)
  · exact Int.gcd_dvd_left ..
theorem cpt_dvd_r (u l : Int) : cpt u l ∣ l := by
  unfold cpt
  split
  · rw [Int.zero_sub]
    exact Int.neg_dvd.mpr (Int.gcd_dvd_right ..)
  · exact Int.gcd_dvd_right ..
theorem rtn_mul (u l : Int) : rtn u l * cpt u l = u := Int.fdiv_mul_cancel (cpt_dvd_l u l)
theorem rtd_mul (u l : Int) : rtd u l * cpt u l = l := Int.fdiv_mul_cancel (cpt_dvd_r u l)
/-- in lowest terms, the base above nought -/
def NOk (a b : Int) : Prop := 0 < b ∧ Int.gcd a b = 1
theorem NOk.one (a : Int) : NOk a 1 := ⟨by decide, by rw [Int.gcd_one_right]⟩
theorem rt_ok {u l : Int} (h : l ≠ 0) : NOk (rtn u l) (rtd u l) := by
  have hp := cpt_ne (u := u) h
  have e1 := rtn_mul u l
  have e2 := rtd_mul u l
  have hg := Int.gcd_pos_of_ne_zero_right u h
  have ha : (cpt u l).natAbs = Int.gcd u l := by unfold cpt; split <;> omega
  refine ⟨?_, ?_⟩
  · by_cases hl : l < 0
    · have hc : cpt u l < 0 := by unfold cpt; rw [if_pos hl]; omega
      rcases Int.lt_trichotomy 0 (rtd u l) with h1 | h1 | h1
      · exact h1
      · rw [← h1, Int.zero_mul] at e2; omega
      · have := Int.mul_pos_of_neg_of_neg h1 hc; omega
    · have hc : 0 < cpt u l := by unfold cpt; rw [if_neg hl]; omega
      rcases Int.lt_trichotomy 0 (rtd u l) with h1 | h1 | h1
      · exact h1
      · rw [← h1, Int.zero_mul] at e2; omega
      · have := Int.mul_neg_of_neg_of_pos h1 hc; omega
  · have e : Int.gcd (rtn u l * cpt u l) (rtd u l * cpt u l) = Int.gcd (rtn u l) (rtd u l) * (cpt u l).natAbs := Int.gcd_mul_right ..
    rw [e1, e2, ha] at e
    have : 1 * Int.gcd u l = Int.gcd (rtn u l) (rtd u l) * Int.gcd u l := by rw [Nat.one_mul]; exact e
    exact (Nat.eq_of_mul_eq_mul_right hg this).symm
theorem nat_uniq {a b c d : Nat} (hb : Nat.Coprime a b) (hd : Nat.Coprime c d) (h : a * d = c * b) : b = d := by
  have h1 : b ∣ d := by
    have : b ∣ a * d := ⟨c, by rw [h, Nat.mul_comm]⟩
    exact (Nat.Coprime.symm hb).dvd_of_dvd_mul_left this
  have h2 : d ∣ b := by
    have : d ∣ c * b := ⟨a, by rw [← h, Nat.mul_comm]⟩
    exact (Nat.Coprime.symm hd).dvd_of_dvd_mul_left this
  exact Nat.dvd_antisymm h1 h2
theorem NOk.uniq {a b c d : Int} (h : NOk a b) (h' : NOk c d) (e : a * d = c * b) : a = c ∧ b = d := by
  have hb : b = d := by
    have h1 : a.natAbs * d.natAbs = c.natAbs * b.natAbs := by rw [← Int.natAbs_mul, ← Int.natAbs_mul, e]
    have := nat_uniq (show Nat.Coprime a.natAbs b.natAbs from h.2) (show Nat.Coprime c.natAbs d.natAbs from h'.2) h1
    have h2 := h.1
    have h3 := h'.1
    omega
  subst hb
  exact ⟨Int.eq_of_mul_eq_mul_right (Int.ne_of_gt h.1) e, rfl⟩
theorem rt_cross {u l : Int} : rtn u l * l = u * rtd u l := by
  have e1 := rtn_mul u l
  have e2 := rtd_mul u l
  calc rtn u l * l = rtn u l * (rtd u l * cpt u l) := by rw [e2]
    _ = rtn u l * cpt u l * rtd u l := by rw [Int.mul_comm (rtd u l), Int.mul_assoc]
    _ = u * rtd u l := by rw [e1]
/-- what is shortened to the same -/
theorem rt_is {u l a b : Int} (hl : l ≠ 0) (h : NOk a b) (e : a * l = u * b) : rtn u l = a ∧ rtd u l = b := by
  refine (rt_ok hl).uniq h ?_
  have h1 := rt_cross (u := u) (l := l)
  have h3 : (rtn u l * b) * l = (a * rtd u l) * l := by
    calc (rtn u l * b) * l = (rtn u l * l) * b := by rw [Int.mul_assoc, Int.mul_comm b l, ← Int.mul_assoc]
      _ = u * rtd u l * b := by rw [h1]
      _ = u * b * rtd u l := by rw [Int.mul_assoc, Int.mul_comm (rtd u l) b, ← Int.mul_assoc]
      _ = a * l * rtd u l := by rw [e]
      _ = (a * rtd u l) * l := by rw [Int.mul_assoc, Int.mul_comm l (rtd u l), ← Int.mul_assoc]
  exact Int.eq_of_mul_eq_mul_right hl h3
theorem abs_le_of_mul {a p u : Int} (e : a * p = u) (hp : p ≠ 0) : a.natAbs ≤ u.natAbs := by
  rw [← e, Int.natAbs_mul]
  exact Nat.le_mul_of_pos_right _ (by omega)
theorem rtn_le {u l : Int} (h : l ≠ 0) : (rtn u l).natAbs ≤ u.natAbs := abs_le_of_mul (rtn_mul u l) (cpt_ne h)
theorem rtd_le {u l : Int} (h : l ≠ 0) : (rtd u l).natAbs ≤ l.natAbs := abs_le_of_mul (rtd_mul u l) (cpt_ne h)
/-- a number, as it stands in the program -/
def nb (a b : Int) : D := if b = 1 then .int a else .node .tup [.int a, .int b]
def nbP (a b : Int) : PyData := if b = 1 then .int a else .tuple [.int a, .int b]
theorem nb_1 (a : Int) : nb a 1 = .int a := rfl
theorem nb_p {a b : Int} (h : b ≠ 1) : nb a b = .node .tup [.int a, .int b] := if_neg h
theorem nb_pdata (a b : Int) : pdata (nb a b) = some (nbP a b) := by
  unfold nb nbP
  split <;> rfl
theorem nbP_sp (a b : Int) : Sp 1 (nbP a b) := by
  unfold nbP
  split
  · exact Sp.int.mono (by decide)
  · exact Sp.tuple (k := 0) fun p hp => by
      simp only [List.mem_cons, List.not_mem_nil, or_false] at hp
      rcases hp with rfl | rfl <;> exact Sp.int
theorem eqv_int (a b : Int) : PyData.eqv (.int a) (.int b) = decide (a = b) := by
  show (a == b) = _
  by_cases h : a = b <;> simp [h]
theorem eqv_pair (a b c d : Int) : PyData.eqv (.tuple [.int a, .int b]) (.tuple [.int c, .int d]) = (decide (a = c) && decide (b = d)) := by
  show (PyData.eqv (.int a) (.int c) && (PyData.eqv (.int b) (.int d) && true)) = _
  rw [eqv_int, eqv_int, Bool.and_true]
theorem nbP_eqv {a b c d : Int} : PyData.eqv (nbP a b) (nbP c d) = decide (a = c ∧ b = d) := by
  unfold nbP
  by_cases hb : b = 1
  · by_cases hd : d = 1
    · rw [if_pos hb, if_pos hd, eqv_int, hb, hd]
      simp
    · rw [if_pos hb, if_neg hd]
      show false = _
      rw [decide_eq_false]
      omega
  · by_cases hd : d = 1
    · rw [if_neg hb, if_pos hd]
      show false = _
      rw [decide_eq_false]
      omega
    · rw [if_neg hb, if_neg hd, eqv_pair]
      simp
theorem f_eqP {a b c d : Int} {κ : Kap} {Q : DQ} (h : Q (.bl (decide (a = c ∧ b = d))) κ) : fEq (.node .tup [.int a, .int b]) (.node .tup [.int c, .int d]) κ Q := by
  have sp : ∀ a b : Int, SeqAt.shaped (.tuple [.int a, .int b]) = true := fun a b => (Sp.tuple (k := 0) fun p hp => by
    simp only [List.mem_cons, List.not_mem_nil, or_false] at hp
    rcases hp with rfl | rfl <;> exact Sp.int).shaped (by decide)
  refine eq_dat (p := .tuple [.int a, .int b]) (q := .tuple [.int c, .int d]) rfl rfl (sp _ _) (sp _ _) ?_
  rw [eqv_pair, ← Bool.decide_and]
  exact h
/-! calls by keywords -/
section
variable {δ : DEnv} {κ : Kap} {X : DX} {Q : DQ} {as kw : DA} {sp : DSp} {n m : Nat} {is : List Nat} {dds : List D}
theorem e_callC (h : as δ κ X fun xs κ1 => kw δ κ1 X fun ys κ2 => cC sp n m is dds xs ys κ2 (X δ) Q) : dCallC sp n m is dds as kw δ κ X Q := h
theorem c_C {xs ys zs : List D} {Y : Str → List D → Kap → Prop} (h1 : xs.length = n) (h2 : ys.length = m) (h3 : pick is (xs ++ (ys ++ dds)) = zs) (h : sp zs κ Y Q) : cC sp n m is dds xs ys κ Y Q := ⟨h1, h2, by rw [h3]; exact h⟩
end
end DL
namespace DL
open PySem PySem.Spec PyProof.Rows L2
/-- a number in lowest terms, of a bounded size -/
structure Nd (k : Nat) (a b : Int) : Prop where
  ok : NOk a b
  tb : a.natAbs < 2 ^ k
  bb : b.natAbs < 2 ^ k
theorem Nd.mono {k m : Nat} {a b : Int} (h : Nd k a b) (hm : k ≤ m) : Nd m a b :=
  ⟨h.ok, Nat.lt_of_lt_of_le h.tb (Nat.pow_le_pow_right (by decide) hm), Nat.lt_of_lt_of_le h.bb (Nat.pow_le_pow_right (by decide) hm)⟩
theorem Nd.rt {k : Nat} {u l : Int} (hl : l ≠ 0) (h1 : u.natAbs < 2 ^ k) (h2 : l.natAbs < 2 ^ k) : Nd k (rtn u l) (rtd u l) :=
  ⟨rt_ok hl, Nat.lt_of_le_of_lt (rtn_le hl) h1, Nat.lt_of_le_of_lt (rtd_le hl) h2⟩
theorem mul_bd {i j : Int} {a b : Nat} (h : i.natAbs < 2 ^ a) (h' : j.natAbs < 2 ^ b) : (i * j).natAbs < 2 ^ (a + b) := by
  rw [Int.natAbs_mul, Nat.pow_add]
  exact Nat.mul_lt_mul'' h h'
theorem add_bd {i j : Int} {a : Nat} (h : i.natAbs < 2 ^ a) (h' : j.natAbs < 2 ^ a) : (i + j).natAbs < 2 ^ (a + 1) := by
  have := Int.natAbs_add_le i j
  rw [Nat.pow_succ]
  omega
theorem sub_bd {i j : Int} {a : Nat} (h : i.natAbs < 2 ^ a) (h' : j.natAbs < 2 ^ a) : (i - j).natAbs < 2 ^ (a + 1) := by
  have := Int.natAbs_sub_le i j
  rw [Nat.pow_succ]
  omega
theorem bd_mono {i : Int} {a b : Nat} (h : i.natAbs < 2 ^ a) (hm : a ≤ b) : i.natAbs < 2 ^ b := Nat.lt_of_lt_of_le h (Nat.pow_le_pow_right (by decide) hm)
end DL
namespace DL
open PySem PySem.Spec PyProof.Rows L2
theorem fdiv_abs_le {x y : Int} (hy : 0 < y) : (x.fdiv y).natAbs ≤ x.natAbs + 1 := by
  have h1 := Int.mul_fdiv_add_fmod x y
  have h2 : x.fmod y < y := Int.fmod_lt_of_pos x hy
  have h3 : 0 ≤ x.fmod y := Int.fmod_nonneg_of_pos x hy
  generalize x.fdiv y = q at h1 ⊢
  generalize x.fmod y = r at h1 h2 h3
  subst h1
  by_cases hq : q = 0
  · subst hq; omega
  · have hb : q.natAbs ≤ (y * q).natAbs := by rw [Int.natAbs_mul]; exact Nat.le_mul_of_pos_left _ (by omega)
    rcases Int.lt_or_gt_of_ne hq with hq | hq
    · have e : (y * (q + 1)).natAbs = (y).natAbs * (q + 1).natAbs := Int.natAbs_mul ..
      have h5 : y * (q + 1) ≤ 0 := Int.mul_nonpos_of_nonneg_of_nonpos (by omega) (by omega)
      have h6 : y * (q + 1) = y * q + y := by rw [Int.mul_add, Int.mul_one]
      have h7 : (q + 1).natAbs ≤ y.natAbs * (q + 1).natAbs := Nat.le_mul_of_pos_left _ (by omega)
      omega
    · have h6 : 0 < y * q := Int.mul_pos hy hq
      omega
theorem f_intB {k : Bool} {κ : Kap} {Q : DQ} (h : Q (.int (if k = true then 1 else 0)) κ) : fInt [.bl k] κ Q := h
theorem f_intI {i : Int} {κ : Kap} {Q : DQ} (h : Q (.int i) κ) : fInt [.int i] κ Q := h
end DL
/-! DQ: steps: lists that grow, short loops, odd things. -/
namespace DL
open PySem PySem.Spec PyProof.Rows L2
section
variable {δ : DEnv} {κ : Kap} {X : DX} {Q : DQ} {a : DE} {as : DA} {T : String} {f : D1N} {n : Nat} {xs ds : List D} {d : D} {g : DG} {s : DS} {gd : Kap → Prop} {nx bk ct : DEnv → Kap → Prop} {rt : DQ} {A : Prop}
theorem e_bm (h : a δ κ X fun x κ1 => isSeq T x κ1 ∧ as δ κ1 X fun xs κ2 => f x xs κ2 Q) : dBM T f a as δ κ X Q := h
theorem isq_node (h : A) : isSeq "list" (.node .lst xs) κ ∧ A := ⟨⟨xs, rfl⟩, h⟩
theorem isq_cell (e : κ n = some (.live .lst xs)) (h : A) : isSeq "list" (.cell n) κ ∧ A := ⟨⟨xs, vw_cell e⟩, h⟩
theorem f_app (e : κ n = some (.live .lst xs)) (hl : xs.length < 16777216) (h : Q .non (kset κ n (.live .lst (xs ++ [d])))) : fAppend (.cell n) [d] κ Q := ⟨xs, e, hl, h⟩
theorem ix_memC {i : Int} (e : κ n = some (.live .lst xs)) (h0 : 0 ≤ i) (h1 : i < xs.length) (h : ∀ d ∈ xs, Q d κ) : fIx (.cell n) (.int i) κ Q := by
  rw [ix_cell e]
  obtain ⟨d, e, hd⟩ := at_of h0 h1
  exact ⟨d, e, h d hd⟩
theorem f_lnC (e : κ n = some (.live .lst xs)) (h : Q (.int (xs.length : Nat)) κ) : fLen [.cell n] κ Q := by
  unfold fLen
  simp only [vw_cell e]
  exact h
/-- a loop, turn by turn -/
theorem dl_cons (hg : gd κ) (h : g d δ κ X fun δ1 κ1 => s δ1 κ1 X ⟨dLoop g s gd X ⟨nx, rt, bk, ct⟩ ds, rt, nx, dLoop g s gd X ⟨nx, rt, bk, ct⟩ ds⟩) : dLoop g s gd X ⟨nx, rt, bk, ct⟩ (d :: ds) δ κ := ⟨hg, h⟩
theorem dl_nil (hg : gd κ) (h : nx δ κ) : dLoop g s gd X ⟨nx, rt, bk, ct⟩ [] δ κ := ⟨hg, h⟩
theorem f_neSS {z : Str} (h : SeqAt.shaped (.str z) = true) (q : Q (.bl false) κ) : fNe (.str z) (.str z) κ Q := f_neS h h (by rw [beq_self_eq_true]; exact q)
theorem repr_pd {x : D} {p : PyData} (hp : Pd κ x p) (h1 : p.showable = true) (h2 : p.depth ≤ 60) (h3 : p.shown.length ≤ sizeLine) (h : Q (.str p.shown) κ) : fRepr [x] κ Q := ⟨p, hp, h1, h2, h3, h⟩
theorem ty_cell {k : Kd} (e : κ n = some (.live k xs)) : tyK (.cell n) κ = kdTy k := by
  show (view (.cell n) κ).bind (fun p => kdTy p.1) = _
  rw [vw_cell e]
  rfl
end
/-! odd things: plain ones, lists and dicts that grow -/
end DL
namespace DL
open PySem PySem.Spec PyProof.Rows L2
section
variable {δ : DEnv} {κ : Kap} {X : DX} {Q : DQ} {a b : DE} {x y : D} {k : Bool}
theorem kk {m n : Nat} {c c' : Cell} (e : κ m = some c) (h : κ n = none) : kset κ n c' m = some c := by
  rw [kset_ne (kne e h)]
  exact e
theorem kp {m n : Nat} {c c' : Cell} (e : κ m = some c) (h : m ≠ n) : kset κ n c' m = some c := by
  rw [kset_ne h]
  exact e
theorem kd {m n : Nat} {c c' : Cell} (e : κ m = some c) (e' : κ n = some c') (h : c ≠ c') : m ≠ n := fun q => h (by rw [q, e'] at e; exact (Option.some.inj e).symm)
end
theorem pd_cl {κ : Kap} {n : Nat} {xs : List D} {ps : List PyData} (e : κ n = some (.live .lst xs)) (h : pdataL xs = some ps) : Pd κ (.cell n) (.list ps) := .lst (vw_cell e) (pdL_of h)
end DL
/-! DR: numbers as rational ones. -/
namespace DL
open PySem PySem.Spec PyProof.Rows L2
def nq (q : Rat) : D := nb q.num q.den
def Sz (k : Nat) (q : Rat) : Prop := q.num.natAbs < 2 ^ k ∧ q.den < 2 ^ k
theorem nq_ok (q : Rat) : NOk q.num q.den := ⟨by have := q.den_pos; omega, q.reduced⟩
theorem rt_q {u l : Int} (hl : l ≠ 0) : rtn u l = (Rat.divInt u l).num ∧ rtd u l = ((Rat.divInt u l).den : Int) := by
  refine rt_is hl (nq_ok _) ?_
  have h := Rat.num_divInt_den (Rat.divInt u l)
  have hd : ((Rat.divInt u l).den : Int) ≠ 0 := by have := (Rat.divInt u l).den_pos; omega
  exact (Rat.divInt_eq_divInt_iff hd hl).mp h
theorem nb_rt {u l : Int} (hl : l ≠ 0) : nb (rtn u l) (rtd u l) = nq (Rat.divInt u l) := by
  unfold nq
  rw [(rt_q hl).1, (rt_q hl).2]
theorem Sz.divInt {k : Nat} {u l : Int} (hl : l ≠ 0) (h1 : u.natAbs < 2 ^ k) (h2 : l.natAbs < 2 ^ k) : Sz k (Rat.divInt u l) := by
  have n := Nd.rt hl h1 h2
  rw [(rt_q hl).1, (rt_q hl).2] at n
  exact ⟨n.tb, by have := n.bb; omega⟩
theorem Sz.mono {k m : Nat} {q : Rat} (h : Sz k q) (hm : k ≤ m) : Sz m q := ⟨Nat.lt_of_lt_of_le h.1 (Nat.pow_le_pow_right (by decide) hm), Nat.lt_of_lt_of_le h.2 (Nat.pow_le_pow_right (by decide) hm)⟩
theorem Sz.db {k : Nat} {q : Rat} (h : Sz k q) : (q.den : Int).natAbs < 2 ^ k := by have := h.2; omega
theorem Sz.d0 (q : Rat) : (q.den : Int) ≠ 0 := by have := q.den_pos; omega
theorem Sz.int {k : Nat} {i : Int} (h : i.natAbs < 2 ^ k) (hk : 1 ≤ k) : Sz k (i : Rat) := ⟨h, Nat.one_lt_two_pow (by omega)⟩
theorem q_add (p q : Rat) : p + q = Rat.divInt (p.num * q.den + q.num * p.den) (p.den * q.den) := by
  conv => lhs; rw [← Rat.num_divInt_den p, ← Rat.num_divInt_den q]
  exact Rat.divInt_add_divInt _ _ (Sz.d0 p) (Sz.d0 q)
theorem q_sub (p q : Rat) : p - q = Rat.divInt (p.num * q.den - q.num * p.den) (p.den * q.den) := by
  conv => lhs; rw [← Rat.num_divInt_den p, ← Rat.num_divInt_den q]
  exact Rat.divInt_sub_divInt _ _ (Sz.d0 p) (Sz.d0 q)
theorem q_mul (p q : Rat) : p * q = Rat.divInt (p.num * q.num) (p.den * q.den) := by
  conv => lhs; rw [← Rat.num_divInt_den p, ← Rat.num_divInt_den q]
  exact Rat.divInt_mul_divInt _ _
theorem q_div (p q : Rat) : p / q = Rat.divInt (p.num * q.den) (p.den * q.num) := by
  rw [Rat.div_def]
  conv => lhs; rw [← Rat.num_divInt_den p, ← Rat.num_divInt_den q]
  rw [Rat.inv_divInt]
  exact Rat.divInt_mul_divInt _ _
theorem q_num0 {q : Rat} (h : q ≠ 0) : q.num ≠ 0 := fun z => h (Rat.num_eq_zero.mp z)
section
variable {k j : Nat} {p q : Rat}
theorem Sz.dd (p q : Rat) : (p.den : Int) * q.den ≠ 0 := Int.mul_ne_zero (Sz.d0 p) (Sz.d0 q)
theorem Sz.add (h : Sz k p) (h' : Sz j q) : Sz (k + j + 1) (p + q) := by
  rw [q_add]
  exact .divInt (Sz.dd p q) (add_bd (mul_bd h.1 h'.db) (by rw [Nat.add_comm]; exact mul_bd h'.1 h.db)) (bd_mono (mul_bd h.db h'.db) (by omega))
theorem Sz.sub (h : Sz k p) (h' : Sz j q) : Sz (k + j + 1) (p - q) := by
  rw [q_sub]
  exact .divInt (Sz.dd p q) (sub_bd (mul_bd h.1 h'.db) (by rw [Nat.add_comm]; exact mul_bd h'.1 h.db)) (bd_mono (mul_bd h.db h'.db) (by omega))
theorem Sz.div (h : Sz k p) (h' : Sz j q) (h0 : q ≠ 0) : Sz (k + j) (p / q) := by
  rw [q_div]
  exact .divInt (Int.mul_ne_zero (Sz.d0 p) (q_num0 h0)) (mul_bd h.1 h'.db) (mul_bd h.db h'.1)
end
theorem nq_inj {p q : Rat} : (p.num = q.num ∧ (p.den : Int) = q.den) ↔ p = q := ⟨fun h => by
  rw [← Rat.num_divInt_den p, ← Rat.num_divInt_den q, h.1, h.2], fun h => by rw [h]; exact ⟨rfl, rfl⟩⟩
def nqP (q : Rat) : PyData := nbP q.num q.den
theorem nq_pdata (q : Rat) : pdata (nq q) = some (nqP q) := nb_pdata _ _
theorem nqP_sp (q : Rat) : Sp 1 (nqP q) := nbP_sp _ _
theorem nqP_eqv (p q : Rat) : PyData.eqv (nqP p) (nqP q) = decide (p = q) := by
  unfold nqP
  rw [nbP_eqv]
  exact decide_eq_decide.mpr nq_inj
end DL
namespace DL
open PySem PySem.Spec PyProof.Rows L2
/-! a box of four -/
section
variable {κ : Kap} {Q : DQ} {d x y z w : D} {xs : List D}
theorem f_ic3 {N : Nat} (e : κ N = some (.live .lst (x :: y :: z :: d :: xs))) (h : Q d κ) : fIx (.cell N) (.int 3) κ Q := by rw [ix_cell e, at_3]; exact h
theorem f_ik3 {N : Nat} (h : Q d (kset κ N (.live .lst (x :: y :: z :: d :: xs)))) : fIx (.cell N) (.int 3) (kset κ N (.live .lst (x :: y :: z :: d :: xs))) Q := f_ic3 kset_same h
theorem f_se3 {N : Nat} {P : Kap → Prop} (e : κ N = some (.live .lst (x :: y :: z :: w :: xs))) (h : P (kset κ N (.live .lst (x :: y :: z :: d :: xs)))) : fSet (.cell N) (.int 3) d κ P := by rw [se_3 e]; exact h
end
def By (b m : Nat) (κ : Kap) : Prop := ∃ x y u z : Int, κ b = some (.live .lst [.int x, .int y, .int u, .int z]) ∧ (0 ≤ y ∧ y < 2 ^ 31) ∧ (0 ≤ u ∧ u < 2 ^ 31) ∧ 0 ≤ z ∧ z ≤ (m : Int)
theorem By.mono {b m m' : Nat} {κ : Kap} (h : By b m κ) (hm : m ≤ m') : By b m' κ := let ⟨x, y, u, z, h1, h2, h3, h4, h5⟩ := h; ⟨x, y, u, z, h1, h2, h3, h4, by omega⟩
theorem By.is {b m : Nat} {κ : Kap} (h : By b m κ) : ∃ k xs, κ b = some (.live k xs) := let ⟨_, _, _, _, h1, _⟩ := h; ⟨_, _, h1⟩
theorem By.ne {b m n : Nat} {κ : Kap} (h : By b m κ) (hn : κ n = none) : n ≠ b := fun e => by obtain ⟨_, _, q⟩ := h.is; rw [e] at hn; rw [hn] at q; cases q
theorem By.set {b m n : Nat} {κ : Kap} {c : Cell} (h : By b m κ) (hn : n ≠ b) : By b m (kset κ n c) := let ⟨x, y, u, z, h1, h2⟩ := h; ⟨x, y, u, z, by rw [kset_ne hn.symm]; exact h1, h2⟩
/-! multi-clause steps -/
section
variable {δ : DEnv} {κ : Kap} {X : DX} {Q : DQ} {it : DI} {t : TN} {tt : DT} {vs : List Nat} {rest : DK} {K : Kap → Prop} {a e : DE} {as : DA} {n : Nat} {gd : Kap → Prop} {items : List D} {d : D}
theorem e_lcG {r : Nat → DK} (h : it δ κ X fun items gd κ1 => ∀ n, κ1 n = none → cLoop t tt vs (r n) gd δ (fun κ' => ∃ acc, κ' n = some (.live .lst acc) ∧ Q (.node .lst acc) (kset κ' n .dead)) items (kset κ1 n (.live .lst []))) : dLcG false it t tt r vs δ κ X Q := h
theorem k_for (h : it δ κ XF fun items gd κ1 => cLoop t tt vs rest gd δ K items κ1) : cFor it t tt vs rest δ κ K := h
theorem k_elt (h : e δ κ XF fun y κ3 => ∃ acc, κ3 n = some (.live .lst acc) ∧ acc.length < sizeLine ∧ K (kset κ3 n (.live .lst (acc ++ [y])))) : cElt n e δ κ K := h
theorem i_en {QI : List D → (Kap → Prop) → Kap → Prop} (h : as δ κ X (eQ QI)) : iEnumD as δ κ X QI := h
theorem en_N {QI : List D → (Kap → Prop) → Kap → Prop} {ys : List D} (h : QI (enumD 0 ys) gTrue κ) : eQ QI [.node .lst ys] κ := h
theorem e_tupOf (h : a δ κ X fun x κ1 => fTup x κ1 Q) : dTupOf a δ κ X Q := h
theorem tp_L {ys : List D} (h : Q (.node .tup ys) κ) : fTup (.node .lst ys) κ Q := .inl ⟨ys, rfl, h⟩
theorem tp_T {ys : List D} (h : Q (.node .tup ys) κ) : fTup (.node .tup ys) κ Q := .inr ⟨ys, rfl, h⟩
theorem tp_C {ys : List D} (e : κ n = some (.live .lst ys)) (h : Q (.node .tup ys) κ) : fTup (.cell n) κ Q := .inl ⟨ys, vw_cell e, h⟩
theorem e_rev {m : Bool} (h : a δ κ X fun x κ1 => fRev m x κ1 Q) : dRev m a δ κ X Q := h
theorem rv_N {ys : List D} (h : Q (.node .lst ys.reverse) κ) : fRev false (.node .lst ys) κ Q := ⟨ys, rfl, h⟩
theorem q_cell {QI : List D → (Kap → Prop) → Kap → Prop} {ys : List D} (e : κ n = some (.live .lst ys)) (h : QI ys (fun κ => κ n = some (.live .lst ys)) κ) : sQ QI (.cell n) κ := by
  unfold sQ
  simp only [e]
  exact h
theorem sl_N {m : Bool} {ys : List D} {lo hi : Option Int} (h : fNew m .lst (cutD ys lo hi) κ Q) : fSl m (.node .lst ys) lo hi κ Q := h
theorem sl_C {m : Bool} {ys : List D} {lo hi : Option Int} (e : κ n = some (.live .lst ys)) (h : fNew m .lst (cutD ys lo hi) κ Q) : fSl m (.cell n) lo hi κ Q := by
  unfold fSl
  simp only [vw_cell e]
  exact h
theorem s_aug {i : Nat} {f : D2} {x : D} {nx : DEnv → Kap → Prop} {rt : DQ} {bk ct : DEnv → Kap → Prop} (e0 : δ[i]? = some (some x)) (h : a δ κ X fun y κ1 => f x y κ1 fun z κ2 => nx (δ.set i (some z)) κ2) : sAug i f a δ κ X ⟨nx, rt, bk, ct⟩ := ⟨x, e0, h⟩
theorem f_adII {i j : Int} (h : Q (.int (i + j)) κ) : fAddI (.int i) (.int j) κ Q := ⟨i, j, rfl, rfl, h⟩
end
end DL
namespace DL
open PySem PySem.Spec PyProof.Rows L2
/-! what can be walked -/
def Fa (κ κ' : Kap) : Prop := ∀ n c, κ n = some c → κ' n = some c
theorem Fa.refl {κ : Kap} : Fa κ κ := fun _ _ h => h
theorem Fa.trans {κ κ1 κ2 : Kap} (h : Fa κ κ1) (g : Fa κ1 κ2) : Fa κ κ2 := fun n c e => g n c (h n c e)
theorem Fa.new {κ : Kap} {n : Nat} {c : Cell} (h : κ n = none) : Fa κ (kset κ n c) := fun m d e => by rw [kset_ne (kne e h)]; exact e
theorem Fa.put {κ κ' : Kap} {n : Nat} {c : Cell} (f : Fa κ κ') (h : κ n = none) : Fa κ (kset κ' n c) := fun m d e => by rw [kset_ne (kne e h)]; exact f m d e
inductive Wk (κ : Kap) : D → List D → Prop
  | lst {xs : List D} : Wk κ (.node .lst xs) xs
  | tup {xs : List D} : Wk κ (.node .tup xs) xs
  | cell {n : Nat} {xs : List D} (h : κ n = some (.live .lst xs)) : Wk κ (.cell n) xs
theorem Wk.mono {κ κ' : Kap} {d : D} {xs : List D} (h : Wk κ d xs) (f : Fa κ κ') : Wk κ' d xs := by
  cases h with
  | lst => exact .lst
  | tup => exact .tup
  | cell e => exact .cell (f _ _ e)
theorem q_wk {κ : Kap} {d : D} {xs : List D} {QI : List D → (Kap → Prop) → Kap → Prop} (h : Wk κ d xs) (q : ∀ gd : Kap → Prop, (∀ κ', Fa κ κ' → gd κ') → QI xs gd κ) : sQ QI d κ := by
  cases h with
  | lst => exact q_L (q _ fun _ _ => trivial)
  | tup => exact q_T (q _ fun _ _ => trivial)
  | cell e => exact q_cell e (q _ fun κ' f => f _ _ e)
theorem f_lnW {κ : Kap} {d : D} {xs : List D} {Q : DQ} (h : Wk κ d xs) (q : Q (.int (xs.length : Nat)) κ) : fLen [d] κ Q := by
  cases h with
  | lst => exact q
  | tup => exact q
  | cell e => exact f_lnC e q
end DL
namespace DL
open PySem PySem.Spec PyProof.Rows L2
end DL
namespace DL
open PySem PySem.Spec PyProof.Rows L2
end DL
namespace DL
open PySem PySem.Spec PyProof.Rows L2
end DL
namespace DL
open PySem PySem.Spec PyProof.Rows L2
/-! areas of rounds -/
end DL
namespace DL
open PySem PySem.Spec PyProof.Rows L2
/-! signs -/
end DL
/-! DOd: sorted(d.items()) of a dict whose keys are unlike ints. -/
namespace SI
open PySem PySem.Spec PyProof.Rows SrtO
/-- a pair: an int, and whatever -/
def PairK (h : Heap) (v : Value) (i : Int) : Prop := ∃ (a : Addr) (o : Obj) (t : Tok) (b : Value) (n : Nat), v = .ref a ∧ h.get? a = some o ∧ o.cls = .type "tuple" ∧ o.data = .seq #[.int i t, b] n
theorem PairK.keeps {h h' : Heap} {v : Value} {i : Int} (p : PairK h v i) (k : ∀ b o, h.get? b = some o → o.cls = .type "tuple" → h'.get? b = some o) : PairK h' v i := by
  obtain ⟨a, o, t, b, n, e, ho, hc, hd⟩ := p
  exact ⟨a, o, t, b, n, e, k a o ho hc, hc, hd⟩
end SI
/-! DOe: sorted(d.items()) of a dict whose keys are unlike ints, at the hand level. -/
namespace SI
open PySem PySem.Spec PyProof.Rows SrtO L2 L2.DX
def fstI (h : Heap) (v : Value) : Int := match v with
  | .ref a => match h.get? a with
    | some o => match o.data with
      | Data.seq its _ => match its[0]? with
        | some (Value.int i _) => i
        | _ => 0
      | _ => 0
    | none => 0
  | _ => 0
theorem PairK.fst {h : Heap} {v : Value} {i : Int} (p : PairK h v i) : fstI h v = i := by
  obtain ⟨a, o, t, b, n, rfl, ho, hc, hd⟩ := p
  unfold fstI
  simp only [ho, hd]
  rfl
end SI
/-! DOf: sorted(d.items()) over data. -/
namespace DL
open PySem PySem.Spec PyProof.Rows L2
end DL
/-! DOg: sorted of a list of pairs of ints, whatever the tuples are. -/
namespace DL
open PySem PySem.Spec PyProof.Rows L2
end DL
/-! DOh: sum(lists, start=a list). -/
namespace SLs
open PySem PySem.Spec PyProof.Rows L2
inductive RowsH (H : Hp) : List Addr → List (List V) → Prop
  | nil : RowsH H [] []
  | cons {a : Addr} {xs : List V} {as : List Addr} {xss : List (List V)} (h : H a = some (.lst xs)) (t : RowsH H as xss) : RowsH H (a :: as) (xs :: xss)
end SLs
namespace DL
open PySem PySem.Spec PyProof.Rows L2
/-! ### a built-in called with keywords -/
/-- the rows of a list of lists, each told -/
inductive RowsD (κ : Kap) : List D → List (List D) → Prop
  | nil : RowsD κ [] []
  | cons {d : D} {xs : List D} {ds : List D} {xss : List (List D)} (h : view d κ = some (.lst, xs)) (t : RowsD κ ds xss) : RowsD κ (d :: ds) (xs :: xss)
theorem RowsD.at {C : Ctx} {F : Hp} {ρ : Loc0} {κ : Kap} {H : Hp} (S : StR C F ρ κ H) : ∀ {ds : List D} {yss : List (List D)} {vs : List V}, RowsD κ ds yss → RepL C F ρ ds vs →
    ∃ rows xss, vs = rows.map V.ref ∧ SLs.RowsH H rows xss ∧ RepL C F ρ yss.flatten xss.flatten ∧ rows.length = ds.length
  | _, _, _, .nil, .nil => ⟨[], [], rfl, .nil, .nil, rfl⟩
  | _, _, _, .cons h t, .cons r rt => by
    obtain ⟨a, ws, rfl, hk, rl⟩ := view_at S r h
    obtain ⟨rows, xss, rfl, h2, h3, h4⟩ := RowsD.at S t rt
    exact ⟨a :: rows, ws :: xss, rfl, .cons hk h2, RepL.append rl h3, by simp [h4]⟩
end DL
/-! DOi: range(a, b) of whole numbers of any size. -/
namespace DL
open PySem PySem.Spec PyProof.Rows L2
end DL
/-! DOj: a list many times. -/
namespace DL
open PySem PySem.Spec PyProof.Rows L2
end DL
/-! DOk: t >= u of tuples of ints. -/
namespace DL
open PySem PySem.Spec PyProof.Rows L2
end DL
/-! DCa: lambdas with parameters and captured names: what they promise (FnLam), by their body (lam_ok). -/
namespace DL
open PySem PySem.Spec PyProof.Rows L2 LamX NdefX
/-- a lambda's words -/
structure LW where
  qual : Str
  params : Arguments
  body : Expr
  scope : Scope
abbrev LW.nf (L : LW) (cl : List (Str × Addr)) (c' : Addr) : NF := ⟨"<lambda>", L.qual, L.params, [], L.scope, cl, c'⟩
/-- at a: the lambda, made; its cells hold ws -/
structure CloAt (h : Heap) (H : Hp) (L : LW) (a c' : Addr) (cl : List (Str × Addr)) (fr : List Str) (ws : List V) : Prop where
  fn : ∃ pm ctv, h.get? a = some (PySem.W.kla_obj "<lambda>" L.qual L.params L.body L.scope cl pm c' ctv)
  na : H a = none
  ce : CellsAt cl fr (ws.map some) h H
/-- what it promises -/
structure FnLam (P : Program) (w : World) (K : PySem.W.Frag) (mg : Str → Option Value) (base : Heap) (k : Nat) (L : LW) (ps fr : List Str) (sp : DSp) : Prop where
  len : ∀ ds κ XD Q, sp ds κ XD Q → ds.length = ps.length + fr.length
  run : ∀ (A : Around) (outer : List Env) (s : Shared) (H : Hp) (a c' : Addr) (cl : List (Str × Addr)) (us : List Value) (vs ws : List V) (ds cs : List D) (F : Hp) (ρ : Loc0) (κ : Kap) (XD : Str → List D → Kap → Prop) (QD : DQ) (Q : VK) (E : XK), Room k A → A.guards = some [] →
    Env0 P w K mg base A outer s H → CloAt s.heap H L a c' cl fr ws → H c' = some (CodeO c' L.qual) → us.length = ps.length → Vals vs us → StR ⟨K, mg⟩ F ρ κ H → RepL ⟨K, mg⟩ F ρ ds vs → RepL ⟨K, mg⟩ F ρ cs ws → sp (ds ++ cs) κ XD QD → Post ⟨K, mg⟩ F ρ QD Q → PostXE ⟨K, mg⟩ F ρ XD E →
    codeAny (model P w) A (.call (.ref a) ⟨us, []⟩) (CR (L2N.CX P w) outer P w H s Q E) s
theorem FnLam.mono {P : Program} {w : World} {K : PySem.W.Frag} {mg : Str → Option Value} {base : Heap} {j k : Nat} {L : LW} {ps fr : List Str} {sp : DSp} (F : FnLam P w K mg base j L ps fr sp) (h : j ≤ k) : FnLam P w K mg base k L ps fr sp :=
  ⟨F.len, fun A outer s H a c' cl us vs ws ds cs F0 ρ κ XD QD Q E hr => F.run A outer s H a c' cl us vs ws ds cs F0 ρ κ XD QD Q E (hr.mono h)⟩
abbrev lcx (P : Program) (w : World) (K : PySem.W.Frag) (mg : Str → Option Value) (base : Heap) (N : List Str) (L : LW) (cl : List (Str × Addr)) (c' a : Addr) (A : Around) (outer : List Env) (s : Shared) (H : Hp) (E : XK) : Cx :=
  ncx (L2N.CX P w) P w K mg base N (L.nf cl c') a A outer s H E
/-- its promise, by its body -/
def spLam (n m : Nat) (b : DE) : DSp := fun ds κ XD Q => ds.length = m ∧ b (startD n ds) κ (fun _ c fs κ' => XD c fs κ') Q
theorem startF_eq {N : List Str} {vs ws : List V} : startF N vs (ws.map some) = L2.start N (vs ++ ws) := by
  unfold startF L2.start
  rw [List.map_append, List.append_assoc, List.length_append, List.length_map, Nat.sub_sub]
section
variable {P : Program} {w : World} {K : PySem.W.Frag} {mg : Str → Option Value} {base : Heap} {N ps fr : List Str} {L : LW} {k : Nat} {b : DE}
theorem lam_ok (S : NScope N ps fr L.scope) (sm : ∃ o, base.get? sysModules = some o) (hb : ∀ (cl : List (Str × Addr)) (c' : Addr) (pm ctv : Value) (us : List Value), us.length = ps.length → bindArgs (PySem.W.kla_fn "<lambda>" L.qual L.params L.body L.scope cl pm (.ref c') ctv) ⟨us, []⟩ = pure (ps.zip us))
    (hbody : ∀ (cl : List (Str × Addr)) (c' a : Addr) (A : Around) (outer : List Env) (s : Shared) (H : Hp) (E : XK), Good k (lcx P w K mg base N L cl c' a A outer s H E) (wxE E) → PED (lcx P w K mg base N L cl c' a A outer s H E) (wxE E) L.body b) :
    FnLam P w K mg base (k + 1) L ps fr (spLam N.length (ps.length + fr.length) b) := by
  refine ⟨fun ds κ XD Q h => h.1, fun A outer s H a c' cl us vs ws ds cs F0 ρ κ XD QD Q E hr hg e0 C hc hl r S0 R1 R2 hsp PQ PE => ?_⟩
  obtain ⟨pm, ctv, ho⟩ := C.fn
  have lim : s.heap.NoLimit := e0.mod.nolimit.keeps fun b o e => (e0.bs b o e).1
  refine PySem.W.kla_callFunE hr.depth ho rfl S.co S.gen rfl (codeO_at e0.hok hc) ?_
  rw [hb cl c' pm ctv us hl]
  refine wpAny_pure (wpAny_newFunctionEnv S.nocell (fun ⟨n, _⟩ hy => S.par n (List.of_mem_zip hy).1) (fun h₁ hns hsb => ⟨lim.fresh _ hsb, ?_⟩) S.kind)
  show codeAny _ _ (.expr L.body (envF (L.nf cl c') a s.heap.objs.size)) _ _
  have kp : ∀ b o, s.heap.get? b = some o → h₁.get? b = some o := fun b o e => hsb.extBut b o (Nat.ne_of_lt (Heap.lt_size e)) (Heap.get?_push_of_some _ e)
  have I : L2.Inv (lcx P w K mg base N L cl c' a A outer s H E) [] (startF N vs (ws.map some)) H { s with heap := h₁, toks := s.toks + (ps.zip us).length } := inv_startN (F := L.nf cl c') S hr.hd e0 (by rw [r.length, hl]) r C.ce hns kp
  rw [startF_eq] at I
  have g : Good k (lcx P w K mg base N L cl c' a A outer s H E) (wxE E) := ⟨L2N.takes_of rfl rfl rfl rfl, passes_of rfl, hr.deeper _, hg, sm, rfl, S.nd⟩
  refine PySem.W.kla_codeExpr (wpAny_mono ((hbody cl c' a A outer s H E g).run [] _ (L2.start N (vs ++ ws)) H Q I
    ⟨F0, ρ, κ, startD N.length (ds ++ cs), _, _, S0, repS_start (R1.append R2), hsp.2, PQ, fun F' ρ' κ' H' δ σ c fs cls dd e S R rx q => PE _ _ _ _ _ _ _ _ e S rx q⟩) (fun v s' hq => ?_) fun e s' hq => hq)
  obtain ⟨w', H', J', rv, q⟩ := hq
  exact ⟨w', H', J'.os, J'.bare, J'.base, J'.hok, rv, q⟩
end
end DL
/-! DCb: a lambda made and handed to a def; the def that gets it, and calls it. -/
namespace DL
open PySem PySem.Spec PyProof.Rows L2 LamX NdefX
/-! ### made -/
theorem codeHdIn_one {K : PySem.W.Frag} {c P P' : Addr} (h : PySem.W.codeHdIn K c P = true) (h' : PySem.W.codeHdIn K c P' = true) : P = P' := by
  unfold PySem.W.codeHdIn at h h'
  split at h
  · rename_i vs _ hk
    rw [hk] at h'
    simp only [Bool.and_eq_true] at h h'
    obtain ⟨⟨⟨⟨⟨e1, _⟩, _⟩, _⟩, _⟩, _⟩ := h
    obtain ⟨⟨⟨⟨⟨e2, _⟩, _⟩, _⟩, _⟩, _⟩ := h'
    split at e1
    · rename_i Q q
      rw [q] at e2
      rw [← eq_of_beq e1, eq_of_beq e2]
    · cases e1
  · cases h
theorem TabIs.one {C : Ctx} {x : Str} {P P' : Addr} (h : TabIs C x P) (h' : TabIs C x P') : P = P' := by
  obtain ⟨f, c, oc, od, fd, sl, h1, h2, h3, h4⟩ := h
  obtain ⟨f', c', oc', od', fd', sl', h1', h2', h3', h4'⟩ := h'
  rw [h1] at h1'
  cases h1'
  rw [h2] at h2'
  cases h2'
  rw [h3] at h3'
  cases h3'
  exact codeHdIn_one h4 h4'
section
variable {X : Cx} {pins : List (Addr × Obj)} {σ : L2.St} {H : Hp} {s : Shared} {x : Str} {c P : Addr} {vs : List V} {params : Arguments} {body : Expr} {scope : Scope} {pos : Pos} {E : Value → Shared → Prop} {Q : Value → Shared → Prop}
/-- a lambda is made: its code object is new and joins the table, or was found there -/
theorem lam_make3 (I : L2.Inv X pins σ H s) (TB : TabB X.base X.mg c P) (hcode : X.env.code = .ref c) (hdef : defaultsOf params X.env = ([], [])) (hfree : ∀ y ∈ scope.names, y.2 = .free → ∃ c, X.env.cells.lookup y.1 = some c) (hT : TabH (CtxOf X) H x P vs)
    (h : ∀ (f c' : Addr) (pm ctv : Value) (H1 : Hp) (s' : Shared), L2.Inv X pins σ H1 s' → s'.heap.get? f = some (PySem.W.kla_obj "<lambda>" (X.env.qual ++ "<lambda>") params body scope (cloFrom X.env.cells scope.names []) pm c' ctv) → H1 f = none → f ∉ frs X.stack → s.heap.objs.size ≤ f →
      ((H1 = H ∧ V.ref c' ∈ vs) ∨ (H c' = none ∧ ∃ o, H1 = upd (upd H c' (CodeO c' (X.env.qual ++ "<lambda>"))) P o ∧ ∀ H2 : Hp, H2 P = some o → TabH (CtxOf X) H2 x P (vs ++ [.ref c']))) → Q (.ref f) s') :
    wpAny (model X.prog X.w) X.A (eval (.Lambda params body scope pos) X.env) Q E s := by
  obtain ⟨hx, ps, hP, ht, ha⟩ := hT
  refine PySem.W.kla_eval hdef ?_
  have bP : s.heap.BuiltinsAt X.mg P := TB.bm.keeps I.bk
  have hP' : s.heap.get? P = some { cls := .none, data := .fields ps } := I.hok P _ hP
  have nofr : ∀ f, s.heap.objs.size ≤ f → f ∉ frs X.stack := fun f hf z => by
    rcases List.mem_cons.mp (I.stkSub _ z) with e | e
    · have h1 := I.lt
      rw [← e] at h1
      exact Nat.lt_irrefl _ (Nat.lt_of_lt_of_le h1 hf)
    · exact I.nofs hf e
  cases hc : codeAmong pos ps.toList with
  | none =>
    refine PySem.W.kla_makeFunction (mg := X.mg) (c := c) (P := P) (ps := ps) (closure_ok hfree) I.ok.glob (I.mod.glob.keeps I.bk) hcode (TB.code.keeps I.bk) hP' ht hc TB.gP bP fun c' ctv h' tk hex hge hlt hrec htb => ?_
    obtain ⟨c2, oc, us, t, e2, hoc, hd, hv⟩ := hrec
    cases e2
    have hsz : s.heap.objs.size ≤ h'.objs.size := Nat.le_trans hge (Nat.le_of_lt hlt)
    have nC : H c' = none := I.hok.fresh hge
    have nP : c' ≠ P := fun z => by rw [z, hP] at nC; cases nC
    have I1 := inv_table (t' := tk) (q := X.env.qual ++ "<lambda>") (more := #[rawInt pos.line, rawInt pos.col, .ref c']) (h' := h'.push (PySem.W.kla_obj "<lambda>" (X.env.qual ++ "<lambda>") params body scope (cloFrom X.env.cells scope.names []) ((X.mg "__name__").getD .none) c' ctv)) I hP
      (fun b o hb e => Heap.get?_push_of_some _ (hex b o hb e)) (Heap.get?_push_of_some _ htb) hge ⟨oc, us, t, Heap.get?_push_of_some _ hoc, hd, hv⟩
    have eH : upd (upd H P (.tbl (ps ++ #[rawInt pos.line, rawInt pos.col, .ref c']))) c' (CodeO c' (X.env.qual ++ "<lambda>")) = upd (upd H c' (CodeO c' (X.env.qual ++ "<lambda>"))) P (.tbl (ps ++ #[rawInt pos.line, rawInt pos.col, .ref c'])) := by
      funext b
      by_cases e1 : b = c' <;> by_cases e2 : b = P <;> simp [upd, e1, e2, nP, Ne.symm nP]
    rw [eH] at I1
    have eL : (ps ++ #[rawInt pos.line, rawInt pos.col, .ref c']).toList = ps.toList ++ [rawInt pos.line, rawInt pos.col, .ref c'] := by simp
    refine h h'.objs.size c' _ ctv _ _ I1 (Heap.get?_push_size _ rfl) ?_ (nofr _ hsz) hsz (.inr ⟨nC, _, rfl, fun H2 e => ⟨hx, _, e, by rw [eL]; exact PySem.TriplesOk_snoc _ _ _ _ ht, fun p' cv hcv => ?_⟩⟩)
    · have n1 : h'.objs.size ≠ c' := Nat.ne_of_gt hlt
      have n2 : h'.objs.size ≠ P := Nat.ne_of_gt (Nat.lt_of_lt_of_le (Heap.lt_size hP') hsz)
      rw [upd_ne n2, upd_ne n1]
      exact I.hok.fresh hsz
    · rw [eL] at hcv
      rcases among_app _ ht hcv with z | z
      · obtain ⟨c0, e1, e2⟩ := ha p' cv z
        exact ⟨c0, e1, List.mem_append_left _ e2⟩
      · exact ⟨c', z, List.mem_append_right _ (List.mem_singleton.mpr rfl)⟩
  | some cv =>
    obtain ⟨c', e, hco⟩ := ha pos cv hc
    subst e
    refine PySem.W.kla_makeFunctionHit (mg := X.mg) (c := c) (P := P) (ps := ps) (closure_ok hfree) I.ok.glob (I.mod.glob.keeps I.bk) hcode (TB.code.keeps I.bk) hP' ht hc bP fun ctv h' tk hx hsz => ?_
    have I1 : L2.Inv X pins σ H { s with heap := h'.push (PySem.W.kla_obj "<lambda>" (X.env.qual ++ "<lambda>") params body scope (cloFrom X.env.cells scope.names []) ((X.mg "__name__").getD .none) c' ctv), toks := tk } := I.kept fun b o e => Heap.get?_push_of_some _ (hx b o e)
    exact h h'.objs.size c' ((X.mg "__name__").getD .none) ctv H _ I1 (Heap.get?_push_size _ rfl) (I.hok.fresh hsz) (nofr _ hsz) hsz (.inl ⟨rfl, hco⟩)
end
end DL
/-! DCc: the def that gets a lambda (FnGc), the call that hands it, the call of it. -/
namespace DL
open PySem PySem.Spec PyProof.Rows L2 LamX NdefX
/-- the code object of x's lambdas -/
abbrev codD (x : Str) : D := .node (.cod (lamQ x)) []
/-- a def that gets a lambda keeps a promise over data -/
structure FnGc (P : Program) (w : World) (K : PySem.W.Frag) (mg : Str → Option Value) (base : Heap) (k : Nat) (f : Addr) (fd : FuncData) (ps : List Str) (L : LW) (fr : List Str) (sp : Addr → List V → DSp) : Prop where
  len : ∀ a ws ds κ XD Q, sp a ws ds κ XD Q → ds.length = ps.length
  run : ∀ (A : Around) (outer : List Env) (s : Shared) (H : Hp) (args : Args) (us : List Value) (vs : List V) (ds : List D) (F : Hp) (ρ : Loc0) (κ : Kap) (XD : Str → List D → Kap → Prop) (QD : DQ) (Q : VK) (E : XK) (a c' : Addr) (cl : List (Str × Addr)) (ws : List V),
    CloAt s.heap H L a c' cl fr ws → a ∉ frs outer → (∀ y c, cl.lookup y = some c → c ∉ frs outer) → Room k A → A.guards = some [] →
    Env0 P w K mg base A outer s H → BindsTo s fd args (ps.zip us) → Vals vs us → StR ⟨K, mg⟩ F ρ κ H → RepL ⟨K, mg⟩ F ρ ds vs → sp a (V.ref c' :: ws) ds κ XD QD → Post ⟨K, mg⟩ F ρ QD Q → PostXE ⟨K, mg⟩ F ρ XD E →
    codeAny (model P w) A (.call (.ref f) args) (CR (L2N.CX P w) outer P w H s Q E) s
theorem FnGc.mono {P : Program} {w : World} {K : PySem.W.Frag} {mg : Str → Option Value} {base : Heap} {j k : Nat} {f : Addr} {fd : FuncData} {ps : List Str} {L : LW} {fr : List Str} {sp : Addr → List V → DSp} (F : FnGc P w K mg base j f fd ps L fr sp) (h : j ≤ k) : FnGc P w K mg base k f fd ps L fr sp :=
  ⟨F.len, fun A outer s H args us vs ds F0 ρ κ XD QD Q E a c' cl ws h1 h2 h3 hr => F.run A outer s H args us vs ds F0 ρ κ XD QD Q E a c' cl ws h1 h2 h3 (hr.mono h)⟩
/-! ### the call of it -/
end DL
/-! DCd: a def called with a lambda that is written there. -/
namespace DL
open PySem PySem.Spec PyProof.Rows L2 LamX NdefX
section
variable {C : Ctx} {F : Hp} {ρ : Loc0} {δ : DEnv} {σ : L2.St}
theorem slots_rep (R : RepS C F ρ δ σ) : ∀ {js : List Nat} {cs : List D}, js.map (fun j => δ[j]?) = cs.map (fun c => some (some c)) → ∃ ws : List V, js.map (slotAt σ) = ws.map some ∧ RepL C F ρ cs ws
  | [], [], _ => ⟨[], rfl, .nil⟩
  | [], _ :: _, h => by cases h
  | _ :: _, [], h => by cases h
  | j :: js, c :: cs, h => by
    rw [List.map_cons, List.map_cons] at h
    injection h with h1 h2
    obtain ⟨ws, g1, g2⟩ := slots_rep R h2
    obtain ⟨v, h3, h4⟩ := R.2 j c h1
    exact ⟨v :: ws, by rw [List.map_cons, List.map_cons, g1, slotAt_of h3], .cons h4 g2⟩
theorem rep_mem {d : D} : ∀ {m : Nat} {vs : List V} {v : V}, RepL C F ρ (List.replicate m d) vs → v ∈ vs → Rep C F ρ d v
  | 0, _, _, .nil, h => nomatch h
  | m + 1, _, _, r, h => by
    rw [List.replicate_succ] at r
    cases r with
    | cons r1 r2 =>
      rcases List.mem_cons.mp h with e | e
      · rw [e]; exact r1
      · exact rep_mem r2 e
end
end DL
/-! DCe: the law's end where tables of code objects grow. -/
namespace DL
open PySem PySem.Spec PyProof.Rows L2 LamX NdefX
/-- the def x has its code object at c, the table of that at P -/
structure TabD (K : PySem.W.Frag) (mg : Str → Option Value) (x : Str) (c P : Addr) : Prop where
  ex : ∃ (f : Addr) (oc : Value) (od : Option Addr) (fd : FuncData) (sl : Array (Option Value)), mg x = some (.ref f) ∧ K.lookup f = some ⟨oc, od, .func fd, sl⟩ ∧ fd.code = .ref c
  hd : PySem.W.codeHdIn K c P = true
  no : K.lookup P = none
theorem TabD.is {K : PySem.W.Frag} {mg : Str → Option Value} {x : Str} {c P : Addr} (T : TabD K mg x c P) : TabIs ⟨K, mg⟩ x P := by
  obtain ⟨f, oc, od, fd, sl, h1, h2, h3⟩ := T.ex
  exact ⟨f, c, oc, od, fd, sl, h1, h2, h3, T.hd⟩
/-- ahead of the law: all tables empty -/
def tabK (xs : List Str) : Kap := fun i => (xs[i]?).map fun x => .live (.tbk x) []
abbrev Tabs := List (Str × Addr × Addr)
theorem law_endT {P : Program} {w : World} {K : PySem.W.Frag} {mg mb : Str → Option Value} {k : Nat} {fa a : Addr} {fd : FuncData} {x : Str} {sp : DSp} {s1 : Shared} {vs : List Value} {ns : List Int} {ts : Tabs}
    (KX : K.In s1.heap) (hns : s1.heap.Ns mainGlobals mg) (hb : s1.heap.Ns builtinsNs mb) (hbb : ∀ x : Str, x ≠ "__name__" → mb x = bootBuiltins x) (hlim : s1.heap.NoLimit) (hsm : ∃ mm, s1.heap.Ns sysModules mm) (hg : s1.gens = #[])
    (hbm : ∃ (bm : Addr) (ob : Obj), mg "__builtins__" = some (.ref bm) ∧ bm ≠ builtinsNs ∧ s1.heap.get? bm = some ob ∧ ob.cls = .type "module" ∧ ob.dict = some builtinsNs ∧ ob.data = .plain)
    (hT : ∀ p ∈ ts, TabD K mg p.1 p.2.1 p.2.2) (h0 : ∀ p ∈ ts, s1.heap.get? p.2.2 = some { cls := .none, data := .fields #[] }) (nd : (ts.map (·.2.2)).Nodup)
    (ha : s1.heap.get? a = some { cls := .type "list", data := .seq vs.toArray }) (hi : IntsAre vs ns) (hl : ns.length ≤ sizeLine) (hr : Room k callerA)
    (F : ∀ base : Heap, K.In base → base.Ns mainGlobals mg → (∃ o, base.get? sysModules = some o) → (∀ p ∈ ts, TabB base mg p.2.1 p.2.2) → FnG P w K mg base k fa fd [x] sp) (hbind : ∀ (s : Shared) (u : Value), BindsTo s fd ⟨[u], []⟩ [(x, u)])
    (hsp : sp [.node .klst (ns.map D.int)] (tabK (ts.map (·.1))) (fun _ _ _ => False) (fun d _ => d = .bl true)) :
    codeAny (model P w) callerA (.call (.ref fa) ⟨[.ref a], []⟩) (fun r s' => r = .ok (.ret (.bool true)) ∧ OldK s1.heap s'.heap ∧ s'.os = s1.os ∧ AllBare s'.gens) s1 := by
  have rv := vals_ints hi
  have lenV := hi.length
  have isT : ∀ b : Addr, b ∈ ts.map (·.2.2) → s1.heap.get? b = some { cls := .none, data := .fields #[] } := fun b z => by
    obtain ⟨p, hp, e⟩ := List.mem_map.mp z
    rw [← e]
    exact h0 p hp
  have noT : ∀ b : Addr, b ∈ ts.map (·.2.2) → K.lookup b = none := fun b z => by
    obtain ⟨p, hp, e⟩ := List.mem_map.mp z
    rw [← e]
    exact (hT p hp).no
  have aT : a ∉ ts.map (·.2.2) := fun z => by
    have q := isT a z
    rw [ha] at q
    have q' : Data.seq vs.toArray _ = Data.fields #[] := congrArg Obj.data (Option.some.inj q)
    cases q'
  have go : ∀ F0 : Hp, (∀ b u, F0 b = some u → b = a ∧ u = .frz { cls := .type "list", data := .seq vs.toArray } (.lst (ns.map V.int))) → SqL K F0 a (ns.map V.int) → (∀ u, F0 a = some u → K.lookup a = none) →
      codeAny (model P w) callerA (.call (.ref fa) ⟨[.ref a], []⟩) (fun r s' => r = .ok (.ret (.bool true)) ∧ OldK s1.heap s'.heap ∧ s'.os = s1.os ∧ AllBare s'.gens) s1 := by
    intro F0 hF hS hK
    obtain ⟨H, hH⟩ : ∃ H : Hp, H = fun b => if b ∈ ts.map (·.2.2) then some (.tbl #[]) else F0 b := ⟨_, rfl⟩
    have HT : ∀ b, b ∈ ts.map (·.2.2) → H b = some (.tbl #[]) := fun b z => by rw [hH]; exact if_pos z
    have HN : ∀ b, b ∉ ts.map (·.2.2) → H b = F0 b := fun b z => by rw [hH]; exact if_neg z
    have sub : ∀ b u, F0 b = some u → H b = some u := fun b u e => by
      rw [HN b (by rw [(hF b u e).1]; exact aT)]
      exact e
    have hok : HOk P w H s1.heap := fun b u e => by
      by_cases z : b ∈ ts.map (·.2.2)
      · rw [HT b z] at e
        cases e
        exact isT b z
      · rw [HN b z] at e
        obtain ⟨rfl, rfl⟩ := hF b u e
        exact ⟨ha, by rw [List.length_map]; exact hl, vs, _, rv, ha⟩
    have free : ∀ {b : Addr} {o : Obj}, s1.heap.get? b = some o → (∀ xs n, o.data ≠ .seq xs n) → o.data ≠ .fields #[] → H b = none := fun {b o} e d1 d2 => by
      by_cases z : b ∈ ts.map (·.2.2)
      · rw [isT b z] at e
        cases e
        exact absurd rfl d2
      · rw [HN b z]
        cases q : F0 b with
        | none => rfl
        | some u =>
          obtain ⟨rfl, _⟩ := hF b u q
          rw [ha] at e
          cases e
          exact absurd rfl (d1 _ _)
    have freeD : ∀ {b : Addr} {o : Obj} {es : Array DictEntry} {ep : Nat}, s1.heap.get? b = some o → o.data = .dict es ep → H b = none := fun {b o es ep} e d =>
      free e (fun xs n z => by rw [d] at z; cases z) (fun z => by rw [d] at z; cases z)
    have nsK : ∀ {b : Addr} {m : Str → Option Value}, s1.heap.Ns b m → (hidT s1.heap H).Ns b m := fun {b m} ⟨o, es, ep, e, d, r⟩ => ⟨o, es, ep, hidT_get e (freeD e d), d, r⟩
    have kin : K.In (hidT s1.heap H) := fun b o e => hidT_get (KX b o e) (by
      by_cases z : b ∈ ts.map (·.2.2)
      · rw [noT b z] at e
        cases e
      · rw [HN b z]
        cases q : F0 b with
        | none => rfl
        | some u =>
          obtain ⟨rfl, _⟩ := hF b u q
          rw [hK u q] at e
          cases e)
    have hM : Mod K mg (hidT s1.heap H) := ⟨kin, nsK hns, ⟨mb, nsK hb, hbb⟩, let ⟨mc, h1, h2⟩ := hlim; ⟨mc, nsK h1, h2⟩⟩
    have nG : ∀ {b : Addr} {o : Obj}, s1.heap.get? b = some o → (∀ es ep, o.data ≠ .dict es ep) → b ≠ mainGlobals := fun {b o} e d z => by
      obtain ⟨og, es, ep, eg, hd, _⟩ := hns
      rw [z, eg] at e
      cases e
      exact d _ _ hd
    have TB : ∀ p ∈ ts, TabB (hidT s1.heap H) mg p.2.1 p.2.2 := fun p hp => by
      refine ⟨PySem.W.codeHd_of_K kin (hT p hp).hd, ?_, fun z => nG (h0 p hp) (fun _ _ q => by cases q) z.symm⟩
      obtain ⟨bm, ob, b1, b2, b3, b4, b5, b6⟩ := hbm
      have nP : bm ≠ p.2.2 := fun q => by
        rw [q, h0 p hp] at b3
        cases b3
        cases b6
      exact ⟨bm, ob, b1, b2, nG b3 (fun _ _ q => by rw [b6] at q; cases q), nP, hidT_get b3 (free b3 (fun _ _ q => by rw [b6] at q; cases q) (fun q => by rw [b6] at q; cases q)), b4, b5, b6⟩
    have e0 : Env0 P w K mg (hidT s1.heap H) callerA [] s1 H := ⟨rfl, hM, fun b o e => of_hidT e, Nat.le_of_eq (hidT_size _ _), trivial, fun b hb => (nomatch hb), hok, .of_eq hg⟩
    have sm : ∃ o, (hidT s1.heap H).get? sysModules = some o := by
      obtain ⟨mm, h⟩ := hsm
      obtain ⟨o, _, _, e, _⟩ := nsK h
      exact ⟨o, e⟩
    have kat : ∀ {n k xs}, tabK (ts.map (·.1)) n = some (.live k xs) → ∃ p, ts[n]? = some p ∧ k = .tbk p.1 ∧ xs = [] := fun {n k xs} e => by
      unfold tabK at e
      rw [List.getElem?_map] at e
      cases q : ts[n]? with
      | none => rw [q] at e; cases e
      | some p => rw [q] at e; cases e; exact ⟨p, rfl, rfl, rfl⟩
    have st : StR ⟨K, mg⟩ F0 (fun i => (ts[i]?).map (·.2.2)) (tabK (ts.map (·.1))) H := by
      refine ⟨sub, fun n k xs e => ?_, fun n m b k xs k' xs' e e' r r' => ?_, fun n e => ?_, ⟨ts.length, fun n hn => ?_⟩⟩
      · obtain ⟨p, q, rfl, rfl⟩ := kat e
        have hp : p ∈ ts := List.mem_of_getElem? q
        have hp2 : p.2.2 ∈ ts.map (·.2.2) := List.mem_map.mpr ⟨p, hp, rfl⟩
        refine ⟨p.2.2, [], by rw [q]; rfl, ?_, ⟨(hT p hp).is, #[], HT _ hp2, trivial, fun pos cv h => (nomatch h)⟩, .nil⟩
        cases z : F0 p.2.2 with
        | none => rfl
        | some u => exact absurd hp2 (by rw [(hF _ _ z).1]; exact aT)
      · obtain ⟨p, q, _, _⟩ := kat e
        obtain ⟨p', q', _, _⟩ := kat e'
        rw [q] at r
        rw [q'] at r'
        have e1 : p.2.2 = p'.2.2 := (Option.some.inj r).trans (Option.some.inj r').symm
        have hn : n < ts.length := (List.getElem?_eq_some_iff.mp q).1
        exact (List.getElem?_inj (l := ts.map (·.2.2)) (by rw [List.length_map]; exact hn) nd).mp (by rw [List.getElem?_map, List.getElem?_map, q, q']; exact congrArg some e1)
      · unfold tabK at e
        rw [List.getElem?_map] at e
        cases q : ts[n]? with
        | none => rfl
        | some p => rw [q] at e; cases e
      · unfold tabK
        rw [List.getElem?_map, List.getElem?_eq_none hn]
        rfl
    refine codeAny_mono ((F _ kin (nsK hns) sm TB).run callerA [] s1 H ⟨[.ref a], []⟩ [.ref a] [.ref a] _ F0 _ _ _ _ (fun v _ => v = .bl true) (fun _ _ _ => False) hr rfl e0 (hbind s1 (.ref a)) (.cons rfl .nil) st (repL_script hS) hsp
      (fun F' ρ' κ' H' d v e S r q => by subst q; cases r; rfl) (fun _ _ _ _ _ _ _ _ _ _ _ q => q.elim)) fun r s' h => ?_
    cases r with
    | error e =>
      obtain ⟨_, _, _, _, _, _, _, _, _, _, _, _, z⟩ := h
      exact z.elim
    | ok fl =>
      cases fl with
      | next => exact h.elim
      | brk => exact h.elim
      | cont => exact h.elim
      | ret u =>
        obtain ⟨v, H', os, bare, un, hok', r', q⟩ := h
        have q' : v = .bl true := q
        subst q'
        obtain rfl : u = Value.bool true := r'
        have grown : ∀ b, b ∈ ts.map (·.2.2) → ∃ more : Array Value, s'.heap.get? b = some { cls := .none, data := .fields more } := fun b z => by
          obtain ⟨more, q⟩ := un.tbls b #[] (HT b z)
          exact ⟨_, hok' b _ q⟩
        have key : ∀ b o, b ∉ ts.map (·.2.2) → s1.heap.get? b = some o → s'.heap.get? b = some o := fun b o z e => by
          cases q : H b with
          | none => exact un.keep b o e q (by intro y; exact (nomatch y)) (by simp)
          | some u =>
            have q2 := q
            rw [HN b z] at q2
            obtain ⟨rfl, rfl⟩ := hF b u q2
            have z2 := un.frzs _ _ _ q
            obtain ⟨e1, _⟩ := hok _ _ q
            obtain ⟨e2, _⟩ := hok' _ _ z2
            rw [e] at e1
            cases e1
            exact e2
        refine ⟨rfl, ⟨fun b o e => ?_, fun b o e => ?_⟩, os, bare⟩
        · by_cases z : b ∈ ts.map (·.2.2)
          · obtain ⟨more, hm⟩ := grown b z
            have e' := isT b z
            obtain ⟨p, hp, ep⟩ := List.mem_map.mp z
            have cc := ((PySem.W.codeHd_of_K KX (hT p hp).hd).tab (h0 p hp)).isCodeTable
            rw [ep] at cc
            rw [e'] at e
            cases e
            exact .inr (.inl ⟨cc, rfl, #[], more, rfl, by rw [Array.empty_append]; exact hm⟩)
          · exact .inl (key b o z e)
        · by_cases z : b ∈ ts.map (·.2.2)
          · obtain ⟨more, hm⟩ := grown b z
            exact ⟨_, hm⟩
          · exact ⟨o, key b o z e⟩
  cases hk : K.lookup a with
  | some o =>
    have e := KX a o hk
    rw [ha] at e
    cases e
    exact go (fun _ => none) (fun b u z => (nomatch z)) (.inr ⟨_, vs.toArray, _, hk, rfl, rfl, rfl, by rw [List.size_toArray, lenV]; exact hl, by simpa using rv⟩) fun u z => (nomatch z)
  | none =>
    refine go (fun b => if b = a then some (.frz { cls := .type "list", data := .seq vs.toArray } (.lst (ns.map V.int))) else none) (fun b u z => ?_) (.inl (.inr ⟨_, if_pos rfl⟩)) fun _ _ => hk
    by_cases hb : b = a
    · have z' := (if_pos hb).symm.trans z
      cases z'
      exact ⟨hb, rfl⟩
    · have z' := (if_neg hb).symm.trans z
      cases z'
theorem walkT {l : PySem.W.OpenLaw} {n k : Nat} {q : Program} {loose : List Str} {XP : (Str → Option Value) → Heap → Prop} {YP : World → Heap → Prop} {d : DefRec} {K : Params → PySem.W.Frag} {sp : DSp} {x : Str} {tn : List Str}
    (hn : l.most = some n) (hn2 : n ≤ sizeLine) (hdf : d.params.defaults = []) (hr : Room k callerA) (himp : importsNone q = true) (hY : ∀ (w : World) (h : Heap), YP w h → (K w.params).In h)
    (F : ∀ (w : World) (mg : Str → Option Value) (fa : Addr) (h : Heap), YP w h → (K w.params).In h → h.Ns mainGlobals mg → mg d.name = some (.ref fa) →
      ∃ (fd : FuncData) (ts : Tabs), ts.map (·.1) = tn ∧ (ts.map (·.2.2)).Nodup ∧ (∀ p ∈ ts, TabD (K w.params) mg p.1 p.2.1 p.2.2) ∧ (∀ p ∈ ts, h.get? p.2.2 = some { cls := .none, data := .fields #[] }) ∧ (∀ (s : Shared) (u : Value), BindsTo s fd ⟨[u], []⟩ [(x, u)]) ∧
        ∀ base : Heap, (K w.params).In base → base.Ns mainGlobals mg → (∃ o, base.get? sysModules = some o) → (∀ p ∈ ts, TabB base mg p.2.1 p.2.2) → FnG l.prog w (K w.params) mg base k fa fd [x] sp)
    (hsp : ∀ ns : List Int, ns.length ≤ n → sp [.node .klst (ns.map D.int)] (tabK tn) (fun _ _ _ => False) (fun d _ => d = .bl true)) :
    PySem.W.WalkO q loose XP YP l.row.toRowW d [] (fun f vs => PySem.call f vs) := by
  refine Att.attach_call hn hdf fun w s0 s1 mg mb fa o pm cd doc a vs ns G Y ho hd hcd hmg hobj hints hlen hg => ?_
  have KX := hY w _ Y
  obtain ⟨fd, ts, e1, nd, hT, h0, hb, hF⟩ := F w mg fa _ Y KX G.T.g hmg
  exact law_endT KX G.T.g G.T.b G.T.builtins G.T.nolimit (seer_sys (G.T.seer himp)) hg G.T.bmain hT h0 nd hobj hints (Nat.le_trans hlen hn2) hr hF hb (by rw [e1]; exact hsp ns hlen)
end DL
/-! DCf: sorted(x, key=a lambda) of a list or a tuple: the keys are told by calls that may make things. -/
namespace SKy
open PySem PySem.Calls PyProof.Rows
section
variable {prog : Program} {w : World} {A : Around} {E : Value → Shared → Prop} {s : Shared}
theorem collect_tup {t : Addr} {vs : List Value} {Q : List Value → Shared → Prop} (hl : IsTup s.heap t vs.toArray) (hz : vs.length ≤ sizeLine)
    (h : Q vs { s with heap := (s.heap.push (seqObj "list" #[] 0)).update s.heap.objs.size (Obj.mapSeq (· ++ vs.toArray)) }) : wpAny (model prog w) A (collect (.ref t)) Q E s := by
  obtain ⟨o, ho, hc, n, hd⟩ := hl
  unfold collect
  refine wpAny_bind (wpAny_runValue (codeAny_builtin entry_proto_collect' ?g1))
  case g1 =>
    show wpAny _ _ (do again (.builtin "list.__iadd__" ⟨[← newList [], .ref t], []⟩)) _ _ s
    refine wpAny_bind (wpAny_newList (wpAny_pure ⟨Code.quiet_builtin _ (by decide +kernel), codeAny_builtin entry_list_iadd' ?g2⟩))
    show wpAny _ _ (Builtin.List.listExtendWith (.ref s.heap.objs.size) (.ref t) (.ref s.heap.objs.size)) _ _ { s with heap := s.heap.push (seqObj "list" #[] 0) }
    unfold Builtin.List.listExtendWith
    have h1 : (s.heap.push (seqObj "list" #[] 0)).get? t = some o := Heap.get?_push_of_some _ ho
    have h2 : (s.heap.push (seqObj "list" #[] 0)).get? s.heap.objs.size = some (seqObj "list" #[] 0) := Heap.get?_push_size _ rfl
    refine wpAny_bind (wpAny_typeOf (T := "tuple") ⟨o, h1, hc⟩ ?_)
    rw [if_pos (by rw [show (Value.type "tuple" == Value.type "tuple") = true by rfl]; simp)]
    refine wpAny_bind (listItems_at h1 hd (wpAny_bind (listItems_at (xs := #[]) (n := 0) h2 rfl ?_)))
    rw [if_neg (by simp)]
    refine wpAny_bind (listUpdate_at (xs := #[]) (n := 0) h2 rfl (wpAny_pure ?_) (Nat.zero_le _) (by show (#[] ++ vs.toArray).size ≤ sizeLine + 1; simp only [Array.size_append, List.size_toArray, List.length_nil]; omega))
    show wpAny (model prog w) A (do
        let ob ← load s.heap.objs.size
        match ob.data with
        | .seq its _ => pure its.toList
        | _ => unsupported "internal:collect") Q E { s with heap := (s.heap.push (seqObj "list" #[] 0)).update s.heap.objs.size (Obj.mapSeq (· ++ vs.toArray)) }
    refine wpAny_bind (wpAny_load (get?_update_seq h2 _) ?_)
    show wpAny _ _ (pure ((#[] : Array Value) ++ vs.toArray).toList) Q E _
    rw [show ((#[] : Array Value) ++ vs.toArray).toList = vs by simp]
    exact wpAny_pure h
/-- sorted(x, ..), x a list or a tuple: the copy is sorted -/
theorem sorted_any {l : Addr} {vs : List Value} {kw : List (Str × Value)} {Q : Value → Shared → Prop} (hl : s.heap.IsList l vs.toArray ∨ IsTup s.heap l vs.toArray) (hz : vs.length ≤ sizeLine) (ha1 : argsOk "sorted" ⟨[.ref l], kw⟩) (ha2 : ∀ y, argsOk "list.sort" ⟨[.ref y], kw⟩)
    (body : ∀ E' : Value → Shared → Prop, wpAny (model prog w) A.in1.in1 (Builtin.«list.sort» ⟨[.ref (s.heap.objs.size + 1)], kw⟩) (fun f s' => f = .done (.ret .none) ∧ Q (.ref (s.heap.objs.size + 1)) s') E' { s with heap := PySem.W.copyHeap s.heap vs }) :
    wpAny (model prog w) A (call (.builtin "sorted") [.ref l] kw) Q E s := by
  rcases hl with hl | hl
  · exact PySem.W.sorted_of_sort hl hz ha1 ha2 body
  · refine PyProof.Rows.call_function_entry_kw kind_sorted plain_sorted entry_sorted ha1 ?_
    unfold Builtin.«sorted»
    refine wpAny_bind (m := checkCount "sorted" 1 1 _) (wpAny_pure (wpAny_bind (collect_tup hl hz (wpAny_bind (wpAny_newList ?g hz)))))
    case g =>
      have e1 : ((s.heap.push (seqObj "list" #[] 0)).update s.heap.objs.size (Obj.mapSeq (· ++ vs.toArray))).objs.size = s.heap.objs.size + 1 := by rw [Heap.size_update, size_push']
      show wpAny _ _ _ _ _ { s with heap := PySem.W.copyHeap s.heap vs }
      rw [e1]
      refine wpAny_bind (wpAny_holding (wpAny_call_entry_kw slot_list_sort ⟨_, PySem.W.copyHeap_at s.heap vs, rfl⟩ entry_list_sort ?b (ha2 _)))
      case b =>
        show wpAny (model prog w) A.in1.in1 (Builtin.«list.sort» ⟨[.ref (s.heap.objs.size + 1)], kw⟩) _ _ _
        refine wpAny_mono (body _) (fun f s' hf => ?_) fun _ _ e => e
        obtain ⟨rfl, hq⟩ := hf
        exact ⟨_, rfl, wpAny_pure ⟨_, rfl, hq⟩⟩
end
end SKy
/-! DCg: list.sort(key=f) where f's calls may make things: R stands from call to call. -/
namespace SKy
open PySem PySem.Calls PyProof.Rows
section
variable {prog : Program} {w : World} {A : Around} {E : Value → Shared → Prop} {s : Shared} {a kS : Addr} {f : Value} {b : Bool} {vs : List Value} {kz : List Int} {e1 : Nat} {P : PySem.Fin → Shared → Prop}
theorem ints_each {h : Heap} : ∀ {us : List Value} {ns : List Int}, IntsAre us ns → PySem.W.EachIs (fun v d => ∃ as, Reads h v d as) us (ns.map PyData.int)
  | _, _, .nil => .nil
  | _, _, .cons _ t r => .cons ⟨[], .int _ t⟩ (ints_each r)
theorem alike_all (ks : List Int) : PySem.W.AllAlike (ks.map PyData.int) := PySem.W.AllAlike.of (enc := PyData.int) (bs := ks) fun _ _ => by simp [PySem.W.alike]
theorem sortable_all (ks : List Int) : PySem.W.Sortable (ks.map PyData.int) := PySem.W.Sortable.others (enc := PyData.int) (bs := ks) fun _ => ⟨by simp, fun _ => by simp⟩
/-- the keys are told, the pairs sorted -/
theorem keys_run (R : Shared → Prop) (hka : kS ≠ a)
    (hR : ∀ s1 h' tk, R s1 → (∃ o, s1.heap.get? kS = some o) → (∀ b o, b ≠ kS → s1.heap.get? b = some o → h'.get? b = some o) → R { s1 with heap := h', toks := tk })
    (turn : ∀ (i : Nat) (v : Value) (k : Int) (s1 : Shared) (kA : Array Value) (e : Nat), vs[i]? = some v → kz[i]? = some k → R s1 → s1.heap.get? kS = some (seqObj "list" kA e) → s1.heap.get? a = some (seqObj "list" #[] e1) →
      wpAny (model prog w) A (call f [v]) (fun u s2 => (∃ t, u = .int k t) ∧ R s2 ∧ s2.heap.get? kS = some (seqObj "list" kA e) ∧ s2.heap.get? a = some (seqObj "list" #[] e1)) (fun _ _ => False) s1)
    (hlen : kz.length = vs.length) (hz : vs.length ≤ sizeLine) (hu : A.units < cLine)
    (h : ∀ (s1 : Shared) (h' : Heap) (tk : Nat) (out : List Value) (c : Nat), R s1 → (∀ b o, b ≠ a → b ≠ kS → s1.heap.get? b = some o → h'.get? b = some o) → h'.get? a = some (seqObj "list" (List.toArray out) c) → PySem.W.KeyedOut b (kz.map PyData.int) vs out →
      P (.done (.ret .none)) { s1 with heap := h', toks := tk })
    (hs : R s) (nk : s.heap.get? kS = some (seqObj "list" #[] 0)) (na : s.heap.get? a = some (seqObj "list" #[] e1)) :
    wpAny (model prog w) A (ksk_rest a f b vs.toArray e1 (.ref kS)) P E s := by
  unfold ksk_rest
  refine wpAny_bind (wpAny_rule ?_)
  first
    | rw [List.forIn_toArray]
    | (rw [← Array.forIn_toList]; simp only [List.toList_toArray])
    | rw [← Array.forIn_toList]
  refine wpAny_bind (ksk_fold (fun i s' => ∃ kA e, R s' ∧ s'.heap.get? kS = some (seqObj "list" kA e) ∧ s'.heap.get? a = some (seqObj "list" #[] e1) ∧ IntsAre kA.toList (kz.take i)) vs 0 s
    ⟨#[], 0, hs, nk, na, by rw [List.take_zero]; exact .nil⟩ (fun j x s' hx hI => ?_) fun s' hI => ?_)
  · obtain ⟨kA, e, r1, k1, a1, i1⟩ := hI
    rw [Nat.zero_add] at i1 ⊢
    have hj : j < vs.length := (List.getElem?_eq_some_iff.mp hx).1
    obtain ⟨k, hk⟩ : ∃ k, kz[j]? = some k := ⟨_, List.getElem?_eq_getElem (by omega)⟩
    have sz : kA.size ≤ vs.length := by
      have q := i1.length
      rw [Array.length_toList, List.length_take] at q
      omega
    refine wpAny_bind (wpAny_attempt (wpAny_mono (turn j x k s' kA e hx hk r1 k1 a1) (fun v s2 he => ?_) fun _ _ z => z.elim))
    obtain ⟨⟨t, rfl⟩, r2, k2, a2⟩ := he
    try dsimp only
    obtain ⟨c2, hc2⟩ : ∃ c2, (s2.heap.update kS (Obj.mapSeq (·.push (.int k t)))).get? kS = some (seqObj "list" (kA.push (.int k t)) c2) := ⟨_, get?_update_seq k2 (·.push (.int k t))⟩
    have sb := Heap.SameBut.update s2.heap kS (Obj.mapSeq (·.push (.int k t)))
    refine wpAny_bind (listUpdate_at k2 rfl (wpAny_pure ⟨rfl, kA.push (.int k t), c2, hR s2 _ s2.toks r2 ⟨_, k2⟩ (fun b o hb e => (sb.2 b hb).trans e), hc2, (sb.2 a hka.symm).trans a2, ?_⟩) (Nat.le_trans sz hz) (Nat.le_trans (Nat.le_of_eq (Array.size_push ..)) (Nat.succ_le_succ (Nat.le_trans sz hz))))
    have e2 : kz.take (j + 1) = kz.take j ++ [k] := by rw [List.take_add_one, hk]; simp
    have e3 : (kA.push (.int k t)).toList = kA.toList ++ [.int k t] := by simp
    rw [e2, e3]
    exact ksk_snoc i1
  · obtain ⟨kA, e, r1, k1, a1, i1⟩ := hI
    have e2 : kz.take (0 + vs.length) = kz := List.take_of_length_le (by omega)
    rw [e2] at i1
    have sz : kA.size = vs.length := by
      have q := i1.length
      rw [Array.length_toList] at q
      omega
    try dsimp only
    refine wpAny_bind (listItems_at k1 rfl ?_)
    have ek := ints_each (h := s'.heap) i1
    have hid0 : ∀ b o, b ≠ kS → s'.heap.get? b = some o → (L2.hidT s'.heap fun c => if c = kS then some (.rng 0 0) else none).get? b = some o := fun b o hb e => L2.hidT_get e (if_neg hb)
    refine PySem.W.keyH_end (κ := PySem.W.dataKind s'.heap (kz.map PyData.int)) (h₁ := L2.hidT s'.heap fun c => if c = kS then some (.rng 0 0) else none) (fun b o hb e => (L2.of_hidT e).1) ?_ k1 a1 hka
      (PySem.W.SortsAt.data (s := s') ek (alike_all kz) (sortable_all kz) fun d hd => ?_) sz hz fun h3 tk3 c k3 n3 => h s' h3 tk3 _ c r1 (fun b o b1 b2 e => k3 b o b1 (hid0 b o b2 e)) n3 ⟨s'.heap, kA.toList, alike_all kz, rfl, ek⟩
    · cases q : (L2.hidT s'.heap fun c => if c = kS then some (.rng 0 0) else none).get? kS with
      | none => rfl
      | some o =>
        have z := (L2.of_hidT q).2
        rw [if_pos rfl] at z
        cases z
    · obtain ⟨k, _, rfl⟩ := List.mem_map.mp hd
      exact hu
theorem sort_run {n : Nat} (R : Shared → Prop) (ho : s.heap.get? a = some (seqObj "list" vs.toArray n))
    (hR : ∀ s1 h' tk, R s1 → (∃ o, s1.heap.get? (s.heap.objs.size + 1) = some o) → (∀ b o, b ≠ s.heap.objs.size + 1 → s1.heap.get? b = some o → h'.get? b = some o) → R { s1 with heap := h', toks := tk })
    (turn : ∀ (e1 i : Nat) (v : Value) (k : Int) (s1 : Shared) (kA : Array Value) (e : Nat), vs[i]? = some v → kz[i]? = some k → R s1 → s1.heap.get? (s.heap.objs.size + 1) = some (seqObj "list" kA e) → s1.heap.get? a = some (seqObj "list" #[] e1) →
      wpAny (model prog w) A (call f [v]) (fun u s2 => (∃ t, u = .int k t) ∧ R s2 ∧ s2.heap.get? (s.heap.objs.size + 1) = some (seqObj "list" kA e) ∧ s2.heap.get? a = some (seqObj "list" #[] e1)) (fun _ _ => False) s1)
    (hlen : kz.length = vs.length) (hz : vs.length ≤ sizeLine) (hu : A.units < cLine)
    (h : ∀ (s1 : Shared) (h' : Heap) (tk : Nat) (out : List Value) (c : Nat), R s1 → (∀ b o, b ≠ a → b ≠ s.heap.objs.size + 1 → s1.heap.get? b = some o → h'.get? b = some o) → h'.get? a = some (seqObj "list" (List.toArray out) c) → PySem.W.KeyedOut b (kz.map PyData.int) vs out →
      P (.done (.ret .none)) { s1 with heap := h', toks := tk })
    (hs : ∀ h', (∀ b o, b ≠ a → s.heap.get? b = some o → h'.get? b = some o) → (∃ o, h'.get? (s.heap.objs.size + 1) = some o) → R { s with heap := h' }) :
    wpAny (model prog w) A (ksk_tree a f b) P E s := by
  have ha : a < s.heap.objs.size := Heap.lt_size ho
  obtain ⟨e1, o1⟩ : ∃ e1, (s.heap.update a (Obj.mapSeq fun _ => (#[] : Array Value))).get? a = some (seqObj "list" #[] e1) := ⟨_, get?_update_seq ho fun _ => #[]⟩
  have sz : ((s.heap.update a (Obj.mapSeq fun _ => (#[] : Array Value))).push (seqObj "tuple" vs.toArray 0)).objs.size = s.heap.objs.size + 1 := by rw [size_push', Heap.size_update]
  unfold ksk_tree
  refine wpAny_bind (listItems_at ho rfl (wpAny_bind (listUpdate_at ho rfl ?g (by rw [List.size_toArray]; exact hz) (Nat.zero_le _))))
  case g =>
    refine wpAny_bind (seqEpoch_at o1 rfl (wpAny_bind (wpAny_newTuple (wpAny_bind (wpAny_newList (wpAny_holding ?g2) (Nat.zero_le _))) (by show vs.length ≤ _; exact hz))))
    case g2 =>
      have nk : (((s.heap.update a (Obj.mapSeq fun _ => (#[] : Array Value))).push (seqObj "tuple" vs.toArray 0)).push (seqObj "list" #[] 0)).get? (s.heap.objs.size + 1) = some (seqObj "list" #[] 0) := by
        rw [← sz]
        exact Heap.get?_push_size _ rfl
      show wpAny (model prog w) A (ksk_rest a f b vs.toArray e1 (.ref ((s.heap.update a (Obj.mapSeq fun _ => (#[] : Array Value))).push (seqObj "tuple" vs.toArray 0)).objs.size)) P E _
      rw [sz]
      exact keys_run R (Nat.ne_of_gt (Nat.lt_succ_of_lt ha)) hR (turn e1) hlen hz hu h (hs _ (fun b o hb e => Heap.get?_push_of_some _ (Heap.get?_push_of_some _ ((Heap.get?_update_other _ _ (Ne.symm hb)).trans e))) ⟨_, nk⟩) nk (Heap.get?_push_of_some _ (Heap.get?_push_of_some _ o1))
end
end SKy
/-! DCh: sorted(x, key=a written lambda) over data. -/
namespace DL
open PySem PySem.Spec PyProof.Rows L2 LamX NdefX
def dSortLam (m : Bool) (x : Str) (js : List Nat) (sp : DSp) (as : DA) : DE := fun δ κ X Q => as δ κ X fun ds κ1 => ∃ d n q cs, ds = [d] ∧ κ1 n = some (.live (.tbk x) (List.replicate q (codD x))) ∧ js.map (fun j => δ[j]?) = cs.map (fun c => some (some c)) ∧
  ∀ q', (q' = q ∨ q' = q + 1) → ∃ (xs : List D) (kf : D → Int), (∃ k, view d (kset κ1 n (.live (.tbk x) (List.replicate q' (codD x)))) = some (k, xs) ∧ (k = .lst ∨ k = .tup ∨ k = .klst)) ∧
    (∀ y, y ∈ xs → ∀ (XD : Str → List D → Kap → Prop) (QD : DQ), QD (.int (kf y)) (kset κ1 n (.live (.tbk x) (List.replicate q' (codD x)))) → sp (y :: cs) (kset κ1 n (.live (.tbk x) (List.replicate q' (codD x)))) XD QD) ∧
    fNew m .lst (xs.mergeSort fun a b => decide (kf a ≤ kf b)) (kset κ1 n (.live (.tbk x) (List.replicate q' (codD x)))) Q
section
variable {X : Cx} {pins : List (Addr × Obj)} {σ : L2.St} {H : Hp} {s : Shared}
/-- two untracked records have turned, the one is tracked from now on -/
theorem take2 {h' : Heap} {t' : Nat} {it iu : Addr} {o : HO} (I : L2.Inv X pins σ H s) (k : ∀ b ob, b ≠ it → b ≠ iu → s.heap.get? b = some ob → h'.get? b = some ob) (f : FpOk X pins H it) (g : FpOk X pins H iu)
    (new : ObjOk X.prog X.w (upd H it o) h' it o) : L2.Inv X pins σ (upd H it o) { s with heap := h', toks := t' } := by
  obtain ⟨fn, fL, _, f1, f2, f3⟩ := f
  obtain ⟨gn, gL, _, g1, g2, g3⟩ := g
  have nit : ∀ b u, H b = some u → b ≠ it ∧ b ≠ iu := fun b u e => ⟨fun z => (by rw [z, fn] at e; cases e), fun z => (by rw [z, gn] at e; cases e)⟩
  have up : ∀ b u, H b = some u → upd H it o b = some u := fun b u e => (upd_ne (nit b u e).1).trans e
  have out : ∀ {b : Addr}, b ∉ [it, iu] → b ≠ it ∧ b ≠ iu := fun {b} hb => ⟨fun z => hb (by rw [z]; simp), fun z => hb (by rw [z]; simp)⟩
  refine I.step (g' := s.gens) (d' := s.drawn) (ch := [it, iu]) (fun b hb => ?_) (fun b ob _ _ hc e _ => k b ob (out hc).1 (out hc).2 e) (fun b ob _ _ hc e _ => ⟨ob.slots, k b ob (out hc).1 (out hc).2 e⟩)
    (fun b ob hc _ n => (upd_ne (out hc).1).trans n) (fun b ob hc e => ⟨ob, k b ob (out hc).1 (out hc).2 e⟩) (fun b _ e => up b _ e) (fun b _ _ e => up b _ e) (fun b ps e => ⟨#[], by rw [up b _ e]; simp⟩) (fun m ⟨ob, es, ep, ho, r⟩ => ⟨ob, es, ep, k _ ob (Ne.symm fL) (Ne.symm gL) ho, r⟩) (fun b u e => ?_) I.bare
  · rcases List.mem_cons.mp hb with e | e
    · subst e; exact ⟨f1, fL, f2, f3⟩
    · have e := List.mem_singleton.mp e
      subst e; exact ⟨g1, gL, g2, g3⟩
  · by_cases hb : b = it
    · rw [hb, upd_same] at e
      cases e
      rw [hb]
      exact new
    · rw [upd_ne hb] at e
      refine (I.hok b u e).stay (fun c v hc q => ?_) (fun c q => up c _ q) fun c _ q => up c _ q
      rcases hc with z | z
      · rw [z] at q ⊢; exact k _ v hb (nit b u e).2 q
      · exact k c v (nit c _ z).1 (nit c _ z).2 q
end
theorem vals_at1 {vs : List V} {us : List Value} (r : Vals vs us) : ∀ {i : Nat} {u : Value}, us[i]? = some u → ∃ v, vs[i]? = some v ∧ RelV v u := by
  induction r with
  | nil => intro i u h; cases h
  | cons r _ ih =>
    intro i u h
    cases i with
    | zero => cases h; exact ⟨_, rfl, r⟩
    | succ i => exact ih h
theorem each_zip {C : Ctx} {F : Hp} {ρ : Loc0} : ∀ {xs : List D} {ws : List V} {us : List Value}, RepL C F ρ xs ws → Vals ws us → PySem.W.EachIs (fun (v : Value) (b : D × V) => RelV b.2 v) us (xs.zip ws) ∧ ∀ b, b ∈ xs.zip ws → Rep C F ρ b.1 b.2
  | _, _, _, .nil, .nil => ⟨.nil, fun b h => nomatch h⟩
  | _, _, _, .cons r rt, .cons v vt => by
    obtain ⟨h1, h2⟩ := each_zip rt vt
    refine ⟨.cons v h1, fun b h => ?_⟩
    rcases List.mem_cons.mp h with e | e
    · rw [e]; exact r
    · exact h2 b e
theorem repL_pairs {C : Ctx} {F : Hp} {ρ : Loc0} : ∀ {l : List (D × V)}, (∀ b, b ∈ l → Rep C F ρ b.1 b.2) → RepL C F ρ (l.map Prod.fst) (l.map Prod.snd)
  | [], _ => .nil
  | _ :: _, h => .cons (h _ (List.mem_cons_self ..)) (repL_pairs fun b hb => h b (List.mem_cons_of_mem _ hb))
theorem vals_each : ∀ {us : List Value} {l : List (D × V)}, PySem.W.EachIs (fun (v : Value) (b : D × V) => RelV b.2 v) us l → Vals (l.map Prod.snd) us
  | _, _, .nil => .nil
  | _, _, .cons h t => .cons h (vals_each t)
section
variable {X : Cx} {W : WX} {k : Nat} {c P : Addr} {fr : List Str} {js : List Nat} {sp : DSp} {x pn : Str} {params : Arguments} {body : Expr} {scope : Scope} {e : Expr} {as : DA} {p lpos kpos pos : Pos}
theorem pd_sortLam (m : Bool) (G : Good (k + 2) X W) (FL : FnLam X.prog X.w X.K X.mg X.base k ⟨lamQ x, params, body, scope⟩ [pn] fr sp) (hm : X.mg "sorted" = none) (ha : PAD X W [e] as)
    (TB : TabB X.base X.mg c P) (hcode : X.env.code = .ref c) (hTI : TabIs (CtxOf X) x P) (hq : X.env.qual = x ++ ".<locals>.") (hN : ndefB X.env.scope scope fr = true) (hjs : js.map (fun j => X.N[j]?) = fr.map some)
    (hfn : ∀ y, X.fn y = true := by exact fun _ => rfl) (hdef : defaultsOf params X.env = ([], []) := by rfl) (hg : Gl X "sorted" := by rfl)
    (he : backTo pos (starEach [e] X.env) = (false, eval e X.env) :: backTo pos (starEach [] X.env) := by rfl) (hpl : (backTo pos (starEach [e] X.env)).any (·.1) = false := by rfl)
    (hall : (backToKw pos (keywordEach [⟨some "key", .Lambda params body scope lpos, kpos⟩] X.env)).all (·.1.isSome) = true := by rfl) (hnone : (backToKw pos (keywordEach [⟨some "key", .Lambda params body scope lpos, kpos⟩] X.env)).any (·.1.isNone) = false := by rfl)
    (hev : (backToKw pos (keywordEach [⟨some "key", .Lambda params body scope lpos, kpos⟩] X.env)).map (·.2) = [(do let v ← eval (.Lambda params body scope lpos) X.env; standAt pos; pure v)] := by rfl)
    (hks : (backToKw pos (keywordEach [⟨some "key", .Lambda params body scope lpos, kpos⟩] X.env)).filterMap (·.1) = [Str.ofString "key"] := by rfl) :
    PED X W (.Call (.Name "sorted" p) [e] [⟨some "key", .Lambda params body scope lpos, kpos⟩] pos) (dSortLam m x js sp as) := by
  refine ⟨fun pins s σ H Q I ⟨F, ρ, κ, δ, XD, QD, S, R, h, P0, PX⟩ => ?_⟩
  refine wpAny_Call_Name_kw (ld_blt I hg hm (u := .builtin "sorted") (by first | rfl | decide +kernel) ?_ (by decide) (by decide))
  refine PyProof.Rows.callWith_kw (thn (ha.run pos pins s σ H (fun vs H1 => ∃ F1 ρ1 κ1 ds, Ext F ρ F1 ρ1 ∧ StR (CtxOf X) F1 ρ1 κ1 H1 ∧ RepL (CtxOf X) F1 ρ1 ds vs ∧ ∃ d n q cs, ds = [d] ∧ κ1 n = some (.live (.tbk x) (List.replicate q (codD x))) ∧ js.map (fun j => δ[j]?) = cs.map (fun c => some (some c)) ∧
      ∀ q', (q' = q ∨ q' = q + 1) → ∃ (xs : List D) (kf : D → Int), (∃ k, view d (kset κ1 n (.live (.tbk x) (List.replicate q' (codD x)))) = some (k, xs) ∧ (k = .lst ∨ k = .tup ∨ k = .klst)) ∧
        (∀ y, y ∈ xs → ∀ (XD : Str → List D → Kap → Prop) (QD : DQ), QD (.int (kf y)) (kset κ1 n (.live (.tbk x) (List.replicate q' (codD x)))) → sp (y :: cs) (kset κ1 n (.live (.tbk x) (List.replicate q' (codD x)))) XD QD) ∧
        fNew m .lst (xs.mergeSort fun a b => decide (kf a ≤ kf b)) (kset κ1 n (.live (.tbk x) (List.replicate q' (codD x)))) QD) I
    ⟨F, ρ, κ, δ, XD, _, S, R, h, fun F1 ρ1 κ1 H1 ds vs e1 S1 R1 h1 => ⟨F1, ρ1, κ1, ds, e1, S1, R1, h1⟩, PX⟩) fun us s1 ⟨vs0, H0, I0, r0, F1, ρ1, κ1, ds, e1, S1, R1, d, n, q, cs, hds, hn, hcs, hh⟩ => ?_) he hpl hall hnone
  subst hds
  rw [hks, hev]
  obtain ⟨P', vsT, hρ, hF, hM, hR⟩ := S1.live n _ _ hn
  have eP : P' = P := TabIs.one hM.1 hTI
  subst eP
  have hfree2 := ndef_free hN
  have hfree : ∀ y ∈ scope.names, y.2 = .free → ∃ c, X.env.cells.lookup y.1 = some c := fun y hy e => (hfree2 y hy e).elim (fun z => I.ok.has _ (.inl z)) fun z => I.ok.has _ (.inr z)
  refine wpAny_evalAll_cons (wpAny_bind (lam_make3 I0 TB hcode hdef hfree hM fun f' c' pm ctv H1 s' I1 ho nf nfr _ hc => wpAny_bind (wpAny_standAt (wpAny_pure (wpAny_evalAll_nil ?_)))))
  rw [hq] at ho hc
  obtain ⟨F2, q', e2, S2, rc, hq'⟩ : ∃ F2 q', Ext F1 ρ1 F2 ρ1 ∧ StR (CtxOf X) F2 ρ1 (kset κ1 n (.live (.tbk x) (List.replicate q' (codD x)))) H1 ∧ Rep (CtxOf X) F2 ρ1 (codD x) (.ref c') ∧ (q' = q ∨ q' = q + 1) := by
    rcases hc with ⟨e, hv⟩ | ⟨nC, o, e, ht⟩
    · subst e
      have same : kset κ1 n (.live (.tbk x) (List.replicate q (codD x))) = κ1 := by
        funext i
        by_cases hi : i = n
        · rw [hi, kset_same, hn]
        · rw [kset_ne hi]
      exact ⟨F1, q, Ext.refl _ _, by rw [same]; exact S1, rep_mem hR hv, .inl rfl⟩
    · subst e
      obtain ⟨ex, S3⟩ := S1.laid (o := CodeO c' (lamQ x)) nC
      have rc : Rep (CtxOf X) (upd F1 c' (CodeO c' (lamQ x))) ρ1 (codD x) (.ref c') := .node ⟨rfl, upd_same⟩ .nil
      refine ⟨_, q + 1, ex, S3.write hn hρ (k' := .tbk x) (vs' := vsT ++ [.ref c']) (fun H2 e => (show HoldM (CtxOf X) H2 (.tbk x) P' (vsT ++ [.ref c']) from ht H2 e)) ?_, rc, .inr rfl⟩
      rw [List.replicate_succ']
      exact (hR.ext ex).append (.cons rc .nil)
  obtain ⟨wsC, hwsC, rcs⟩ := slots_rep (R.ext e1) hcs
  have cp : Caps X (cloFrom X.env.cells scope.names []) fr js := Caps.made I1.ok hfree2 (ndef_fr hN) hjs
  obtain ⟨xs, kf, ⟨kd, hv, hk⟩, hsp, hnew⟩ := hh q' hq'
  generalize hκ : kset κ1 n (.live (.tbk x) (List.replicate q' (codD x))) = κ2 at S2 hv hsp hnew
  obtain ⟨v0, rfl, rv0⟩ := repL1 (R1.ext e2)
  obtain ⟨l, ws, rfl, hold, rl⟩ := view_at S2 rv0 hv
  obtain rfl := Vals.ref1 r0
  obtain ⟨its, rv, hIs, hz⟩ : ∃ its : List Value, Vals ws its ∧ (s'.heap.IsList l its.toArray ∨ IsTup s'.heap l its.toArray) ∧ ws.length ≤ sizeLine := by
    rcases hk with rfl | rfl | rfl
    · obtain ⟨its, r, hl, z⟩ := I1.list (SqL.of hold)
      exact ⟨its, r, .inl hl.isList, z⟩
    · obtain ⟨its, r, hl, z⟩ := I1.tuple hold
      exact ⟨its, r, .inr hl, z⟩
    · obtain ⟨its, r, hl, z⟩ := I1.list hold
      exact ⟨its, r, .inl hl.isList, z⟩
  have hzi : its.length ≤ sizeLine := by rw [← rv.length]; exact hz
  refine SKy.sorted_any (kw := [(Str.ofString "key", .ref f')]) hIs hzi (PyProof.Rows.ksk_s1 _ _) (fun _ => PyProof.Rows.ksk_l1 _ _) fun E' => ?_
  show wpAny _ _ (ksk_tree (s'.heap.objs.size + 1) (.ref f') false) _ _ _
  have szc : (PySem.W.copyHeap s'.heap its).objs.size = s'.heap.objs.size + 2 := by
    unfold PySem.W.copyHeap
    rw [size_push', Heap.size_update, size_push']
  have fa : FpOk X pins H1 (s'.heap.objs.size + 1) := I1.fpOk (Nat.le_succ _) (I1.hok.fresh (Nat.le_succ _))
  have fk : FpOk X pins H1 (s'.heap.objs.size + 3) := I1.fpOk (by omega) (I1.hok.fresh (by omega))
  have hf' : f' < s'.heap.objs.size := Heap.lt_size ho
  have nfr2 : ∀ b, FpOk X pins H1 b → b ∉ frs X.stack := fun b f z => by
    rcases List.mem_cons.mp (I1.stkSub b z) with q | q
    · exact f.2.1 q
    · exact f.2.2.1 q
  have hbs : ∀ (b : D × V), b ∈ xs.zip ws → True := fun _ _ => trivial
  obtain ⟨eZ, rZ⟩ := each_zip rl rv
  have lz : xs.length = ws.length := rl.length
  refine SKy.sort_run (s := { s' with heap := PySem.W.copyHeap s'.heap its }) (kz := xs.map kf) (fun s3 => ∃ F3 ρ3 H3, Ext F2 ρ1 F3 ρ3 ∧ StR (CtxOf X) F3 ρ3 κ2 H3 ∧ L2.Inv X pins σ H3 s3 ∧ H3 (s'.heap.objs.size + 1) = none ∧ H3 (s'.heap.objs.size + 3) = none ∧
      H3 f' = none ∧ s3.heap.get? f' = some (PySem.W.kla_obj "<lambda>" (lamQ x) params body scope (cloFrom X.env.cells scope.names []) pm c' ctv)) (PySem.W.copyHeap_at s'.heap its) ?hR ?turn (by rw [List.length_map, lz, rv.length]) hzi ?hu ?fin ?start
  case hR =>
    intro s3 h' tk ⟨F3, ρ3, H3, e3, S3, I3, n1, n3, n4, g4⟩ _ kp
    show _
    have kp' : ∀ b o, b ≠ s'.heap.objs.size + 3 → s3.heap.get? b = some o → h'.get? b = some o := fun b o hb e => kp b o (by show b ≠ (PySem.W.copyHeap s'.heap its).objs.size + 1; rw [szc]; exact hb) e
    exact ⟨F3, ρ3, H3, e3, S3, I3.turned kp' n3 fk.2.1 fk.2.2.2.1 fk.2.2.2.2.1 fk.2.2.2.2.2, n1, n3, n4, kp' f' _ (Nat.ne_of_lt (Nat.lt_of_lt_of_le hf' (Nat.le_add_right _ _))) g4⟩
  case hu =>
    have := G.rm.un
    show X.A.units + 1 + 1 < cLine
    omega
  case start =>
    intro h' kp _
    refine ⟨F2, ρ1, H1, Ext.refl _ _, S2, I1.kept (t' := s'.toks) fun b u e => kp b u (Nat.ne_of_lt (Nat.lt_succ_of_lt (Heap.lt_size e))) (PySem.W.copyHeap_old e), fa.1, fk.1, nf, kp f' _ (Nat.ne_of_lt (Nat.lt_of_lt_of_le hf' (Nat.le_add_right _ _))) (PySem.W.copyHeap_old ho)⟩
  case turn =>
    intro e9 i v kk s3 kA e8 hvi hki ⟨F3, ρ3, H3, e3, S3, I3, n1, n3, n4, g4⟩ k1 a1
    have k1' : s3.heap.get? (s'.heap.objs.size + 3) = some (seqObj "list" kA e8) := by
      have q : s3.heap.get? ((PySem.W.copyHeap s'.heap its).objs.size + 1) = some (seqObj "list" kA e8) := k1
      rw [szc] at q
      exact q
    obtain ⟨y, hy, rfl⟩ : ∃ y, xs[i]? = some y ∧ kf y = kk := by
      rw [List.getElem?_map] at hki
      cases z : xs[i]? with
      | none => rw [z] at hki; cases hki
      | some y => rw [z] at hki; exact ⟨y, rfl, Option.some.inj hki⟩
    obtain ⟨w0, hw0, rw0⟩ := vals_at1 rv hvi
    obtain ⟨w1, hw1, rw1⟩ := rl.get hy
    rw [hw0] at hw1
    cases hw1
    have CA : CloAt s3.heap H3 ⟨lamQ x, params, body, scope⟩ f' c' (cloFrom X.env.cells scope.names []) fr wsC := ⟨⟨pm, ctv, g4⟩, n4, hwsC ▸ cells_of I3 cp⟩
    have hc' : H3 c' = some (CodeO c' (lamQ x)) := by
      cases rc.ext e3 with
      | node hk2 _ => exact S3.sub _ _ hk2.2
    have E3 : Env0 X.prog X.w X.K X.mg X.base X.A.in1.in1 X.stack s3 H3 := ⟨I3.env0.frames, I3.env0.mod, I3.env0.bs, I3.env0.bsz, I3.env0.funs, I3.env0.frf, I3.env0.hok, I3.env0.bare⟩
    refine wpAny_call (codeAny_mono (FL.run X.A.in1.in1 X.stack s3 H3 f' c' (cloFrom X.env.cells scope.names []) [v] [w0] wsC [y] cs F3 ρ3 κ2 (fun _ _ _ => False) (fun d2 κ3 => d2 = .int (kf y) ∧ κ3 = κ2) (fun v2 H4 => v2 = .int (kf y) ∧ ∃ F4 ρ4, Ext F3 ρ3 F4 ρ4 ∧ StR (CtxOf X) F4 ρ4 κ2 H4) (fun _ _ _ => False)
      G.rm.in1.in1 G.gd E3 CA hc' rfl (.cons rw0 .nil) S3 (.cons (rw1.ext e3) .nil) (rcs.ext (e2.trans e3)) (hsp y (List.mem_of_getElem? hy) _ _ ⟨rfl, rfl⟩)
      (fun F4 ρ4 κ4 H4 d4 v4 e4 S4 R4 h4 => by obtain ⟨h5, h6⟩ := h4; subst h5; subst h6; cases R4; exact ⟨rfl, F4, ρ4, e4, S4⟩) (fun _ _ _ _ _ _ _ _ _ _ _ z => z.elim)) fun rs s4 hq4 => ?_)
    cases rs with
    | error er =>
      obtain ⟨_, _, _, _, _, _, _, _, _, _, _, _, z⟩ := hq4
      exact z.elim
    | ok fl =>
      cases fl with
      | next => exact False.elim hq4
      | brk => exact False.elim hq4
      | cont => exact False.elim hq4
      | ret u =>
        obtain ⟨v5, H5, os, bare, un, hok, r5, q5⟩ := hq4
        obtain ⟨v6, H6, I6, r6, ⟨hv6, F6, ρ6, e6, S6⟩, un6⟩ := I3.after (Q := fun v5 H5 => (v5 = .int (kf y) ∧ ∃ F4 ρ4, Ext F3 ρ3 F4 ρ4 ∧ StR (CtxOf X) F4 ρ4 κ2 H5) ∧ Un (frs X.stack) [] H3 H5 s3.heap s4.heap) ⟨v5, H5, os, bare, un, hok, r5, q5, un⟩
        subst hv6
        have gk : ∀ b o, H3 b = none → b ∉ frs X.stack → s3.heap.get? b = some o → s4.heap.get? b = some o ∧ H6 b = none := fun b o hn hb e => ⟨un6.keep b o e hn hb (by simp), un6.free b o e hn (by simp)⟩
        have q1 := gk _ _ n3 (nfr2 _ fk) k1'
        have q2 := gk _ _ n1 (nfr2 _ fa) a1
        have q3 := gk _ _ n4 nfr g4
        refine ⟨r6, ⟨F6, ρ6, H6, e3.trans e6, S6, I6, q2.2, q1.2, q3.2, q3.1⟩, ?_, q2.1⟩
        show s4.heap.get? ((PySem.W.copyHeap s'.heap its).objs.size + 1) = _
        rw [szc]
        exact q1.1
  case fin =>
    intro s3 h' tk out c0 ⟨F3, ρ3, H3, e3, S3, I3, n1, n3, n4, g4⟩ kp hout ko
    refine ⟨rfl, ?_⟩
    have kp' : ∀ b o, b ≠ s'.heap.objs.size + 1 → b ≠ s'.heap.objs.size + 3 → s3.heap.get? b = some o → h'.get? b = some o := fun b o hb hb2 e => kp b o hb (by show b ≠ (PySem.W.copyHeap s'.heap its).objs.size + 1; rw [szc]; exact hb2) e
    have ek : (xs.map kf).map PyData.int = (xs.zip ws).map fun b => PyData.int (kf b.1) := by
      have q : (xs.zip ws).map Prod.fst = xs := List.map_fst_zip (Nat.le_of_eq lz)
      have q2 : ((xs.zip ws).map Prod.fst).map (fun y => PyData.int (kf y)) = (xs.zip ws).map fun b => PyData.int (kf b.1) := by rw [List.map_map]; rfl
      rw [← q2, q, List.map_map]
      rfl
    rw [ek] at ko
    have ee := PySem.W.keyedOut_each (rev := false) (fun b : D × V => PyData.int (kf b.1)) ko eZ
    rw [PySem.W.dataLe_int (fun b : D × V => kf b.1)] at ee
    have e7 : ((xs.zip ws).mergeSort fun a b => decide (kf a.1 ≤ kf b.1)).map Prod.fst = xs.mergeSort fun a b => decide (kf a ≤ kf b) := by
      rw [List.map_mergeSort (s := fun a b => decide (kf a ≤ kf b)) (fun _ _ _ _ => rfl), List.map_fst_zip (Nat.le_of_eq lz)]
    have rS : RepL (CtxOf X) F3 ρ3 (xs.mergeSort fun a b => decide (kf a ≤ kf b)) (((xs.zip ws).mergeSort fun a b => decide (kf a.1 ≤ kf b.1)).map Prod.snd) := by
      rw [← e7]
      exact repL_pairs fun b hb => (rZ b (List.mem_mergeSort.mp hb)).ext e3
    have vS := vals_each ee
    have lS : (((xs.zip ws).mergeSort fun a b => decide (kf a.1 ≤ kf b.1)).map Prod.snd).length ≤ sizeLine := by
      rw [List.length_map, List.length_mergeSort, List.length_zip, lz, Nat.min_self]
      exact hz
    refine ⟨.ref (s'.heap.objs.size + 1), _, take2 (t' := tk) (o := .lst (((xs.zip ws).mergeSort fun a b => decide (kf a.1 ≤ kf b.1)).map Prod.snd)) I3 kp' ⟨n1, fa.2⟩ ⟨n3, fk.2⟩ ⟨lS, out, c0, vS, hout⟩, rfl, new_lst S3 rS hnew (P0.ext (e1.trans (e2.trans e3))) _ n1⟩
end
end DL
/-! DCi: where a lambda is written in a def's text; defs whose code object is known. -/
namespace DL
open PySem PySem.Spec PyProof.Rows L2 LamX NdefX
def noP : Pos := ⟨0, 0, 0, 0⟩
def noEx : Expr := .Name "" noP
def stAt (i : Nat) (b : List Stmt) : Stmt := match b, i with
  | [], _ => .Pass noP
  | s :: _, 0 => s
  | _ :: t, i + 1 => stAt i t
def kwAt (i : Nat) (b : List Keyword) : Expr := match b, i with
  | [], _ => noEx
  | s :: _, 0 => s.value
  | _ :: t, i + 1 => kwAt i t
def stV (s : Stmt) : Expr := match s with
  | .Assign _ v _ => v
  | .Expr v _ => v
  | .Return (some v) _ => v
  | .If t _ _ _ => t
  | .While t _ _ _ => t
  | .For _ t _ _ _ => t
  | _ => noEx
def exK (i : Nat) (e : Expr) : Expr := match e with
  | .Call _ _ ks _ => kwAt i ks
  | _ => noEx
def lamP (e : Expr) : Arguments := match e with
  | .Lambda a _ _ _ => a
  | _ => { posonlyargs := [], args := [], vararg := none, kwonlyargs := [], kw_defaults := [], kwarg := none, defaults := [] }
def lamB (e : Expr) : Expr := match e with
  | .Lambda _ b _ _ => b
  | _ => noEx
def lamS (e : Expr) : Scope := match e with
  | .Lambda _ _ s _ => s
  | _ => { kind := .function, names := [], isGenerator := false, isCoroutine := false }
section
variable {P : Program} {w : World} {K : PySem.W.Frag} {mg : Str → Option Value} {base : Heap}
theorem Fn_okDCd {x qual : Str} {st : Stmt} {dvs : List V} {kws : List (Str × V)} {f c : Addr} {fd : FuncData} {N ps : List Str} {k : Nat} {b : DS} (F : FunD K x qual (defArgs st) (defBody st) (defScope st) dvs kws f fd) (S : FnScope N ps (defScope st)) (sm : ∃ o, base.get? sysModules = some o) (hc : fd.code = .ref c)
    (hbody : ∀ (A : Around) (outer : List Env) (s : Shared) (H : Hp) (E : XK), Good k (cxD P w K mg base N qual (defScope st) f (.ref c) A outer s H E) (wxE E) → PSsD (cxD P w K mg base N qual (defScope st) f (.ref c) A outer s H E) (wxE E) (defBody st) b) :
    FnG P w K mg base (k + 1) f fd ps (spOf N.length ps.length b) := by
  refine ⟨fun ds κ XD Q h => h.1, fun A outer s H args us vs ds F0 ρ κ XD QD Q E hr hg e0 hb rv S0 R0 hsp PQ PE => ?_⟩
  obtain ⟨oc, od, dV, kV, doc, pm, an, cdv, ct, osl, rfl, lk, hcd, _, _⟩ := F.ex
  obtain rfl : cdv = .ref c := hc
  have hl : vs.length = ps.length := by rw [← R0.length, hsp.1]
  have KX : K.In s.heap := e0.mod.kin.keeps fun b o e => (e0.bs b o e).1
  have lim : s.heap.NoLimit := e0.mod.nolimit.keeps fun b o e => (e0.bs b o e).1
  have kinds : ∀ y ∈ ps.zip us, (defScope st).names.lookup y.1 = some .local ∨ ((defScope st).names.lookup y.1 = some .cell ∧ ((cellsFrom (s.heap.objs.size + 1) (defScope st).names []).lookup y.1).isSome = true) := fun y hy => by
    rcases S.par y.1 (List.of_mem_zip (a := y.1) (b := y.2) hy).1 with q | q
    · exact .inl q
    · exact .inr ⟨q, PySem.W.cellsFrom_some _ _ _ (.inl q)⟩
  refine codeAny_call_function hr.depth (KX _ _ lk) rfl S.co S.gen rfl (PySem.W.codeRec_of KX hcd) (hb _ _ _ _ (wpAny_newFunctionEnv_cells S.kind kinds fun env he s1 x => ?_))
  subst he
  refine ⟨lim.keeps x.toInCall.keep, codeAny_func ?_⟩
  have I := inv_start (CX := L2N.CX P w) (N := N) (qual := qual) (E := E) (f := f) (cd := .ref c) S hr.hd e0 hl rv x
  have g : Good k (cxD P w K mg base N qual (defScope st) f (.ref c) A outer s H E) (wxE E) :=
    ⟨L2N.takes_of rfl rfl rfl rfl, passes_of rfl, hr.deeper _, hg, sm, rfl, S.nd⟩
  refine wpAny_mono ((hbody A outer s H E g).run [] s1 _ H ⟨fun _ H' => Q .non H', Q, fun _ _ => False, fun _ _ => False⟩ I
    ⟨F0, ρ, κ, startD N.length ds, _, _, S0, repS_start R0, hsp.2, ⟨fun F' ρ' κ' H' δ σ e S R q => PQ _ _ _ _ _ _ e S .non q, PQ, fun _ _ _ _ _ _ _ _ _ z => z.elim, fun _ _ _ _ _ _ _ _ _ z => z.elim⟩,
      fun F' ρ' κ' H' δ σ c fs cls dd e S R rx q => PE _ _ _ _ _ _ _ _ e S rx q⟩) (fun fl s' hs => ?_) fun e s' hs => hs
  cases fl with
  | ret u =>
    obtain ⟨v, σ', H', J, rv', q⟩ := hs
    exact ⟨v, H', J.os, J.bare, J.base, J.hok, rv', q⟩
  | next =>
    obtain ⟨σ', H', J, q⟩ := hs
    exact ⟨.non, H', J.os, J.bare, J.base, J.hok, rfl, q⟩
  | brk => obtain ⟨_, _, _, q⟩ := hs; exact q.elim
  | cont => obtain ⟨_, _, _, q⟩ := hs; exact q.elim
theorem TabD.code {x : Str} {c tP f : Addr} {oc : Value} {od : Option Addr} {fd : FuncData} {sl : Array (Option Value)} (T : TabD K mg x c tP) (m : mg x = some (.ref f)) (lk : K.lookup f = some ⟨oc, od, .func fd, sl⟩) : fd.code = .ref c := by
  obtain ⟨f', oc', od', fd', sl', h1, h2, h3⟩ := T.ex
  rw [m] at h1
  cases h1
  rw [lk] at h2
  cases h2
  exact h3
theorem Fn_okDT {x : Str} {st : Stmt} {dvs : List V} {kws : List (Str × V)} {f c tP : Addr} {fd : FuncData} {N ps : List Str} {k : Nat} {b : DS} (D : DefD K mg x st f fd dvs kws) (S : FnScope N ps (defScope st)) (sm : ∃ o, base.get? sysModules = some o) (T : TabD K mg x c tP)
    (hbody : ∀ (A : Around) (outer : List Env) (s : Shared) (H : Hp) (E : XK), Good k (cxD P w K mg base N x (defScope st) f (.ref c) A outer s H E) (wxE E) → PSsD (cxD P w K mg base N x (defScope st) f (.ref c) A outer s H E) (wxE E) (defBody st) b) :
    FnG P w K mg base (k + 1) f fd ps (spOf N.length ps.length b) := by
  refine Fn_okDCd D.F S sm ?_ hbody
  obtain ⟨oc, od, dV, kV, doc, pm, an, cdv, ct, osl, rfl, lk, hcd, _, _⟩ := D.F.ex
  exact T.code D.m lk
end
end DL
namespace L_k05
open PySem PySem.Spec PyProof.Rows L2 DL
def topS (i : Nat) : Stmt := PySem.Challenge.pw_hintedpoints_k05_numbers_in_order.main.body.getD i (.Pass ⟨0, 0, 0, 0⟩)
def ktab : List KRow := []
def kt : KTab := ktOf ktab
structure Tz (K : PySem.W.Frag) (mg : Str → Option Value) : Prop where
  kit : KitT K mg kt
  z_abs : mg "abs" = none
  z_bool : mg "bool" = none
  z_int : mg "int" = none
  z_isinstance : mg "isinstance" = none
  z_len : mg "len" = none
  z_list : mg "list" = none
  z_max : mg "max" = none
  z_min : mg "min" = none
  z_range : mg "range" = none
  z_repr : mg "repr" = none
  z_sorted : mg "sorted" = none
  z_tuple : mg "tuple" = none
  z_zip : mg "zip" = none
  g_MOST_NUMBERS : ∃ t, mg "MOST_NUMBERS" = some (.int 400 t)
/-! is_plain -/
abbrev s_is_plain : Stmt := topS 6
theorem sc_is_plain : FnScope ["thing"] ["thing"] (defScope s_is_plain) := ⟨rfl, rfl, rfl, by decide +kernel, rfl, by decide +kernel, by decide +kernel⟩
def b_is_plain : DS := (sRet (dAnd (dB (fIsi kt) (dCons (dVar 0) (dCons (dC (.ty "int")) dNil))) (dNot (dB (fIsi kt) (dCons (dVar 0) (dCons (dC (.ty "bool")) dNil))))))
def sp_is_plain : DSp := spOf 1 1 b_is_plain
theorem fn_is_plain {P : Program} {w : World} {K : PySem.W.Frag} {mg : Str → Option Value} {base : Heap} {f : Addr} {fd : FuncData} (T : Tz K mg) (D : DefAt K mg "is_plain" s_is_plain f fd) (sm : ∃ o, base.get? sysModules = some o)  : FnG P w K mg base 1 f fd ["thing"] sp_is_plain :=
  Fn_ok (k := 0) (b := b_is_plain) D.F sc_is_plain sm fun cdv A outer s H E G => (sd_one (sd_ret (pd_and (pd_callB (call_isiD T.kit) sim_isi T.z_isinstance (pa_consD (pd_var 0) (pa_consD (pd_tyName T.z_int) pa_nilD))) (pd_one (pd_not (pd_callB (call_isiD T.kit) sim_isi T.z_isinstance (pa_consD (pd_var 0) (pa_consD (pd_tyName T.z_bool) pa_nilD))))))))
theorem ok_is_plain {P : Program} {w : World} {K : PySem.W.Frag} {mg : Str → Option Value} {base : Heap} {f : Addr} {fd : FuncData} (T : Tz K mg) (D : DefAt K mg "is_plain" s_is_plain f fd) (sm : ∃ o, base.get? sysModules = some o)  : Ok P w K mg base 1 "is_plain" ["thing"] sp_is_plain := ok_mk D (fn_is_plain T D sm ) (fun _ _ _ _ _ _ us hl => match us, hl with | [_], _ => rfl)
/-! common_part -/
abbrev s_common_part : Stmt := topS 7
theorem sc_common_part : FnScope ["one", "other"] ["one", "other"] (defScope s_common_part) := ⟨rfl, rfl, rfl, by decide +kernel, rfl, by decide +kernel, by decide +kernel⟩
def b_common_part : DS := (sSeq (sPar 0 1 (dCons (dB fAbs (dCons (dVar 0) dNil)) (dCons (dB fAbs (dCons (dVar 1) dNil)) dNil))) (sSeq (sWhile (tBl (dOp fNe (dVar 1) (dC (.int 0)))) (sPar 0 1 (dCons (dVar 1) (dCons (dOp fMod (dVar 0) (dVar 1)) dNil)))) (sRet (dVar 0))))
def sp_common_part : DSp := spOf 2 2 b_common_part
theorem fn_common_part {P : Program} {w : World} {K : PySem.W.Frag} {mg : Str → Option Value} {base : Heap} {f : Addr} {fd : FuncData} (T : Tz K mg) (D : DefAt K mg "common_part" s_common_part f fd) (sm : ∃ o, base.get? sysModules = some o)  : FnG P w K mg base 1 f fd ["one", "other"] sp_common_part :=
  Fn_ok (k := 0) (b := b_common_part) D.F sc_common_part sm fun cdv A outer s H E G => (sd_cons (sd_par 0 1 (fun _ h => ps_par G.calm G.nd rfl rfl (by decide) rfl rfl h (by rfl)) (pa_consD (pd_callB call_abs sim_abs T.z_abs (pa_consD (pd_var 0) pa_nilD)) (pa_consD (pd_callB call_abs sim_abs T.z_abs (pa_consD (pd_var 1) pa_nilD)) pa_nilD))) (sd_cons (sd_while G (pt_ne G (pd_var 1) pd_int) (sd_one (sd_par 0 1 (fun _ h => ps_par G.calm G.nd rfl rfl (by decide) rfl rfl h (by rfl)) (pa_consD (pd_var 1) (pa_consD (pd_mod (pd_var 0) (pd_var 1)) pa_nilD))))) (sd_one (sd_ret (pd_var 0)))))
theorem ok_common_part {P : Program} {w : World} {K : PySem.W.Frag} {mg : Str → Option Value} {base : Heap} {f : Addr} {fd : FuncData} (T : Tz K mg) (D : DefAt K mg "common_part" s_common_part f fd) (sm : ∃ o, base.get? sysModules = some o)  : Ok P w K mg base 1 "common_part" ["one", "other"] sp_common_part := ok_mk D (fn_common_part T D sm ) (fun _ _ _ _ _ _ us hl => match us, hl with | [_, _], _ => rfl)
/-! is_part -/
abbrev s_is_part : Stmt := topS 8
theorem sc_is_part : FnScope ["thing", "top", "base"] ["thing"] (defScope s_is_part) := ⟨rfl, rfl, rfl, by decide +kernel, rfl, by decide +kernel, by decide +kernel⟩
def b_is_part : DS := (sSeq (sIf (tOrD (tNotD (tTru (dB (fIsi kt) (dCons (dVar 0) (dCons (dC (.ty "tuple")) dNil))))) (tBl (dOp fNe (dB fLen (dCons (dVar 0) dNil)) (dC (.int 2))))) (sRet (dC (.bl false))) sNil) (sSeq (sAsg (dVar 0) (gTupD 2 (gConsD (gN 1) (gConsD (gN 2) gNilD)))) (sRet (dAnd (dCall sp_is_plain [] (dCons (dVar 1) dNil)) (dAnd (dCall sp_is_plain [] (dCons (dVar 2) dNil)) (dAnd (dOp fGtS (dVar 2) (dC (.int 1))) (dOp fEq (dCall sp_common_part [] (dCons (dVar 1) (dCons (dVar 2) dNil))) (dC (.int 1)))))))))
def sp_is_part : DSp := spOf 3 1 b_is_part
theorem fn_is_part {P : Program} {w : World} {K : PySem.W.Frag} {mg : Str → Option Value} {base : Heap} {f : Addr} {fd : FuncData} (T : Tz K mg) (D : DefAt K mg "is_part" s_is_part f fd) (sm : ∃ o, base.get? sysModules = some o) (O_common_part : Ok P w K mg base 1 "common_part" ["one", "other"] sp_common_part) (O_is_plain : Ok P w K mg base 1 "is_plain" ["thing"] sp_is_plain) : FnG P w K mg base 2 f fd ["thing"] sp_is_part :=
  Fn_ok (k := 1) (b := b_is_part) D.F sc_is_part sm fun cdv A outer s H E G => (sd_cons (sd_if (PW.pt (pw_orD (pt_notD (pt_truD (pd_callB (call_isiD T.kit) sim_isi T.z_isinstance (pa_consD (pd_var 0) (pa_consD (pd_tyName T.z_tuple) pa_nilD))))) (pw_or1D (pt_ne G (pd_callB call_len sim_len T.z_len (pa_consD (pd_var 0) pa_nilD)) pd_int)))) (sd_one (sd_ret pd_bl)) sd_nil) (sd_cons (sd_asg (pd_var 0) (pg_tupD G.calm (pgs_consD (pg_nameD (i := 1) G.nd) (pgs_consD (pg_nameD (i := 2) G.nd) pgs_nilD)))) (sd_one (sd_ret (pd_and (pd_callN G (O_is_plain.mono (by decide)) (pa_consD (pd_var 1) pa_nilD)) (pd_and (pd_callN G (O_is_plain.mono (by decide)) (pa_consD (pd_var 2) pa_nilD)) (pd_and (pd_gt (pd_var 2) pd_int) (pd_one (pd_eq G (pd_callN G (O_common_part.mono (by decide)) (pa_consD (pd_var 1) (pa_consD (pd_var 2) pa_nilD))) pd_int)))))))))
theorem ok_is_part {P : Program} {w : World} {K : PySem.W.Frag} {mg : Str → Option Value} {base : Heap} {f : Addr} {fd : FuncData} (T : Tz K mg) (D : DefAt K mg "is_part" s_is_part f fd) (sm : ∃ o, base.get? sysModules = some o) (O_common_part : Ok P w K mg base 1 "common_part" ["one", "other"] sp_common_part) (O_is_plain : Ok P w K mg base 1 "is_plain" ["thing"] sp_is_plain) : Ok P w K mg base 2 "is_part" ["thing"] sp_is_part := ok_mk D (fn_is_part T D sm O_common_part O_is_plain) (fun _ _ _ _ _ _ us hl => match us, hl with | [_], _ => rfl)
/-! reckoned -/
abbrev s_reckoned : Stmt := topS 9
theorem sc_reckoned : FnScope ["top", "base", "part"] ["top", "base"] (defScope s_reckoned) := ⟨rfl, rfl, rfl, by decide +kernel, rfl, by decide +kernel, by decide +kernel⟩
def b_reckoned : DS := (sSeq (sAsg (dCall sp_common_part [] (dCons (dVar 0) (dCons (dVar 1) dNil))) (gN 2)) (sSeq (sIf (tBl (dOp fLtS (dVar 1) (dC (.int 0)))) (sAsg (dOp fSub (dC (.int 0)) (dVar 2)) (gN 2)) sNil) (sSeq (sPar 0 1 (dCons (dOp fDiv (dVar 0) (dVar 2)) (dCons (dOp fDiv (dVar 1) (dVar 2)) dNil))) (sRet (dIf (tBl (dOp fEq (dVar 1) (dC (.int 1)))) (dVar 0) (dTup (dCons (dVar 0) (dCons (dVar 1) dNil))))))))
def sp_reckoned : DSp := spOf 3 2 b_reckoned
theorem fn_reckoned {P : Program} {w : World} {K : PySem.W.Frag} {mg : Str → Option Value} {base : Heap} {f : Addr} {fd : FuncData} (T : Tz K mg) (D : DefAt K mg "reckoned" s_reckoned f fd) (sm : ∃ o, base.get? sysModules = some o) (O_common_part : Ok P w K mg base 1 "common_part" ["one", "other"] sp_common_part) : FnG P w K mg base 2 f fd ["top", "base"] sp_reckoned :=
  Fn_ok (k := 1) (b := b_reckoned) D.F sc_reckoned sm fun cdv A outer s H E G => (sd_cons (sd_set 2 G.nd (pd_callN G (O_common_part.mono (by decide)) (pa_consD (pd_var 0) (pa_consD (pd_var 1) pa_nilD)))) (sd_cons (sd_if (pt_lt (pd_var 1) pd_int) (sd_one (sd_set 2 G.nd (pd_sub pd_int (pd_var 2)))) sd_nil) (sd_cons (sd_par 0 1 (fun _ h => ps_par G.calm G.nd rfl rfl (by decide) rfl rfl h (by rfl)) (pa_consD (pd_fdiv (pd_var 0) (pd_var 2)) (pa_consD (pd_fdiv (pd_var 1) (pd_var 2)) pa_nilD))) (sd_one (sd_ret (pd_if (pt_eq G (pd_var 1) pd_int) (pd_var 0) (pd_tup (pa_consD (pd_var 0) (pa_consD (pd_var 1) pa_nilD)))))))))
theorem ok_reckoned {P : Program} {w : World} {K : PySem.W.Frag} {mg : Str → Option Value} {base : Heap} {f : Addr} {fd : FuncData} (T : Tz K mg) (D : DefAt K mg "reckoned" s_reckoned f fd) (sm : ∃ o, base.get? sysModules = some o) (O_common_part : Ok P w K mg base 1 "common_part" ["one", "other"] sp_common_part) : Ok P w K mg base 2 "reckoned" ["top", "base"] sp_reckoned := ok_mk D (fn_reckoned T D sm O_common_part) (fun _ _ _ _ _ _ us hl => match us, hl with | [_, _], _ => rfl)
/-! pair_of -/
abbrev s_pair_of : Stmt := topS 10
theorem sc_pair_of : FnScope ["number"] ["number"] (defScope s_pair_of) := ⟨rfl, rfl, rfl, by decide +kernel, rfl, by decide +kernel, by decide +kernel⟩
def b_pair_of : DS := (sSeq (sIf (tTru (dCall sp_is_plain [] (dCons (dVar 0) dNil))) (sRet (dTup (dCons (dVar 0) (dCons (dC (.int 1)) dNil)))) sNil) (sSeq (sIf (tNotD (tTru (dCall sp_is_part [] (dCons (dVar 0) dNil)))) (sRz "NoNumber" ["found"] (dCons (dVar 0) dNil)) sNil) (sRet (dVar 0))))
def sp_pair_of : DSp := spOf 1 1 b_pair_of
theorem fn_pair_of {P : Program} {w : World} {K : PySem.W.Frag} {mg : Str → Option Value} {base : Heap} {f : Addr} {fd : FuncData} (T : Tz K mg) (D : DefAt K mg "pair_of" s_pair_of f fd) (sm : ∃ o, base.get? sysModules = some o) (E_NoNumber : ExOk P w K mg base "NoNumber" ["found"]) (O_is_part : Ok P w K mg base 2 "is_part" ["thing"] sp_is_part) (O_is_plain : Ok P w K mg base 1 "is_plain" ["thing"] sp_is_plain) : FnG P w K mg base 3 f fd ["number"] sp_pair_of :=
  Fn_ok (k := 2) (b := b_pair_of) D.F sc_pair_of sm fun cdv A outer s H E G => (sd_cons (sd_if (pt_truD (pd_callN G (O_is_plain.mono (by decide)) (pa_consD (pd_var 0) pa_nilD))) (sd_one (sd_ret (pd_tup (pa_consD (pd_var 0) (pa_consD pd_int pa_nilD))))) sd_nil) (sd_cons (sd_if (pt_notD (pt_truD (pd_callN G (O_is_part.mono (by decide)) (pa_consD (pd_var 0) pa_nilD)))) (sd_one (sd_raise (G.mono (j := 2) (by decide)) E_NoNumber (by simp) (pa_consD (pd_var 0) pa_nilD))) sd_nil) (sd_one (sd_ret (pd_var 0)))))
theorem ok_pair_of {P : Program} {w : World} {K : PySem.W.Frag} {mg : Str → Option Value} {base : Heap} {f : Addr} {fd : FuncData} (T : Tz K mg) (D : DefAt K mg "pair_of" s_pair_of f fd) (sm : ∃ o, base.get? sysModules = some o) (E_NoNumber : ExOk P w K mg base "NoNumber" ["found"]) (O_is_part : Ok P w K mg base 2 "is_part" ["thing"] sp_is_part) (O_is_plain : Ok P w K mg base 1 "is_plain" ["thing"] sp_is_plain) : Ok P w K mg base 3 "pair_of" ["number"] sp_pair_of := ok_mk D (fn_pair_of T D sm E_NoNumber O_is_part O_is_plain) (fun _ _ _ _ _ _ us hl => match us, hl with | [_], _ => rfl)
/-! plus -/
abbrev s_plus : Stmt := topS 11
theorem sc_plus : FnScope ["one", "other", "top", "base", "more", "under"] ["one", "other"] (defScope s_plus) := ⟨rfl, rfl, rfl, by decide +kernel, rfl, by decide +kernel, by decide +kernel⟩
def b_plus : DS := (sSeq (sAsg (dTup (dCons (dCall sp_pair_of [] (dCons (dVar 0) dNil)) (dCons (dCall sp_pair_of [] (dCons (dVar 1) dNil)) dNil))) (gTupD 2 (gConsD (gTupD 2 (gConsD (gN 2) (gConsD (gN 3) gNilD))) (gConsD (gTupD 2 (gConsD (gN 4) (gConsD (gN 5) gNilD))) gNilD)))) (sRet (dCall sp_reckoned [] (dCons (dOp (fAdd false) (dOp fMulI (dVar 2) (dVar 5)) (dOp fMulI (dVar 4) (dVar 3))) (dCons (dOp fMulI (dVar 3) (dVar 5)) dNil)))))
def sp_plus : DSp := spOf 6 2 b_plus
theorem fn_plus {P : Program} {w : World} {K : PySem.W.Frag} {mg : Str → Option Value} {base : Heap} {f : Addr} {fd : FuncData} (T : Tz K mg) (D : DefAt K mg "plus" s_plus f fd) (sm : ∃ o, base.get? sysModules = some o) (O_pair_of : Ok P w K mg base 3 "pair_of" ["number"] sp_pair_of) (O_reckoned : Ok P w K mg base 2 "reckoned" ["top", "base"] sp_reckoned) : FnG P w K mg base 4 f fd ["one", "other"] sp_plus :=
  Fn_ok (k := 3) (b := b_plus) D.F sc_plus sm fun cdv A outer s H E G => (sd_cons (sd_asg (pd_tup (pa_consD (pd_callN G (O_pair_of.mono (by decide)) (pa_consD (pd_var 0) pa_nilD)) (pa_consD (pd_callN G (O_pair_of.mono (by decide)) (pa_consD (pd_var 1) pa_nilD)) pa_nilD))) (pg_tupD G.calm (pgs_consD (pg_tupD G.calm (pgs_consD (pg_nameD (i := 2) G.nd) (pgs_consD (pg_nameD (i := 3) G.nd) pgs_nilD))) (pgs_consD (pg_tupD G.calm (pgs_consD (pg_nameD (i := 4) G.nd) (pgs_consD (pg_nameD (i := 5) G.nd) pgs_nilD))) pgs_nilD)))) (sd_one (sd_ret (pd_callN G (O_reckoned.mono (by decide)) (pa_consD (pd_add false (pd_mulI (pd_var 2) (pd_var 5)) (pd_mulI (pd_var 4) (pd_var 3))) (pa_consD (pd_mulI (pd_var 3) (pd_var 5)) pa_nilD))))))
theorem ok_plus {P : Program} {w : World} {K : PySem.W.Frag} {mg : Str → Option Value} {base : Heap} {f : Addr} {fd : FuncData} (T : Tz K mg) (D : DefAt K mg "plus" s_plus f fd) (sm : ∃ o, base.get? sysModules = some o) (O_pair_of : Ok P w K mg base 3 "pair_of" ["number"] sp_pair_of) (O_reckoned : Ok P w K mg base 2 "reckoned" ["top", "base"] sp_reckoned) : Ok P w K mg base 4 "plus" ["one", "other"] sp_plus := ok_mk D (fn_plus T D sm O_pair_of O_reckoned) (fun _ _ _ _ _ _ us hl => match us, hl with | [_, _], _ => rfl)
/-! times -/
abbrev s_times : Stmt := topS 12
theorem sc_times : FnScope ["one", "other", "top", "base", "more", "under"] ["one", "other"] (defScope s_times) := ⟨rfl, rfl, rfl, by decide +kernel, rfl, by decide +kernel, by decide +kernel⟩
def b_times : DS := (sSeq (sAsg (dTup (dCons (dCall sp_pair_of [] (dCons (dVar 0) dNil)) (dCons (dCall sp_pair_of [] (dCons (dVar 1) dNil)) dNil))) (gTupD 2 (gConsD (gTupD 2 (gConsD (gN 2) (gConsD (gN 3) gNilD))) (gConsD (gTupD 2 (gConsD (gN 4) (gConsD (gN 5) gNilD))) gNilD)))) (sRet (dCall sp_reckoned [] (dCons (dOp fMulI (dVar 2) (dVar 4)) (dCons (dOp fMulI (dVar 3) (dVar 5)) dNil)))))
def sp_times : DSp := spOf 6 2 b_times
theorem fn_times {P : Program} {w : World} {K : PySem.W.Frag} {mg : Str → Option Value} {base : Heap} {f : Addr} {fd : FuncData} (T : Tz K mg) (D : DefAt K mg "times" s_times f fd) (sm : ∃ o, base.get? sysModules = some o) (O_pair_of : Ok P w K mg base 3 "pair_of" ["number"] sp_pair_of) (O_reckoned : Ok P w K mg base 2 "reckoned" ["top", "base"] sp_reckoned) : FnG P w K mg base 4 f fd ["one", "other"] sp_times :=
  Fn_ok (k := 3) (b := b_times) D.F sc_times sm fun cdv A outer s H E G => (sd_cons (sd_asg (pd_tup (pa_consD (pd_callN G (O_pair_of.mono (by decide)) (pa_consD (pd_var 0) pa_nilD)) (pa_consD (pd_callN G (O_pair_of.mono (by decide)) (pa_consD (pd_var 1) pa_nilD)) pa_nilD))) (pg_tupD G.calm (pgs_consD (pg_tupD G.calm (pgs_consD (pg_nameD (i := 2) G.nd) (pgs_consD (pg_nameD (i := 3) G.nd) pgs_nilD))) (pgs_consD (pg_tupD G.calm (pgs_consD (pg_nameD (i := 4) G.nd) (pgs_consD (pg_nameD (i := 5) G.nd) pgs_nilD))) pgs_nilD)))) (sd_one (sd_ret (pd_callN G (O_reckoned.mono (by decide)) (pa_consD (pd_mulI (pd_var 2) (pd_var 4)) (pa_consD (pd_mulI (pd_var 3) (pd_var 5)) pa_nilD))))))
theorem ok_times {P : Program} {w : World} {K : PySem.W.Frag} {mg : Str → Option Value} {base : Heap} {f : Addr} {fd : FuncData} (T : Tz K mg) (D : DefAt K mg "times" s_times f fd) (sm : ∃ o, base.get? sysModules = some o) (O_pair_of : Ok P w K mg base 3 "pair_of" ["number"] sp_pair_of) (O_reckoned : Ok P w K mg base 2 "reckoned" ["top", "base"] sp_reckoned) : Ok P w K mg base 4 "times" ["one", "other"] sp_times := ok_mk D (fn_times T D sm O_pair_of O_reckoned) (fun _ _ _ _ _ _ us hl => match us, hl with | [_, _], _ => rfl)
/-! over -/
abbrev s_over : Stmt := topS 13
theorem sc_over : FnScope ["one", "other", "top", "base", "more", "under"] ["one", "other"] (defScope s_over) := ⟨rfl, rfl, rfl, by decide +kernel, rfl, by decide +kernel, by decide +kernel⟩
def b_over : DS := (sSeq (sAsg (dTup (dCons (dCall sp_pair_of [] (dCons (dVar 0) dNil)) (dCons (dCall sp_pair_of [] (dCons (dVar 1) dNil)) dNil))) (gTupD 2 (gConsD (gTupD 2 (gConsD (gN 2) (gConsD (gN 3) gNilD))) (gConsD (gTupD 2 (gConsD (gN 4) (gConsD (gN 5) gNilD))) gNilD)))) (sSeq (sIf (tBl (dOp fEq (dVar 4) (dC (.int 0)))) sNever sNil) (sRet (dCall sp_reckoned [] (dCons (dOp fMulI (dVar 2) (dVar 5)) (dCons (dOp fMulI (dVar 3) (dVar 4)) dNil))))))
def sp_over : DSp := spOf 6 2 b_over
theorem fn_over {P : Program} {w : World} {K : PySem.W.Frag} {mg : Str → Option Value} {base : Heap} {f : Addr} {fd : FuncData} (T : Tz K mg) (D : DefAt K mg "over" s_over f fd) (sm : ∃ o, base.get? sysModules = some o) (O_pair_of : Ok P w K mg base 3 "pair_of" ["number"] sp_pair_of) (O_reckoned : Ok P w K mg base 2 "reckoned" ["top", "base"] sp_reckoned) : FnG P w K mg base 4 f fd ["one", "other"] sp_over :=
  Fn_ok (k := 3) (b := b_over) D.F sc_over sm fun cdv A outer s H E G => (sd_cons (sd_asg (pd_tup (pa_consD (pd_callN G (O_pair_of.mono (by decide)) (pa_consD (pd_var 0) pa_nilD)) (pa_consD (pd_callN G (O_pair_of.mono (by decide)) (pa_consD (pd_var 1) pa_nilD)) pa_nilD))) (pg_tupD G.calm (pgs_consD (pg_tupD G.calm (pgs_consD (pg_nameD (i := 2) G.nd) (pgs_consD (pg_nameD (i := 3) G.nd) pgs_nilD))) (pgs_consD (pg_tupD G.calm (pgs_consD (pg_nameD (i := 4) G.nd) (pgs_consD (pg_nameD (i := 5) G.nd) pgs_nilD))) pgs_nilD)))) (sd_cons (sd_if (pt_eq G (pd_var 4) pd_int) (sd_one sd_never) sd_nil) (sd_one (sd_ret (pd_callN G (O_reckoned.mono (by decide)) (pa_consD (pd_mulI (pd_var 2) (pd_var 5)) (pa_consD (pd_mulI (pd_var 3) (pd_var 4)) pa_nilD)))))))
theorem ok_over {P : Program} {w : World} {K : PySem.W.Frag} {mg : Str → Option Value} {base : Heap} {f : Addr} {fd : FuncData} (T : Tz K mg) (D : DefAt K mg "over" s_over f fd) (sm : ∃ o, base.get? sysModules = some o) (O_pair_of : Ok P w K mg base 3 "pair_of" ["number"] sp_pair_of) (O_reckoned : Ok P w K mg base 2 "reckoned" ["top", "base"] sp_reckoned) : Ok P w K mg base 4 "over" ["one", "other"] sp_over := ok_mk D (fn_over T D sm O_pair_of O_reckoned) (fun _ _ _ _ _ _ us hl => match us, hl with | [_, _], _ => rfl)
/-! need_numbers -/
abbrev s_need_numbers : Stmt := topS 14
theorem sc_need_numbers : FnScope ["numbers", "number"] ["numbers"] (defScope s_need_numbers) := ⟨rfl, rfl, rfl, by decide +kernel, rfl, by decide +kernel, by decide +kernel⟩
def b_need_numbers : DS := (sSeq (sIf (tOrD (tNotD (tTru (dB (fIsi kt) (dCons (dVar 0) (dCons (dTup (dCons (dC (.ty "list")) (dCons (dC (.ty "tuple")) dNil))) dNil))))) (tBl (dOp fGtS (dB fLen (dCons (dVar 0) dNil)) (dC (.int 400))))) (sRz "NoNumber" ["found"] (dCons (dVar 0) dNil)) sNil) (sFor (iSeq (dVar 0)) (gN 1) (sExp (dCall sp_pair_of [] (dCons (dVar 1) dNil)))))
def sp_need_numbers : DSp := spOf 2 1 b_need_numbers
theorem fn_need_numbers {P : Program} {w : World} {K : PySem.W.Frag} {mg : Str → Option Value} {base : Heap} {f : Addr} {fd : FuncData} (T : Tz K mg) (D : DefAt K mg "need_numbers" s_need_numbers f fd) (sm : ∃ o, base.get? sysModules = some o) (E_NoNumber : ExOk P w K mg base "NoNumber" ["found"]) (O_pair_of : Ok P w K mg base 3 "pair_of" ["number"] sp_pair_of) : FnG P w K mg base 4 f fd ["numbers"] sp_need_numbers :=
  Fn_ok (k := 3) (b := b_need_numbers) D.F sc_need_numbers sm fun cdv A outer s H E G => (sd_cons (sd_if (PW.pt (pw_orD (pt_notD (pt_truD (pd_callB (call_isiD T.kit) sim_isi T.z_isinstance (pa_consD (pd_var 0) (pa_consD (pd_tup (pa_consD (pd_tyName T.z_list) (pa_consD (pd_tyName T.z_tuple) pa_nilD))) pa_nilD))))) (pw_or1D (pt_gt (pd_callB call_len sim_len T.z_len (pa_consD (pd_var 0) pa_nilD)) (pd_glbInt T.g_MOST_NUMBERS))))) (sd_one (sd_raise (G.mono (j := 2) (by decide)) E_NoNumber (by simp) (pa_consD (pd_var 0) pa_nilD))) sd_nil) (sd_one (sd_for G (pi_seqD (pd_var 0)) (pg_nameD (i := 1) G.nd) (sd_one (sd_exp (pd_callN G (O_pair_of.mono (by decide)) (pa_consD (pd_var 1) pa_nilD)))))))
theorem ok_need_numbers {P : Program} {w : World} {K : PySem.W.Frag} {mg : Str → Option Value} {base : Heap} {f : Addr} {fd : FuncData} (T : Tz K mg) (D : DefAt K mg "need_numbers" s_need_numbers f fd) (sm : ∃ o, base.get? sysModules = some o) (E_NoNumber : ExOk P w K mg base "NoNumber" ["found"]) (O_pair_of : Ok P w K mg base 3 "pair_of" ["number"] sp_pair_of) : Ok P w K mg base 4 "need_numbers" ["numbers"] sp_need_numbers := ok_mk D (fn_need_numbers T D sm E_NoNumber O_pair_of) (fun _ _ _ _ _ _ us hl => match us, hl with | [_], _ => rfl)
/-! rising -/
abbrev s_rising : Stmt := topS 15
theorem sc_rising : FnScope ["numbers", "down", "whole", "number", "top", "base", "found"] ["numbers", "down"] (defScope s_rising) := ⟨rfl, rfl, rfl, by decide +kernel, rfl, by decide +kernel, by decide +kernel⟩
abbrev e_rising_0 : Expr := (exK 0 (stV (stAt 3 (defBody s_rising))))
theorem ns_rising_0 : NdefX.NScope ["number", "whole"] ["number"] ["whole"] (lamS e_rising_0) := NdefX.nscope_by (by decide +kernel)
def bl_rising_0 : DE := (dOp fMulI (dOp fIx (dCall sp_pair_of [] (dCons (dVar 0) dNil)) (dC (.int 0))) (dOp fDiv (dVar 1) (dOp fIx (dCall sp_pair_of [] (dCons (dVar 0) dNil)) (dC (.int 1)))))
def spl_rising_0 : DSp := spLam 2 2 bl_rising_0
theorem fl_rising_0 {P : Program} {w : World} {K : PySem.W.Frag} {mg : Str → Option Value} {base : Heap} (T : Tz K mg) (sm : ∃ o, base.get? sysModules = some o) (O_pair_of : Ok P w K mg base 3 "pair_of" ["number"] sp_pair_of) : FnLam P w K mg base 4 ⟨lamQ "rising", lamP e_rising_0, lamB e_rising_0, lamS e_rising_0⟩ ["number"] ["whole"] spl_rising_0 :=
  lam_ok (k := 3) (N := ["number", "whole"]) (ps := ["number"]) (fr := ["whole"]) (L := ⟨lamQ "rising", lamP e_rising_0, lamB e_rising_0, lamS e_rising_0⟩) (b := bl_rising_0) ns_rising_0 sm (fun _ _ _ _ us hl => match us, hl with | [_], _ => rfl) fun cl c' a A outer s H E G => (pd_mulI (pd_ix (pd_callN G (O_pair_of.mono (by decide)) (pa_consD (pd_var 0) pa_nilD)) pd_int) (pd_fdiv (pd_var 1) (pd_ix (pd_callN G (O_pair_of.mono (by decide)) (pa_consD (pd_var 0) pa_nilD)) pd_int)))
def b_rising : DS := (sSeq (sExp (dCall sp_need_numbers [] (dCons (dVar 0) dNil))) (sSeq (sAsg (dC (.int 1)) (gN 2)) (sSeq (sFor (iSeq (dVar 0)) (gN 3) (sSeq (sAsg (dCall sp_pair_of [] (dCons (dVar 3) dNil)) (gTupD 2 (gConsD (gN 4) (gConsD (gN 5) gNilD)))) (sAsg (dOp fDiv (dOp fMulI (dVar 2) (dVar 5)) (dCall sp_common_part [] (dCons (dVar 2) (dCons (dVar 5) dNil)))) (gN 2)))) (sSeq (sAsg (dSortLam true "rising" [2] spl_rising_0 (dCons (dVar 0) dNil)) (gN 6)) (sRet (dIf (tTru (dVar 1)) (dRev true (dVar 6)) (dVar 6)))))))
def sp_rising : DSp := spOf 7 2 b_rising
theorem fn_rising {P : Program} {w : World} {K : PySem.W.Frag} {mg : Str → Option Value} {base : Heap} {f : Addr} {fd : FuncData} (T : Tz K mg) (D : DefD K mg "rising" s_rising f fd [] [("down", V.bl false)]) (sm : ∃ o, base.get? sysModules = some o) (O_common_part : Ok P w K mg base 1 "common_part" ["one", "other"] sp_common_part) (O_need_numbers : Ok P w K mg base 4 "need_numbers" ["numbers"] sp_need_numbers) (O_pair_of : Ok P w K mg base 3 "pair_of" ["number"] sp_pair_of) {tc_rising tP_rising : Addr} (TD_rising : TabD K mg "rising" tc_rising tP_rising) (TB_rising : LamX.TabB base mg tc_rising tP_rising) : FnG P w K mg base 7 f fd ["numbers", "down"] sp_rising :=
  Fn_okDT (k := 6) (b := b_rising) D sc_rising sm TD_rising fun A outer s H E G => (sd_cons (sd_exp (pd_callN G (O_need_numbers.mono (by decide)) (pa_consD (pd_var 0) pa_nilD))) (sd_cons (sd_set 2 G.nd pd_int) (sd_cons (sd_for G (pi_seqD (pd_var 0)) (pg_nameD (i := 3) G.nd) (sd_cons (sd_asg (pd_callN G (O_pair_of.mono (by decide)) (pa_consD (pd_var 3) pa_nilD)) (pg_tupD G.calm (pgs_consD (pg_nameD (i := 4) G.nd) (pgs_consD (pg_nameD (i := 5) G.nd) pgs_nilD)))) (sd_one (sd_set 2 G.nd (pd_fdiv (pd_mulI (pd_var 2) (pd_var 5)) (pd_callN G (O_common_part.mono (by decide)) (pa_consD (pd_var 2) (pa_consD (pd_var 5) pa_nilD)))))))) (sd_cons (sd_set 6 G.nd (pd_sortLam true (k := 4) (G.mono (j := 6) (by decide)) (fl_rising_0 T sm O_pair_of) T.z_sorted (pa_consD (pd_var 0) pa_nilD) TB_rising rfl TD_rising.is rfl (by rfl) rfl)) (sd_one (sd_ret (pd_if (pt_truD (pd_var 1)) (pd_rev true (pd_var 6)) (pd_var 6))))))))
theorem okc_rising_1 {P : Program} {w : World} {K : PySem.W.Frag} {mg : Str → Option Value} {base : Heap} {f : Addr} {fd : FuncData} (T : Tz K mg) (D : DefD K mg "rising" s_rising f fd [] [("down", V.bl false)]) (sm : ∃ o, base.get? sysModules = some o) (O_common_part : Ok P w K mg base 1 "common_part" ["one", "other"] sp_common_part) (O_need_numbers : Ok P w K mg base 4 "need_numbers" ["numbers"] sp_need_numbers) (O_pair_of : Ok P w K mg base 3 "pair_of" ["number"] sp_pair_of) {tc_rising tP_rising : Addr} (TD_rising : TabD K mg "rising" tc_rising tP_rising) (TB_rising : LamX.TabB base mg tc_rising tP_rising) : OkC P w K mg base 7 "rising" 1 [] [0, 1] [.bl false] sp_rising := okC_k D (fn_rising  T D sm O_common_part O_need_numbers O_pair_of TD_rising TB_rising) [("down", V.bl false)] (by simp) (fun q hq => by rw [List.mem_singleton.mp hq]; simp) (fun _ _ => .cons (.bl _) (.nil)) (fun _ _ _ _ _ _ us mv ws hl hm hk => match us, mv, ws, hl, hm, hk with | [_], [_], [], _, _, _ => ⟨_, _, _, _, _, _, rfl, rfl, rfl⟩)
theorem okc_rising_0_down_numbers {P : Program} {w : World} {K : PySem.W.Frag} {mg : Str → Option Value} {base : Heap} {f : Addr} {fd : FuncData} (T : Tz K mg) (D : DefD K mg "rising" s_rising f fd [] [("down", V.bl false)]) (sm : ∃ o, base.get? sysModules = some o) (O_common_part : Ok P w K mg base 1 "common_part" ["one", "other"] sp_common_part) (O_need_numbers : Ok P w K mg base 4 "need_numbers" ["numbers"] sp_need_numbers) (O_pair_of : Ok P w K mg base 3 "pair_of" ["number"] sp_pair_of) {tc_rising tP_rising : Addr} (TD_rising : TabD K mg "rising" tc_rising tP_rising) (TB_rising : LamX.TabB base mg tc_rising tP_rising) : OkC P w K mg base 7 "rising" 0 ["down", "numbers"] [1, 0] [] sp_rising := okC_k D (fn_rising  T D sm O_common_part O_need_numbers O_pair_of TD_rising TB_rising) [] (by simp) (fun q hq => absurd hq List.not_mem_nil) (fun _ _ => .nil) (fun _ _ _ _ _ _ us mv ws hl hm hk => match us, mv, ws, hl, hm, hk with | [], [], [_, _], _, _, _ => rfl)
theorem okc_rising_1_down {P : Program} {w : World} {K : PySem.W.Frag} {mg : Str → Option Value} {base : Heap} {f : Addr} {fd : FuncData} (T : Tz K mg) (D : DefD K mg "rising" s_rising f fd [] [("down", V.bl false)]) (sm : ∃ o, base.get? sysModules = some o) (O_common_part : Ok P w K mg base 1 "common_part" ["one", "other"] sp_common_part) (O_need_numbers : Ok P w K mg base 4 "need_numbers" ["numbers"] sp_need_numbers) (O_pair_of : Ok P w K mg base 3 "pair_of" ["number"] sp_pair_of) {tc_rising tP_rising : Addr} (TD_rising : TabD K mg "rising" tc_rising tP_rising) (TB_rising : LamX.TabB base mg tc_rising tP_rising) : OkC P w K mg base 7 "rising" 1 ["down"] [0, 1] [] sp_rising := okC_k D (fn_rising  T D sm O_common_part O_need_numbers O_pair_of TD_rising TB_rising) [] (by simp) (fun q hq => absurd hq List.not_mem_nil) (fun _ _ => .nil) (fun _ _ _ _ _ _ us mv ws hl hm hk => match us, mv, ws, hl, hm, hk with | [_], [], [_], _, _, _ => rfl)
/-! total -/
abbrev s_total : Stmt := topS 16
theorem sc_total : FnScope ["numbers", "start", "found", "number"] ["numbers", "start"] (defScope s_total) := ⟨rfl, rfl, rfl, by decide +kernel, rfl, by decide +kernel, by decide +kernel⟩
def b_total : DS := (sSeq (sExp (dCall sp_need_numbers [] (dCons (dVar 0) dNil))) (sSeq (sAsg (dCall sp_plus [] (dCons (dVar 1) (dCons (dC (.int 0)) dNil))) (gN 2)) (sSeq (sFor (iSeq (dVar 0)) (gN 3) (sAsg (dCall sp_plus [] (dCons (dVar 2) (dCons (dVar 3) dNil))) (gN 2))) (sRet (dVar 2)))))
def sp_total : DSp := spOf 4 2 b_total
theorem fn_total {P : Program} {w : World} {K : PySem.W.Frag} {mg : Str → Option Value} {base : Heap} {f : Addr} {fd : FuncData} (T : Tz K mg) (D : DefD K mg "total" s_total f fd [] [("start", V.int (0))]) (sm : ∃ o, base.get? sysModules = some o) (O_need_numbers : Ok P w K mg base 4 "need_numbers" ["numbers"] sp_need_numbers) (O_plus : Ok P w K mg base 4 "plus" ["one", "other"] sp_plus) : FnG P w K mg base 5 f fd ["numbers", "start"] sp_total :=
  Fn_okD (k := 4) (b := b_total) D.F sc_total sm fun cdv A outer s H E G => (sd_cons (sd_exp (pd_callN G (O_need_numbers.mono (by decide)) (pa_consD (pd_var 0) pa_nilD))) (sd_cons (sd_set 2 G.nd (pd_callN G (O_plus.mono (by decide)) (pa_consD (pd_var 1) (pa_consD pd_int pa_nilD)))) (sd_cons (sd_for G (pi_seqD (pd_var 0)) (pg_nameD (i := 3) G.nd) (sd_one (sd_set 2 G.nd (pd_callN G (O_plus.mono (by decide)) (pa_consD (pd_var 2) (pa_consD (pd_var 3) pa_nilD)))))) (sd_one (sd_ret (pd_var 2))))))
theorem okc_total_1 {P : Program} {w : World} {K : PySem.W.Frag} {mg : Str → Option Value} {base : Heap} {f : Addr} {fd : FuncData} (T : Tz K mg) (D : DefD K mg "total" s_total f fd [] [("start", V.int (0))]) (sm : ∃ o, base.get? sysModules = some o) (O_need_numbers : Ok P w K mg base 4 "need_numbers" ["numbers"] sp_need_numbers) (O_plus : Ok P w K mg base 4 "plus" ["one", "other"] sp_plus) : OkC P w K mg base 5 "total" 1 [] [0, 1] [.int (0)] sp_total := okC_k D (fn_total  T D sm O_need_numbers O_plus) [("start", V.int (0))] (by simp) (fun q hq => by rw [List.mem_singleton.mp hq]; simp) (fun _ _ => .cons (.int _) (.nil)) (fun _ _ _ _ _ _ us mv ws hl hm hk => match us, mv, ws, hl, hm, hk with | [_], [_], [], _, _, _ => ⟨_, _, _, _, _, _, rfl, rfl, rfl⟩)
theorem okc_total_0_start_numbers {P : Program} {w : World} {K : PySem.W.Frag} {mg : Str → Option Value} {base : Heap} {f : Addr} {fd : FuncData} (T : Tz K mg) (D : DefD K mg "total" s_total f fd [] [("start", V.int (0))]) (sm : ∃ o, base.get? sysModules = some o) (O_need_numbers : Ok P w K mg base 4 "need_numbers" ["numbers"] sp_need_numbers) (O_plus : Ok P w K mg base 4 "plus" ["one", "other"] sp_plus) : OkC P w K mg base 5 "total" 0 ["start", "numbers"] [1, 0] [] sp_total := okC_k D (fn_total  T D sm O_need_numbers O_plus) [] (by simp) (fun q hq => absurd hq List.not_mem_nil) (fun _ _ => .nil) (fun _ _ _ _ _ _ us mv ws hl hm hk => match us, mv, ws, hl, hm, hk with | [], [], [_, _], _, _, _ => rfl)
theorem okc_total_1_start {P : Program} {w : World} {K : PySem.W.Frag} {mg : Str → Option Value} {base : Heap} {f : Addr} {fd : FuncData} (T : Tz K mg) (D : DefD K mg "total" s_total f fd [] [("start", V.int (0))]) (sm : ∃ o, base.get? sysModules = some o) (O_need_numbers : Ok P w K mg base 4 "need_numbers" ["numbers"] sp_need_numbers) (O_plus : Ok P w K mg base 4 "plus" ["one", "other"] sp_plus) : OkC P w K mg base 5 "total" 1 ["start"] [0, 1] [] sp_total := okC_k D (fn_total  T D sm O_need_numbers O_plus) [] (by simp) (fun q hq => absurd hq List.not_mem_nil) (fun _ _ => .nil) (fun _ _ _ _ _ _ us mv ws hl hm hk => match us, mv, ws, hl, hm, hk with | [_], [], [_], _, _, _ => rfl)
/-! _law_cell -/
abbrev s__law_cell : Stmt := topS 18
theorem sc__law_cell : FnScope ["_law_script", "_law_k"] ["_law_script", "_law_k"] (defScope s__law_cell) := ⟨rfl, rfl, rfl, by decide +kernel, rfl, by decide +kernel, by decide +kernel⟩
def b__law_cell : DS := (sSeq (sIf (tBl (dOp fLtS (dVar 1) (dB fLen (dCons (dVar 0) dNil)))) (sRet (dOp fIx (dVar 0) (dVar 1))) sNil) (sRet (dOp (fAdd false) (dOp fMulI (dC (.int 67867979)) (dVar 1)) (dC (.int 61)))))
def sp__law_cell : DSp := spOf 2 2 b__law_cell
theorem fn__law_cell {P : Program} {w : World} {K : PySem.W.Frag} {mg : Str → Option Value} {base : Heap} {f : Addr} {fd : FuncData} (T : Tz K mg) (D : DefAt K mg "_law_cell" s__law_cell f fd) (sm : ∃ o, base.get? sysModules = some o)  : FnG P w K mg base 1 f fd ["_law_script", "_law_k"] sp__law_cell :=
  Fn_ok (k := 0) (b := b__law_cell) D.F sc__law_cell sm fun cdv A outer s H E G => (sd_cons (sd_if (pt_lt (pd_var 1) (pd_callB call_len sim_len T.z_len (pa_consD (pd_var 0) pa_nilD))) (sd_one (sd_ret (pd_ix (pd_var 0) (pd_var 1)))) sd_nil) (sd_one (sd_ret (pd_add false (pd_mulI pd_int (pd_var 1)) pd_int))))
theorem ok__law_cell {P : Program} {w : World} {K : PySem.W.Frag} {mg : Str → Option Value} {base : Heap} {f : Addr} {fd : FuncData} (T : Tz K mg) (D : DefAt K mg "_law_cell" s__law_cell f fd) (sm : ∃ o, base.get? sysModules = some o)  : Ok P w K mg base 1 "_law_cell" ["_law_script", "_law_k"] sp__law_cell := ok_mk D (fn__law_cell T D sm ) (fun _ _ _ _ _ _ us hl => match us, hl with | [_, _], _ => rfl)
/-! _law_box -/
abbrev s__law_box : Stmt := topS 19
theorem sc__law_box : FnScope ["_law_cell_here"] ["_law_cell_here"] (defScope s__law_box) := ⟨rfl, rfl, rfl, by decide +kernel, rfl, by decide +kernel, by decide +kernel⟩
def b__law_box : DS := (sRet (dLst true (dCons (dB fMax2 (dCons (dC (.int 0)) (dCons (dOp fSub (dVar 0) (dOp fPow (dC (.int 10)) (dC (.int 18)))) dNil))) (dCons (dOp fMod (dVar 0) (dC (.int 2147483629))) (dCons (dC (.int 0)) dNil)))))
def sp__law_box : DSp := spOf 1 1 b__law_box
theorem fn__law_box {P : Program} {w : World} {K : PySem.W.Frag} {mg : Str → Option Value} {base : Heap} {f : Addr} {fd : FuncData} (T : Tz K mg) (D : DefAt K mg "_law_box" s__law_box f fd) (sm : ∃ o, base.get? sysModules = some o)  : FnG P w K mg base 1 f fd ["_law_cell_here"] sp__law_box :=
  Fn_ok (k := 0) (b := b__law_box) D.F sc__law_box sm fun cdv A outer s H E G => (sd_one (sd_ret (pd_lst true (pa_consD (pd_callB (call_max2 G.calm) sim_max2 T.z_max (pa_consD pd_int (pa_consD (pd_sub (pd_var 0) (pd_pow pd_int pd_int)) pa_nilD))) (pa_consD (pd_mod (pd_var 0) pd_int) (pa_consD pd_int pa_nilD))))))
theorem ok__law_box {P : Program} {w : World} {K : PySem.W.Frag} {mg : Str → Option Value} {base : Heap} {f : Addr} {fd : FuncData} (T : Tz K mg) (D : DefAt K mg "_law_box" s__law_box f fd) (sm : ∃ o, base.get? sysModules = some o)  : Ok P w K mg base 1 "_law_box" ["_law_cell_here"] sp__law_box := ok_mk D (fn__law_box T D sm ) (fun _ _ _ _ _ _ us hl => match us, hl with | [_], _ => rfl)
/-! _law_take -/
abbrev s__law_take : Stmt := topS 20
theorem sc__law_take : FnScope ["_law_box_here", "_law_many", "_law_digit", "_law_number_here"] ["_law_box_here", "_law_many"] (defScope s__law_take) := ⟨rfl, rfl, rfl, by decide +kernel, rfl, by decide +kernel, by decide +kernel⟩
def b__law_take : DS := (sSeq (sIf (tBl (dOp fGtS (dOp fIx (dVar 0) (dC (.int 0))) (dC (.int 0)))) (sSeq (sAsg (dOp fMod (dOp fIx (dVar 0) (dC (.int 0))) (dVar 1)) (gN 2)) (sSeq (sAsg (dOp fDiv (dOp fIx (dVar 0) (dC (.int 0))) (dVar 1)) (gSubD (dVar 0) (dC (.int 0)) fSet)) (sRet (dVar 2)))) sNil) (sSeq (sAsg (dOp (fAdd false) (dOp fIx (dVar 0) (dC (.int 2))) (dC (.int 1))) (gSubD (dVar 0) (dC (.int 2)) fSet)) (sSeq (sAsg (dOp fMod (dOp fPow (dOp (fAdd false) (dOp (fAdd false) (dOp fIx (dVar 0) (dC (.int 1))) (dOp fMulI (dC (.int 7069)) (dOp fIx (dVar 0) (dC (.int 2))))) (dC (.int 59))) (dC (.int 5))) (dC (.int 2147483647))) (gN 3)) (sSeq (sAsg (dOp fMod (dOp fPow (dOp (fAdd false) (dVar 3) (dOp fMulI (dC (.int 92817)) (dOp fIx (dVar 0) (dC (.int 2))))) (dC (.int 3))) (dC (.int 2147483587))) (gN 3)) (sRet (dOp fMod (dOp fDiv (dVar 3) (dC (.int 16))) (dVar 1)))))))
def sp__law_take : DSp := spOf 4 2 b__law_take
theorem fn__law_take {P : Program} {w : World} {K : PySem.W.Frag} {mg : Str → Option Value} {base : Heap} {f : Addr} {fd : FuncData} (T : Tz K mg) (D : DefAt K mg "_law_take" s__law_take f fd) (sm : ∃ o, base.get? sysModules = some o)  : FnG P w K mg base 1 f fd ["_law_box_here", "_law_many"] sp__law_take :=
  Fn_ok (k := 0) (b := b__law_take) D.F sc__law_take sm fun cdv A outer s H E G => (sd_cons (sd_if (pt_gt (pd_ix (pd_var 0) pd_int) pd_int) (sd_cons (sd_set 2 G.nd (pd_mod (pd_ix (pd_var 0) pd_int) (pd_var 1))) (sd_cons (sd_asg (pd_fdiv (pd_ix (pd_var 0) pd_int) (pd_var 1)) (pg_subD (pd_var 0) pd_int)) (sd_one (sd_ret (pd_var 2))))) sd_nil) (sd_cons (sd_asg (pd_add false (pd_ix (pd_var 0) pd_int) pd_int) (pg_subD (pd_var 0) pd_int)) (sd_cons (sd_set 3 G.nd (pd_mod (pd_pow (pd_add false (pd_add false (pd_ix (pd_var 0) pd_int) (pd_mulI pd_int (pd_ix (pd_var 0) pd_int))) pd_int) pd_int) pd_int)) (sd_cons (sd_set 3 G.nd (pd_mod (pd_pow (pd_add false (pd_var 3) (pd_mulI pd_int (pd_ix (pd_var 0) pd_int))) pd_int) pd_int)) (sd_one (sd_ret (pd_mod (pd_fdiv (pd_var 3) pd_int) (pd_var 1))))))))
theorem ok__law_take {P : Program} {w : World} {K : PySem.W.Frag} {mg : Str → Option Value} {base : Heap} {f : Addr} {fd : FuncData} (T : Tz K mg) (D : DefAt K mg "_law_take" s__law_take f fd) (sm : ∃ o, base.get? sysModules = some o)  : Ok P w K mg base 1 "_law_take" ["_law_box_here", "_law_many"] sp__law_take := ok_mk D (fn__law_take T D sm ) (fun _ _ _ _ _ _ us hl => match us, hl with | [_, _], _ => rfl)
/-! _law_far -/
abbrev s__law_far : Stmt := topS 21
theorem sc__law_far : FnScope ["_law_box_here", "_law_number_here", "_law_k"] ["_law_box_here"] (defScope s__law_far) := ⟨rfl, rfl, rfl, by decide +kernel, rfl, by decide +kernel, by decide +kernel⟩
def b__law_far : DS := (sSeq (sAsg (dC (.int 0)) (gN 1)) (sSeq (sFor (iRange1 (dCons (dOp (fAdd false) (dC (.int 1)) (dCall sp__law_take [] (dCons (dVar 0) (dCons (dC (.int 20)) dNil)))) dNil)) (gN 2) (sAsg (dOp (fAdd false) (dOp fMulI (dC (.int 1000)) (dVar 1)) (dCall sp__law_take [] (dCons (dVar 0) (dCons (dC (.int 1000)) dNil)))) (gN 1))) (sRet (dOp fIx (dLst false (dCons (dVar 1) (dCons (dOp fSub (dC (.int 0)) (dVar 1)) (dCons (dOp fSub (dOp fMod (dVar 1) (dC (.int 1000))) (dC (.int 500))) dNil)))) (dCall sp__law_take [] (dCons (dVar 0) (dCons (dC (.int 3)) dNil)))))))
def sp__law_far : DSp := spOf 3 1 b__law_far
theorem fn__law_far {P : Program} {w : World} {K : PySem.W.Frag} {mg : Str → Option Value} {base : Heap} {f : Addr} {fd : FuncData} (T : Tz K mg) (D : DefAt K mg "_law_far" s__law_far f fd) (sm : ∃ o, base.get? sysModules = some o) (O__law_take : Ok P w K mg base 1 "_law_take" ["_law_box_here", "_law_many"] sp__law_take) : FnG P w K mg base 2 f fd ["_law_box_here"] sp__law_far :=
  Fn_ok (k := 1) (b := b__law_far) D.F sc__law_far sm fun cdv A outer s H E G => (sd_cons (sd_set 1 G.nd pd_int) (sd_cons (sd_for G (pi_range1D T.z_range (pa_consD (pd_add false pd_int (pd_callN G (O__law_take.mono (by decide)) (pa_consD (pd_var 0) (pa_consD pd_int pa_nilD)))) pa_nilD)) (pg_nameD (i := 2) G.nd) (sd_one (sd_set 1 G.nd (pd_add false (pd_mulI pd_int (pd_var 1)) (pd_callN G (O__law_take.mono (by decide)) (pa_consD (pd_var 0) (pa_consD pd_int pa_nilD))))))) (sd_one (sd_ret (pd_ix (pd_lst false (pa_consD (pd_var 1) (pa_consD (pd_sub pd_int (pd_var 1)) (pa_consD (pd_sub (pd_mod (pd_var 1) pd_int) pd_int) pa_nilD)))) (pd_callN G (O__law_take.mono (by decide)) (pa_consD (pd_var 0) (pa_consD pd_int pa_nilD))))))))
theorem ok__law_far {P : Program} {w : World} {K : PySem.W.Frag} {mg : Str → Option Value} {base : Heap} {f : Addr} {fd : FuncData} (T : Tz K mg) (D : DefAt K mg "_law_far" s__law_far f fd) (sm : ∃ o, base.get? sysModules = some o) (O__law_take : Ok P w K mg base 1 "_law_take" ["_law_box_here", "_law_many"] sp__law_take) : Ok P w K mg base 2 "_law_far" ["_law_box_here"] sp__law_far := ok_mk D (fn__law_far T D sm O__law_take) (fun _ _ _ _ _ _ us hl => match us, hl with | [_], _ => rfl)
/-! _law_number -/
abbrev s__law_number : Stmt := topS 22
theorem sc__law_number : FnScope ["_law_upper", "_law_lower", "_law_left", "_law_right"] ["_law_upper", "_law_lower"] (defScope s__law_number) := ⟨rfl, rfl, rfl, by decide +kernel, rfl, by decide +kernel, by decide +kernel⟩
def b__law_number : DS := (sSeq (sPar 2 3 (dCons (dB fAbs (dCons (dVar 0) dNil)) (dCons (dB fAbs (dCons (dVar 1) dNil)) dNil))) (sSeq (sWhile (tBl (dOp fNe (dVar 3) (dC (.int 0)))) (sPar 2 3 (dCons (dVar 3) (dCons (dOp fMod (dVar 2) (dVar 3)) dNil)))) (sSeq (sIf (tBl (dOp fLtS (dVar 1) (dC (.int 0)))) (sAsg (dOp fSub (dC (.int 0)) (dVar 2)) (gN 2)) sNil) (sRet (dIf (tBl (dOp fEq (dOp fDiv (dVar 1) (dVar 2)) (dC (.int 1)))) (dOp fDiv (dVar 0) (dVar 2)) (dTup (dCons (dOp fDiv (dVar 0) (dVar 2)) (dCons (dOp fDiv (dVar 1) (dVar 2)) dNil))))))))
def sp__law_number : DSp := spOf 4 2 b__law_number
theorem fn__law_number {P : Program} {w : World} {K : PySem.W.Frag} {mg : Str → Option Value} {base : Heap} {f : Addr} {fd : FuncData} (T : Tz K mg) (D : DefAt K mg "_law_number" s__law_number f fd) (sm : ∃ o, base.get? sysModules = some o)  : FnG P w K mg base 1 f fd ["_law_upper", "_law_lower"] sp__law_number :=
  Fn_ok (k := 0) (b := b__law_number) D.F sc__law_number sm fun cdv A outer s H E G => (sd_cons (sd_par 2 3 (fun _ h => ps_par G.calm G.nd rfl rfl (by decide) rfl rfl h (by rfl)) (pa_consD (pd_callB call_abs sim_abs T.z_abs (pa_consD (pd_var 0) pa_nilD)) (pa_consD (pd_callB call_abs sim_abs T.z_abs (pa_consD (pd_var 1) pa_nilD)) pa_nilD))) (sd_cons (sd_while G (pt_ne G (pd_var 3) pd_int) (sd_one (sd_par 2 3 (fun _ h => ps_par G.calm G.nd rfl rfl (by decide) rfl rfl h (by rfl)) (pa_consD (pd_var 3) (pa_consD (pd_mod (pd_var 2) (pd_var 3)) pa_nilD))))) (sd_cons (sd_if (pt_lt (pd_var 1) pd_int) (sd_one (sd_set 2 G.nd (pd_sub pd_int (pd_var 2)))) sd_nil) (sd_one (sd_ret (pd_if (pt_eq G (pd_fdiv (pd_var 1) (pd_var 2)) pd_int) (pd_fdiv (pd_var 0) (pd_var 2)) (pd_tup (pa_consD (pd_fdiv (pd_var 0) (pd_var 2)) (pa_consD (pd_fdiv (pd_var 1) (pd_var 2)) pa_nilD)))))))))
theorem ok__law_number {P : Program} {w : World} {K : PySem.W.Frag} {mg : Str → Option Value} {base : Heap} {f : Addr} {fd : FuncData} (T : Tz K mg) (D : DefAt K mg "_law_number" s__law_number f fd) (sm : ∃ o, base.get? sysModules = some o)  : Ok P w K mg base 1 "_law_number" ["_law_upper", "_law_lower"] sp__law_number := ok_mk D (fn__law_number T D sm ) (fun _ _ _ _ _ _ us hl => match us, hl with | [_, _], _ => rfl)
/-! _law_pair -/
abbrev s__law_pair : Stmt := topS 23
theorem sc__law_pair : FnScope ["_law_number_here"] ["_law_number_here"] (defScope s__law_pair) := ⟨rfl, rfl, rfl, by decide +kernel, rfl, by decide +kernel, by decide +kernel⟩
def b__law_pair : DS := (sRet (dIf (tTru (dB (fIsi kt) (dCons (dVar 0) (dCons (dC (.ty "tuple")) dNil)))) (dVar 0) (dTup (dCons (dVar 0) (dCons (dC (.int 1)) dNil)))))
def sp__law_pair : DSp := spOf 1 1 b__law_pair
theorem fn__law_pair {P : Program} {w : World} {K : PySem.W.Frag} {mg : Str → Option Value} {base : Heap} {f : Addr} {fd : FuncData} (T : Tz K mg) (D : DefAt K mg "_law_pair" s__law_pair f fd) (sm : ∃ o, base.get? sysModules = some o)  : FnG P w K mg base 1 f fd ["_law_number_here"] sp__law_pair :=
  Fn_ok (k := 0) (b := b__law_pair) D.F sc__law_pair sm fun cdv A outer s H E G => (sd_one (sd_ret (pd_if (pt_truD (pd_callB (call_isiD T.kit) sim_isi T.z_isinstance (pa_consD (pd_var 0) (pa_consD (pd_tyName T.z_tuple) pa_nilD)))) (pd_var 0) (pd_tup (pa_consD (pd_var 0) (pa_consD pd_int pa_nilD))))))
theorem ok__law_pair {P : Program} {w : World} {K : PySem.W.Frag} {mg : Str → Option Value} {base : Heap} {f : Addr} {fd : FuncData} (T : Tz K mg) (D : DefAt K mg "_law_pair" s__law_pair f fd) (sm : ∃ o, base.get? sysModules = some o)  : Ok P w K mg base 1 "_law_pair" ["_law_number_here"] sp__law_pair := ok_mk D (fn__law_pair T D sm ) (fun _ _ _ _ _ _ us hl => match us, hl with | [_], _ => rfl)
/-! _law_is -/
abbrev s__law_is : Stmt := topS 24
theorem sc__law_is : FnScope ["_law_found", "_law_due"] ["_law_found", "_law_due"] (defScope s__law_is) := ⟨rfl, rfl, rfl, by decide +kernel, rfl, by decide +kernel, by decide +kernel⟩
def b__law_is (r : DSp) : DS := (sSeq (sIf (tTru (dB (fIsi kt) (dCons (dVar 1) (dCons (dC (.ty "tuple")) dNil)))) (sRet (dAnd (dB (fIsi kt) (dCons (dVar 0) (dCons (dC (.ty "tuple")) dNil))) (dAnd (dOp fEq (dVar 0) (dVar 1)) (dAnd (dCall r [] (dCons (dOp fIx (dVar 0) (dC (.int 0))) (dCons (dOp fIx (dVar 1) (dC (.int 0))) dNil))) (dCall r [] (dCons (dOp fIx (dVar 0) (dC (.int 1))) (dCons (dOp fIx (dVar 1) (dC (.int 1))) dNil))))))) sNil) (sRet (dAnd (dB (fIsi kt) (dCons (dVar 0) (dCons (dC (.ty "int")) dNil))) (dAnd (dNot (dB (fIsi kt) (dCons (dVar 0) (dCons (dC (.ty "bool")) dNil)))) (dOp fEq (dVar 0) (dVar 1))))))
def sp__law_is : Nat → DSp
  | 0 => fun _ _ _ _ => False
  | n + 1 => spOf 2 2 (b__law_is (sp__law_is n))
theorem fn__law_is {P : Program} {w : World} {K : PySem.W.Frag} {mg : Str → Option Value} {base : Heap} {f : Addr} {fd : FuncData} (T : Tz K mg) (D : DefAt K mg "_law_is" s__law_is f fd) (sm : ∃ o, base.get? sysModules = some o)  : ∀ n : Nat, FnG P w K mg base (0 + n) f fd ["_law_found", "_law_due"] (sp__law_is n)
  | 0 => fnG_no
  | n + 1 => by
    have O__law_is : Ok P w K mg base (0 + n) "_law_is" ["_law_found", "_law_due"] (sp__law_is n) := ok_mk D (fn__law_is T D sm  n) (fun _ _ _ _ _ _ us hl => match us, hl with | [_, _], _ => rfl)
    exact Fn_ok (k := 0 + n) (b := b__law_is (sp__law_is n)) D.F sc__law_is sm fun cdv A outer s H E G => (sd_cons (sd_if (pt_truD (pd_callB (call_isiD T.kit) sim_isi T.z_isinstance (pa_consD (pd_var 1) (pa_consD (pd_tyName T.z_tuple) pa_nilD)))) (sd_one (sd_ret (pd_and (pd_callB (call_isiD T.kit) sim_isi T.z_isinstance (pa_consD (pd_var 0) (pa_consD (pd_tyName T.z_tuple) pa_nilD))) (pd_and (pd_eq G (pd_var 0) (pd_var 1)) (pd_and (pd_callN G (O__law_is.mono (by omega)) (pa_consD (pd_ix (pd_var 0) pd_int) (pa_consD (pd_ix (pd_var 1) pd_int) pa_nilD))) (pd_one (pd_callN G (O__law_is.mono (by omega)) (pa_consD (pd_ix (pd_var 0) pd_int) (pa_consD (pd_ix (pd_var 1) pd_int) pa_nilD))))))))) sd_nil) (sd_one (sd_ret (pd_and (pd_callB (call_isiD T.kit) sim_isi T.z_isinstance (pa_consD (pd_var 0) (pa_consD (pd_tyName T.z_int) pa_nilD))) (pd_and (pd_not (pd_callB (call_isiD T.kit) sim_isi T.z_isinstance (pa_consD (pd_var 0) (pa_consD (pd_tyName T.z_bool) pa_nilD)))) (pd_one (pd_eq G (pd_var 0) (pd_var 1))))))))
theorem ok__law_is {P : Program} {w : World} {K : PySem.W.Frag} {mg : Str → Option Value} {base : Heap} {f : Addr} {fd : FuncData} (T : Tz K mg) (D : DefAt K mg "_law_is" s__law_is f fd) (sm : ∃ o, base.get? sysModules = some o)  : Ok P w K mg base 2 "_law_is" ["_law_found", "_law_due"] (sp__law_is 2) := ok_mk D (fn__law_is T D sm  2) (fun _ _ _ _ _ _ us hl => match us, hl with | [_, _], _ => rfl)
/-! _law_drawn -/
abbrev s__law_drawn : Stmt := topS 25
theorem sc__law_drawn : FnScope ["_law_box_here", "_law_upper", "_law_lower"] ["_law_box_here"] (defScope s__law_drawn) := ⟨rfl, rfl, rfl, by decide +kernel, rfl, by decide +kernel, by decide +kernel⟩
def b__law_drawn : DS := (sSeq (sAsg (dOp fIx (dLst false (dCons (dOp fSub (dCall sp__law_take [] (dCons (dVar 0) (dCons (dC (.int 41)) dNil))) (dC (.int 20))) (dCons (dCall sp__law_far [] (dCons (dVar 0) dNil)) dNil))) (dCall sp__law_take [] (dCons (dVar 0) (dCons (dC (.int 2)) dNil)))) (gN 1)) (sSeq (sAsg (dOp fIx (dLst false (dCons (dC (.int 1)) (dCons (dC (.int 1)) (dCons (dOp (fAdd false) (dC (.int 1)) (dCall sp__law_take [] (dCons (dVar 0) (dCons (dC (.int 12)) dNil)))) (dCons (dOp (fAdd false) (dC (.int 1)) (dOp fMod (dB fAbs (dCons (dCall sp__law_far [] (dCons (dVar 0) dNil)) dNil)) (dOp fSub (dOp fPow (dC (.int 10)) (dC (.int 60))) (dC (.int 1))))) dNil))))) (dCall sp__law_take [] (dCons (dVar 0) (dCons (dC (.int 4)) dNil)))) (gN 2)) (sRet (dCall sp__law_number [] (dCons (dVar 1) (dCons (dVar 2) dNil))))))
def sp__law_drawn : DSp := spOf 3 1 b__law_drawn
theorem fn__law_drawn {P : Program} {w : World} {K : PySem.W.Frag} {mg : Str → Option Value} {base : Heap} {f : Addr} {fd : FuncData} (T : Tz K mg) (D : DefAt K mg "_law_drawn" s__law_drawn f fd) (sm : ∃ o, base.get? sysModules = some o) (O__law_far : Ok P w K mg base 2 "_law_far" ["_law_box_here"] sp__law_far) (O__law_number : Ok P w K mg base 1 "_law_number" ["_law_upper", "_law_lower"] sp__law_number) (O__law_take : Ok P w K mg base 1 "_law_take" ["_law_box_here", "_law_many"] sp__law_take) : FnG P w K mg base 3 f fd ["_law_box_here"] sp__law_drawn :=
  Fn_ok (k := 2) (b := b__law_drawn) D.F sc__law_drawn sm fun cdv A outer s H E G => (sd_cons (sd_set 1 G.nd (pd_ix (pd_lst false (pa_consD (pd_sub (pd_callN G (O__law_take.mono (by decide)) (pa_consD (pd_var 0) (pa_consD pd_int pa_nilD))) pd_int) (pa_consD (pd_callN G (O__law_far.mono (by decide)) (pa_consD (pd_var 0) pa_nilD)) pa_nilD))) (pd_callN G (O__law_take.mono (by decide)) (pa_consD (pd_var 0) (pa_consD pd_int pa_nilD))))) (sd_cons (sd_set 2 G.nd (pd_ix (pd_lst false (pa_consD pd_int (pa_consD pd_int (pa_consD (pd_add false pd_int (pd_callN G (O__law_take.mono (by decide)) (pa_consD (pd_var 0) (pa_consD pd_int pa_nilD)))) (pa_consD (pd_add false pd_int (pd_mod (pd_callB call_abs sim_abs T.z_abs (pa_consD (pd_callN G (O__law_far.mono (by decide)) (pa_consD (pd_var 0) pa_nilD)) pa_nilD)) (pd_sub (pd_pow pd_int pd_int) pd_int))) pa_nilD))))) (pd_callN G (O__law_take.mono (by decide)) (pa_consD (pd_var 0) (pa_consD pd_int pa_nilD))))) (sd_one (sd_ret (pd_callN G (O__law_number.mono (by decide)) (pa_consD (pd_var 1) (pa_consD (pd_var 2) pa_nilD)))))))
theorem ok__law_drawn {P : Program} {w : World} {K : PySem.W.Frag} {mg : Str → Option Value} {base : Heap} {f : Addr} {fd : FuncData} (T : Tz K mg) (D : DefAt K mg "_law_drawn" s__law_drawn f fd) (sm : ∃ o, base.get? sysModules = some o) (O__law_far : Ok P w K mg base 2 "_law_far" ["_law_box_here"] sp__law_far) (O__law_number : Ok P w K mg base 1 "_law_number" ["_law_upper", "_law_lower"] sp__law_number) (O__law_take : Ok P w K mg base 1 "_law_take" ["_law_box_here", "_law_many"] sp__law_take) : Ok P w K mg base 3 "_law_drawn" ["_law_box_here"] sp__law_drawn := ok_mk D (fn__law_drawn T D sm O__law_far O__law_number O__law_take) (fun _ _ _ _ _ _ us hl => match us, hl with | [_], _ => rfl)
/-! _law_some -/
abbrev s__law_some : Stmt := topS 26
theorem sc__law_some : FnScope ["_law_box_here", "_law_found", "_law_k", "_law_turn", "_law_number_here", "_law_a", "_law_b", "_law_near"] ["_law_box_here"] (defScope s__law_some) := ⟨rfl, rfl, rfl, by decide +kernel, rfl, by decide +kernel, by decide +kernel⟩
def b__law_some : DS := (sSeq (sAsg (dLst true dNil) (gN 1)) (sSeq (sFor (iRange1 (dCons (dCall sp__law_take [] (dCons (dVar 0) (dCons (dC (.int 11)) dNil))) dNil)) (gN 2) (sSeq (sAsg (dCall sp__law_take [] (dCons (dVar 0) (dCons (dC (.int 4)) dNil))) (gN 3)) (sSeq (sAsg (dCall sp__law_drawn [] (dCons (dVar 0) dNil)) (gN 4)) (sSeq (sIf (tAndD (tBl (dOp fNe (dVar 1) (dLst true dNil))) (tBl (dOp fEq (dVar 3) (dC (.int 0))))) (sAsg (dOp fIx (dVar 1) (dCall sp__law_take [] (dCons (dVar 0) (dCons (dB fLen (dCons (dVar 1) dNil)) dNil)))) (gN 4)) sNil) (sSeq (sIf (tAndD (tBl (dOp fNe (dVar 1) (dLst true dNil))) (tBl (dOp fEq (dVar 3) (dC (.int 1))))) (sSeq (sAsg (dCall sp__law_pair [] (dCons (dOp fIx (dVar 1) (dCall sp__law_take [] (dCons (dVar 0) (dCons (dB fLen (dCons (dVar 1) dNil)) dNil)))) dNil)) (gTupD 2 (gConsD (gN 5) (gConsD (gN 6) gNilD)))) (sSeq (sAsg (dOp (fAdd false) (dVar 5) (dOp fIx (dLst false (dCons (dC (.int 1)) (dCons (dOp fSub (dC (.int 0)) (dC (.int 1))) dNil))) (dCall sp__law_take [] (dCons (dVar 0) (dCons (dC (.int 2)) dNil))))) (gN 7)) (sAsg (dCall sp__law_number [] (dCons (dIf (tBl (dOp fLtS (dB fAbs (dCons (dVar 7) dNil)) (dOp fPow (dC (.int 10)) (dC (.int 60))))) (dVar 7) (dVar 5)) (dCons (dVar 6) dNil))) (gN 4)))) sNil) (sExp (dBM "list" fAppend (dVar 1) (dCons (dVar 4) dNil)))))))) (sRet (dVar 1))))
def sp__law_some : DSp := spOf 8 1 b__law_some
theorem fn__law_some {P : Program} {w : World} {K : PySem.W.Frag} {mg : Str → Option Value} {base : Heap} {f : Addr} {fd : FuncData} (T : Tz K mg) (D : DefAt K mg "_law_some" s__law_some f fd) (sm : ∃ o, base.get? sysModules = some o) (O__law_drawn : Ok P w K mg base 3 "_law_drawn" ["_law_box_here"] sp__law_drawn) (O__law_number : Ok P w K mg base 1 "_law_number" ["_law_upper", "_law_lower"] sp__law_number) (O__law_pair : Ok P w K mg base 1 "_law_pair" ["_law_number_here"] sp__law_pair) (O__law_take : Ok P w K mg base 1 "_law_take" ["_law_box_here", "_law_many"] sp__law_take) : FnG P w K mg base 4 f fd ["_law_box_here"] sp__law_some :=
  Fn_ok (k := 3) (b := b__law_some) D.F sc__law_some sm fun cdv A outer s H E G => (sd_cons (sd_set 1 G.nd (pd_lst true pa_nilD)) (sd_cons (sd_for G (pi_range1D T.z_range (pa_consD (pd_callN G (O__law_take.mono (by decide)) (pa_consD (pd_var 0) (pa_consD pd_int pa_nilD))) pa_nilD)) (pg_nameD (i := 2) G.nd) (sd_cons (sd_set 3 G.nd (pd_callN G (O__law_take.mono (by decide)) (pa_consD (pd_var 0) (pa_consD pd_int pa_nilD)))) (sd_cons (sd_set 4 G.nd (pd_callN G (O__law_drawn.mono (by decide)) (pa_consD (pd_var 0) pa_nilD))) (sd_cons (sd_if (PW.pt (pw_andD (pt_ne G (pd_var 1) (pd_lst true pa_nilD)) (pw_and1D (pt_eq G (pd_var 3) pd_int)))) (sd_one (sd_set 4 G.nd (pd_ix (pd_var 1) (pd_callN G (O__law_take.mono (by decide)) (pa_consD (pd_var 0) (pa_consD (pd_callB call_len sim_len T.z_len (pa_consD (pd_var 1) pa_nilD)) pa_nilD)))))) sd_nil) (sd_cons (sd_if (PW.pt (pw_andD (pt_ne G (pd_var 1) (pd_lst true pa_nilD)) (pw_and1D (pt_eq G (pd_var 3) pd_int)))) (sd_cons (sd_asg (pd_callN G (O__law_pair.mono (by decide)) (pa_consD (pd_ix (pd_var 1) (pd_callN G (O__law_take.mono (by decide)) (pa_consD (pd_var 0) (pa_consD (pd_callB call_len sim_len T.z_len (pa_consD (pd_var 1) pa_nilD)) pa_nilD)))) pa_nilD)) (pg_tupD G.calm (pgs_consD (pg_nameD (i := 5) G.nd) (pgs_consD (pg_nameD (i := 6) G.nd) pgs_nilD)))) (sd_cons (sd_set 7 G.nd (pd_add false (pd_var 5) (pd_ix (pd_lst false (pa_consD pd_int (pa_consD (pd_sub pd_int pd_int) pa_nilD))) (pd_callN G (O__law_take.mono (by decide)) (pa_consD (pd_var 0) (pa_consD pd_int pa_nilD)))))) (sd_one (sd_set 4 G.nd (pd_callN G (O__law_number.mono (by decide)) (pa_consD (pd_if (pt_lt (pd_callB call_abs sim_abs T.z_abs (pa_consD (pd_var 7) pa_nilD)) (pd_pow pd_int pd_int)) (pd_var 7) (pd_var 5)) (pa_consD (pd_var 6) pa_nilD))))))) sd_nil) (sd_one (sd_exp (pd_append (pd_var 1) (pa_consD (pd_var 4) pa_nilD))))))))) (sd_one (sd_ret (pd_var 1)))))
theorem ok__law_some {P : Program} {w : World} {K : PySem.W.Frag} {mg : Str → Option Value} {base : Heap} {f : Addr} {fd : FuncData} (T : Tz K mg) (D : DefAt K mg "_law_some" s__law_some f fd) (sm : ∃ o, base.get? sysModules = some o) (O__law_drawn : Ok P w K mg base 3 "_law_drawn" ["_law_box_here"] sp__law_drawn) (O__law_number : Ok P w K mg base 1 "_law_number" ["_law_upper", "_law_lower"] sp__law_number) (O__law_pair : Ok P w K mg base 1 "_law_pair" ["_law_number_here"] sp__law_pair) (O__law_take : Ok P w K mg base 1 "_law_take" ["_law_box_here", "_law_many"] sp__law_take) : Ok P w K mg base 4 "_law_some" ["_law_box_here"] sp__law_some := ok_mk D (fn__law_some T D sm O__law_drawn O__law_number O__law_pair O__law_take) (fun _ _ _ _ _ _ us hl => match us, hl with | [_], _ => rfl)
/-! _law_put -/
abbrev s__law_put : Stmt := topS 27
theorem sc__law_put : FnScope ["_law_some_here", "_law_found", "_law_number_here", "_law_a", "_law_b", "_law_ahead", "_law_one"] ["_law_some_here"] (defScope s__law_put) := ⟨rfl, rfl, rfl, by decide +kernel, rfl, by decide +kernel, by decide +kernel⟩
def b__law_put : DS := (sSeq (sAsg (dLst false dNil) (gN 1)) (sSeq (sFor (iSeq (dVar 0)) (gN 2) (sSeq (sAsg (dCall sp__law_pair [] (dCons (dVar 2) dNil)) (gTupD 2 (gConsD (gN 3) (gConsD (gN 4) gNilD)))) (sSeq (sAsg (dLc false (iSeq (dVar 1)) (.inl 6) (tBl (dOp fLeS (dOp fMulI (dOp fIx (dCall sp__law_pair [] (dCons (dVar 6) dNil)) (dC (.int 0))) (dVar 4)) (dOp fMulI (dVar 3) (dOp fIx (dCall sp__law_pair [] (dCons (dVar 6) dNil)) (dC (.int 1)))))) (dVar 6) [6]) (gN 5)) (sAsg (dOp (fAdd false) (dOp (fAdd false) (dVar 5) (dLst false (dCons (dVar 2) dNil))) (dSl false (dVar 1) (dPart (dB fLen (dCons (dVar 5) dNil))) dNo)) (gN 1))))) (sRet (dVar 1))))
def sp__law_put : DSp := spOf 7 1 b__law_put
theorem fn__law_put {P : Program} {w : World} {K : PySem.W.Frag} {mg : Str → Option Value} {base : Heap} {f : Addr} {fd : FuncData} (T : Tz K mg) (D : DefAt K mg "_law_put" s__law_put f fd) (sm : ∃ o, base.get? sysModules = some o) (O__law_pair : Ok P w K mg base 1 "_law_pair" ["_law_number_here"] sp__law_pair) : FnG P w K mg base 2 f fd ["_law_some_here"] sp__law_put :=
  Fn_ok (k := 1) (b := b__law_put) D.F sc__law_put sm fun cdv A outer s H E G => (sd_cons (sd_set 1 G.nd (pd_lst false pa_nilD)) (sd_cons (sd_for G (pi_seqD (pd_var 0)) (pg_nameD (i := 2) G.nd) (sd_cons (sd_asg (pd_callN G (O__law_pair.mono (by decide)) (pa_consD (pd_var 2) pa_nilD)) (pg_tupD G.calm (pgs_consD (pg_nameD (i := 3) G.nd) (pgs_consD (pg_nameD (i := 4) G.nd) pgs_nilD)))) (sd_cons (sd_setLc 5 false [("_law_one", 6)] (.inl 6) G (pi_seqD (pd_var 1)) (fun _ _ _ _ _ => pg_name G.nd rfl (by first | exact Or.inl rfl | exact Or.inr rfl)) (fun _ _ _ _ _ => pts_oneD (pt_le (pd_mulI (pd_ix (pd_callN G.blk (O__law_pair.mono (by decide)) (pa_consD (pd_var 6) pa_nilD)) pd_int) (pd_var 4)) (pd_mulI (pd_var 3) (pd_ix (pd_callN G.blk (O__law_pair.mono (by decide)) (pa_consD (pd_var 6) pa_nilD)) pd_int)))) (fun _ _ _ _ _ => (pd_var 6))) (sd_one (sd_set 1 G.nd (pd_add false (pd_add false (pd_var 5) (pd_lst false (pa_consD (pd_var 2) pa_nilD))) (pd_sl false (pd_var 1) (po_partD (pd_callB call_len sim_len T.z_len (pa_consD (pd_var 5) pa_nilD))) po_noD))))))) (sd_one (sd_ret (pd_var 1)))))
theorem ok__law_put {P : Program} {w : World} {K : PySem.W.Frag} {mg : Str → Option Value} {base : Heap} {f : Addr} {fd : FuncData} (T : Tz K mg) (D : DefAt K mg "_law_put" s__law_put f fd) (sm : ∃ o, base.get? sysModules = some o) (O__law_pair : Ok P w K mg base 1 "_law_pair" ["_law_number_here"] sp__law_pair) : Ok P w K mg base 2 "_law_put" ["_law_some_here"] sp__law_put := ok_mk D (fn__law_put T D sm O__law_pair) (fun _ _ _ _ _ _ us hl => match us, hl with | [_], _ => rfl)
/-! _law_sum -/
abbrev s__law_sum : Stmt := topS 28
theorem sc__law_sum : FnScope ["_law_some_here", "_law_first", "_law_a", "_law_b", "_law_number_here", "_law_c", "_law_d"] ["_law_some_here", "_law_first"] (defScope s__law_sum) := ⟨rfl, rfl, rfl, by decide +kernel, rfl, by decide +kernel, by decide +kernel⟩
def b__law_sum : DS := (sSeq (sAsg (dCall sp__law_pair [] (dCons (dVar 1) dNil)) (gTupD 2 (gConsD (gN 2) (gConsD (gN 3) gNilD)))) (sSeq (sFor (iSeq (dVar 0)) (gN 4) (sSeq (sAsg (dCall sp__law_pair [] (dCons (dVar 4) dNil)) (gTupD 2 (gConsD (gN 5) (gConsD (gN 6) gNilD)))) (sAsg (dCall sp__law_pair [] (dCons (dCall sp__law_number [] (dCons (dOp (fAdd false) (dOp fMulI (dVar 2) (dVar 6)) (dOp fMulI (dVar 5) (dVar 3))) (dCons (dOp fMulI (dVar 3) (dVar 6)) dNil))) dNil)) (gTupD 2 (gConsD (gN 2) (gConsD (gN 3) gNilD)))))) (sRet (dCall sp__law_number [] (dCons (dVar 2) (dCons (dVar 3) dNil))))))
def sp__law_sum : DSp := spOf 7 2 b__law_sum
theorem fn__law_sum {P : Program} {w : World} {K : PySem.W.Frag} {mg : Str → Option Value} {base : Heap} {f : Addr} {fd : FuncData} (T : Tz K mg) (D : DefAt K mg "_law_sum" s__law_sum f fd) (sm : ∃ o, base.get? sysModules = some o) (O__law_number : Ok P w K mg base 1 "_law_number" ["_law_upper", "_law_lower"] sp__law_number) (O__law_pair : Ok P w K mg base 1 "_law_pair" ["_law_number_here"] sp__law_pair) : FnG P w K mg base 2 f fd ["_law_some_here", "_law_first"] sp__law_sum :=
  Fn_ok (k := 1) (b := b__law_sum) D.F sc__law_sum sm fun cdv A outer s H E G => (sd_cons (sd_asg (pd_callN G (O__law_pair.mono (by decide)) (pa_consD (pd_var 1) pa_nilD)) (pg_tupD G.calm (pgs_consD (pg_nameD (i := 2) G.nd) (pgs_consD (pg_nameD (i := 3) G.nd) pgs_nilD)))) (sd_cons (sd_for G (pi_seqD (pd_var 0)) (pg_nameD (i := 4) G.nd) (sd_cons (sd_asg (pd_callN G (O__law_pair.mono (by decide)) (pa_consD (pd_var 4) pa_nilD)) (pg_tupD G.calm (pgs_consD (pg_nameD (i := 5) G.nd) (pgs_consD (pg_nameD (i := 6) G.nd) pgs_nilD)))) (sd_one (sd_asg (pd_callN G (O__law_pair.mono (by decide)) (pa_consD (pd_callN G (O__law_number.mono (by decide)) (pa_consD (pd_add false (pd_mulI (pd_var 2) (pd_var 6)) (pd_mulI (pd_var 5) (pd_var 3))) (pa_consD (pd_mulI (pd_var 3) (pd_var 6)) pa_nilD))) pa_nilD)) (pg_tupD G.calm (pgs_consD (pg_nameD (i := 2) G.nd) (pgs_consD (pg_nameD (i := 3) G.nd) pgs_nilD))))))) (sd_one (sd_ret (pd_callN G (O__law_number.mono (by decide)) (pa_consD (pd_var 2) (pa_consD (pd_var 3) pa_nilD)))))))
theorem ok__law_sum {P : Program} {w : World} {K : PySem.W.Frag} {mg : Str → Option Value} {base : Heap} {f : Addr} {fd : FuncData} (T : Tz K mg) (D : DefAt K mg "_law_sum" s__law_sum f fd) (sm : ∃ o, base.get? sysModules = some o) (O__law_number : Ok P w K mg base 1 "_law_number" ["_law_upper", "_law_lower"] sp__law_number) (O__law_pair : Ok P w K mg base 1 "_law_pair" ["_law_number_here"] sp__law_pair) : Ok P w K mg base 2 "_law_sum" ["_law_some_here", "_law_first"] sp__law_sum := ok_mk D (fn__law_sum T D sm O__law_number O__law_pair) (fun _ _ _ _ _ _ us hl => match us, hl with | [_, _], _ => rfl)
/-! _law_lists_right -/
abbrev s__law_lists_right : Stmt := topS 29
theorem sc__law_lists_right : FnScope ["_law_some_here", "_law_first", "_law_tupled", "_law_handed", "_law_due", "_law_turn", "_law_found", "_law_row", "_law_answers", "_law_dues", "_law_wrong", "_law_one", "_law_other"] ["_law_some_here", "_law_first", "_law_tupled"] (defScope s__law_lists_right) := ⟨rfl, rfl, rfl, by decide +kernel, rfl, by decide +kernel, by decide +kernel⟩
def b__law_lists_right : DS := (sSeq (sAsg (dIf (tTru (dVar 2)) (dTupOf (dVar 0)) (dB (fListOf true) (dCons (dVar 0) dNil))) (gN 3)) (sSeq (sAsg (dCall sp__law_put [] (dCons (dVar 0) dNil)) (gN 4)) (sSeq (sFor (iRange1 (dCons (dC (.int 2)) dNil)) (gN 5) (sSeq (sAsg (dLst false (dCons (dCallC sp_rising 1 0 [0, 1] [.bl false] (dCons (dVar 3) dNil) dNil) (dCons (dCallC sp_rising 0 2 [1, 0] [] dNil (dCons (dC (.bl true)) (dCons (dVar 3) dNil))) (dCons (dCallC sp_rising 1 1 [0, 1] [] (dCons (dVar 3) dNil) (dCons (dC (.bl false)) dNil)) dNil)))) (gN 6)) (sSeq (sIf (tOrD (tBl (dOp fNe (dB fRepr (dCons (dVar 6) dNil)) (dB fRepr (dCons (dLst false (dCons (dVar 4) (dCons (dRev false (dVar 4)) (dCons (dVar 4) dNil)))) dNil)))) (tBl (dOp fNe (dB (fListOf false) (dCons (dVar 3) dNil)) (dVar 0)))) (sRet (dC (.bl false))) sNil) (sFor (iSeq (dVar 6)) (gN 7) (sSeq (sExp (dBM0 "list" fReverse (dVar 7))) (sExp (dBM "list" fAppend (dVar 7) (dCons (dC (.int 7)) dNil)))))))) (sSeq (sAsg (dLst false (dCons (dCallC sp_total 1 0 [0, 1] [.int (0)] (dCons (dVar 3) dNil) dNil) (dCons (dCallC sp_total 0 2 [1, 0] [] dNil (dCons (dVar 1) (dCons (dVar 3) dNil))) (dCons (dCallC sp_total 1 1 [0, 1] [] (dCons (dVar 3) dNil) (dCons (dC (.int 0)) dNil)) dNil)))) (gN 8)) (sSeq (sAsg (dLst false (dCons (dCall sp__law_sum [] (dCons (dVar 0) (dCons (dC (.int 0)) dNil))) (dCons (dCall sp__law_sum [] (dCons (dVar 0) (dCons (dVar 1) dNil))) (dCons (dCall sp__law_sum [] (dCons (dVar 0) (dCons (dC (.int 0)) dNil))) dNil)))) (gN 9)) (sSeq (sIf (tBl (dOp fNe (dB (fListOf false) (dCons (dVar 3) dNil)) (dVar 0))) (sRet (dC (.bl false))) sNil) (sSeq (sAsg (dCallC sp_rising 1 0 [0, 1] [.bl false] (dCons (dVar 3) dNil) dNil) (gN 6)) (sSeq (sIf (tTru (dB (fIsi kt) (dCons (dVar 3) (dCons (dC (.ty "list")) dNil)))) (sExp (dBM0 "list" fClear (dVar 3))) sNil) (sSeq (sAsg (dLc false (iZipD (dCons (dVar 8) (dCons (dVar 9) dNil))) (.inr [11, 12]) (tNotD (tTru (dCall (sp__law_is 2) [] (dCons (dVar 11) (dCons (dVar 12) dNil))))) (dVar 11) [11, 12]) (gN 10)) (sRet (dAnd (dOp fEq (dVar 10) (dLst false dNil)) (dOp fEq (dVar 6) (dVar 4)))))))))))))
def sp__law_lists_right : DSp := spOf 13 3 b__law_lists_right
theorem fn__law_lists_right {P : Program} {w : World} {K : PySem.W.Frag} {mg : Str → Option Value} {base : Heap} {f : Addr} {fd : FuncData} (T : Tz K mg) (D : DefAt K mg "_law_lists_right" s__law_lists_right f fd) (sm : ∃ o, base.get? sysModules = some o) (C_rising_0_down_numbers : OkC P w K mg base 7 "rising" 0 ["down", "numbers"] [1, 0] [] sp_rising) (C_rising_1 : OkC P w K mg base 7 "rising" 1 [] [0, 1] [.bl false] sp_rising) (C_rising_1_down : OkC P w K mg base 7 "rising" 1 ["down"] [0, 1] [] sp_rising) (C_total_0_start_numbers : OkC P w K mg base 5 "total" 0 ["start", "numbers"] [1, 0] [] sp_total) (C_total_1 : OkC P w K mg base 5 "total" 1 [] [0, 1] [.int (0)] sp_total) (C_total_1_start : OkC P w K mg base 5 "total" 1 ["start"] [0, 1] [] sp_total) (O__law_is : Ok P w K mg base 2 "_law_is" ["_law_found", "_law_due"] (sp__law_is 2)) (O__law_put : Ok P w K mg base 2 "_law_put" ["_law_some_here"] sp__law_put) (O__law_sum : Ok P w K mg base 2 "_law_sum" ["_law_some_here", "_law_first"] sp__law_sum) : FnG P w K mg base 8 f fd ["_law_some_here", "_law_first", "_law_tupled"] sp__law_lists_right :=
  Fn_ok (k := 7) (b := b__law_lists_right) D.F sc__law_lists_right sm fun cdv A outer s H E G => (sd_cons (sd_set 3 G.nd (pd_if (pt_truD (pd_var 2)) (pd_tupOf T.z_tuple (pd_var 0)) (pd_callTy call_list_of (sim_listOf true) T.z_list (pa_consD (pd_var 0) pa_nilD)))) (sd_cons (sd_set 4 G.nd (pd_callN G (O__law_put.mono (by decide)) (pa_consD (pd_var 0) pa_nilD))) (sd_cons (sd_for G (pi_range1D T.z_range (pa_consD pd_int pa_nilD)) (pg_nameD (i := 5) G.nd) (sd_cons (sd_set 6 G.nd (pd_lst false (pa_consD (pd_callC G (C_rising_1.mono (by decide)) (pa_consD (pd_var 3) pa_nilD)) (pa_consD (pd_callCK0 G (C_rising_0_down_numbers.mono (by decide)) (pk_consD pd_bl (pk_consD (pd_var 3) pk_nilD))) (pa_consD (pd_callCK G (C_rising_1_down.mono (by decide)) (pa_consD (pd_var 3) pa_nilD) (pk_consD pd_bl pk_nilD)) pa_nilD))))) (sd_cons (sd_if (PW.pt (pw_orD (pt_ne G (pd_callB (call_reprD G) sim_repr T.z_repr (pa_consD (pd_var 6) pa_nilD)) (pd_callB (call_reprD G) sim_repr T.z_repr (pa_consD (pd_lst false (pa_consD (pd_var 4) (pa_consD (pd_rev false (pd_var 4)) (pa_consD (pd_var 4) pa_nilD)))) pa_nilD))) (pw_or1D (pt_ne G (pd_callTy call_list_of (sim_listOf false) T.z_list (pa_consD (pd_var 3) pa_nilD)) (pd_var 0))))) (sd_one (sd_ret pd_bl)) sd_nil) (sd_one (sd_for G (pi_seqD (pd_var 6)) (pg_nameD (i := 7) G.nd) (sd_cons (sd_exp (pd_reverse (pd_var 7))) (sd_one (sd_exp (pd_append (pd_var 7) (pa_consD pd_int pa_nilD)))))))))) (sd_cons (sd_set 8 G.nd (pd_lst false (pa_consD (pd_callC G (C_total_1.mono (by decide)) (pa_consD (pd_var 3) pa_nilD)) (pa_consD (pd_callCK0 G (C_total_0_start_numbers.mono (by decide)) (pk_consD (pd_var 1) (pk_consD (pd_var 3) pk_nilD))) (pa_consD (pd_callCK G (C_total_1_start.mono (by decide)) (pa_consD (pd_var 3) pa_nilD) (pk_consD pd_int pk_nilD)) pa_nilD))))) (sd_cons (sd_set 9 G.nd (pd_lst false (pa_consD (pd_callN G (O__law_sum.mono (by decide)) (pa_consD (pd_var 0) (pa_consD pd_int pa_nilD))) (pa_consD (pd_callN G (O__law_sum.mono (by decide)) (pa_consD (pd_var 0) (pa_consD (pd_var 1) pa_nilD))) (pa_consD (pd_callN G (O__law_sum.mono (by decide)) (pa_consD (pd_var 0) (pa_consD pd_int pa_nilD))) pa_nilD))))) (sd_cons (sd_if (pt_ne G (pd_callTy call_list_of (sim_listOf false) T.z_list (pa_consD (pd_var 3) pa_nilD)) (pd_var 0)) (sd_one (sd_ret pd_bl)) sd_nil) (sd_cons (sd_set 6 G.nd (pd_callC G (C_rising_1.mono (by decide)) (pa_consD (pd_var 3) pa_nilD))) (sd_cons (sd_if (pt_truD (pd_callB (call_isiD T.kit) sim_isi T.z_isinstance (pa_consD (pd_var 3) (pa_consD (pd_tyName T.z_list) pa_nilD)))) (sd_one (sd_exp (pd_clear (pd_var 3)))) sd_nil) (sd_cons (sd_setLc 10 false [("_law_one", 11), ("_law_other", 12)] (.inr [11, 12]) G (pi_zipD T.z_zip (pa_consD (pd_var 8) (pa_consD (pd_var 9) pa_nilD))) (fun _ _ _ _ _ => pg_tup G.calm (pgs_cons (pg_name G.nd rfl (by first | exact Or.inl rfl | exact Or.inr rfl)) (pgs_cons (pg_name G.nd rfl (by first | exact Or.inl rfl | exact Or.inr rfl)) pgs_nil))) (fun _ _ _ _ _ => pts_oneD (pt_notD (pt_truD (pd_callN G.blk (O__law_is.mono (by decide)) (pa_consD (pd_var 11) (pa_consD (pd_var 12) pa_nilD)))))) (fun _ _ _ _ _ => (pd_var 11))) (sd_one (sd_ret (pd_and (pd_eq G (pd_var 10) (pd_lst false pa_nilD)) (pd_one (pd_eq G (pd_var 6) (pd_var 4)))))))))))))))
theorem ok__law_lists_right {P : Program} {w : World} {K : PySem.W.Frag} {mg : Str → Option Value} {base : Heap} {f : Addr} {fd : FuncData} (T : Tz K mg) (D : DefAt K mg "_law_lists_right" s__law_lists_right f fd) (sm : ∃ o, base.get? sysModules = some o) (C_rising_0_down_numbers : OkC P w K mg base 7 "rising" 0 ["down", "numbers"] [1, 0] [] sp_rising) (C_rising_1 : OkC P w K mg base 7 "rising" 1 [] [0, 1] [.bl false] sp_rising) (C_rising_1_down : OkC P w K mg base 7 "rising" 1 ["down"] [0, 1] [] sp_rising) (C_total_0_start_numbers : OkC P w K mg base 5 "total" 0 ["start", "numbers"] [1, 0] [] sp_total) (C_total_1 : OkC P w K mg base 5 "total" 1 [] [0, 1] [.int (0)] sp_total) (C_total_1_start : OkC P w K mg base 5 "total" 1 ["start"] [0, 1] [] sp_total) (O__law_is : Ok P w K mg base 2 "_law_is" ["_law_found", "_law_due"] (sp__law_is 2)) (O__law_put : Ok P w K mg base 2 "_law_put" ["_law_some_here"] sp__law_put) (O__law_sum : Ok P w K mg base 2 "_law_sum" ["_law_some_here", "_law_first"] sp__law_sum) : Ok P w K mg base 8 "_law_lists_right" ["_law_some_here", "_law_first", "_law_tupled"] sp__law_lists_right := ok_mk D (fn__law_lists_right T D sm C_rising_0_down_numbers C_rising_1 C_rising_1_down C_total_0_start_numbers C_total_1 C_total_1_start O__law_is O__law_put O__law_sum) (fun _ _ _ _ _ _ us hl => match us, hl with | [_, _, _], _ => rfl)
/-! law -/
abbrev s_law : Stmt := topS 30
theorem sc_law : FnScope ["_law_script", "_law_k", "_law_box_here", "_law_large", "_law_some_here", "_law_first", "_law_rows", "_law_tupled", "_law_far_here", "_law_great", "_law_wide", "_law_few", "_law_number_here"] ["_law_script"] (defScope s_law) := ⟨rfl, rfl, rfl, by decide +kernel, rfl, by decide +kernel, by decide +kernel⟩
def b_law : DS := (sSeq (sFor (iRange1 (dCons (dB fMax2 (dCons (dC (.int 2)) (dCons (dB fMin2 (dCons (dC (.int 6)) (dCons (dB fLen (dCons (dVar 0) dNil)) dNil))) dNil))) dNil)) (gN 1) (sSeq (sAsg (dCall sp__law_box [] (dCons (dCall sp__law_cell [] (dCons (dVar 0) (dCons (dVar 1) dNil))) dNil)) (gN 2)) (sSeq (sAsg (dAnd (dOp fEq (dCall sp__law_take [] (dCons (dVar 2) (dCons (dC (.int 16)) dNil))) (dC (.int 0))) (dOp fEq (dVar 1) (dC (.int 0)))) (gN 3)) (sSeq (sAsg (dCall sp__law_some [] (dCons (dVar 2) dNil)) (gN 4)) (sSeq (sAsg (dCall sp__law_drawn [] (dCons (dVar 2) dNil)) (gN 5)) (sSeq (sIf (tAndD (tTru (dVar 3)) (tBl (dOp fNe (dVar 4) (dLst false dNil)))) (sSeq (sAsg (dLc false (iSeq (dVar 4)) (.inl 12) (tBl (dOp fLtS (dB fAbs (dCons (dOp fIx (dCall sp__law_pair [] (dCons (dVar 12) dNil)) (dC (.int 1))) dNil)) (dC (.int 100)))) (dVar 12) [12]) (gN 4)) (sAsg (dSl false (dOp (fAdd false) (dVar 4) (dLc false (iRange1 (dCons (dC (.int 400)) dNil)) (.inl 1) tYesD (dCall sp__law_number [] (dCons (dOp fSub (dOp fMod (dOp fMulI (dC (.int 37)) (dVar 1)) (dC (.int 401))) (dC (.int 200))) (dCons (dOp (fAdd false) (dC (.int 1)) (dOp fMod (dVar 1) (dC (.int 23)))) dNil))) [1])) dNo (dPart (dC (.int 400)))) (gN 4))) sNil) (sSeq (sFor (iSeq (dLst false (dCons (dVar 4) (dCons (dSl false (dVar 4) (dPart (dC (.int 1))) dNo) (dCons (dLst false dNil) dNil))))) (gN 6) (sFor (iSeq (dLst false (dCons (dC (.bl false)) (dCons (dC (.bl true)) dNil)))) (gN 7) (sIf (tNotD (tTru (dCall sp__law_lists_right [] (dCons (dVar 6) (dCons (dVar 5) (dCons (dVar 7) dNil)))))) (sRet (dC (.bl false))) sNil))) (sSeq (sAsg (dOp (fAdd false) (dOp fPow (dC (.int 10)) (dC (.int 40))) (dCall sp__law_take [] (dCons (dVar 2) (dCons (dC (.int 9)) dNil)))) (gN 8)) (sSeq (sAsg (dCall sp_times [] (dCons (dVar 8) (dCons (dVar 8) dNil))) (gN 9)) (sSeq (sIf (tOrD (tBl (dOp fNe (dCallC sp_rising 1 0 [0, 1] [.bl false] (dCons (dLst false (dCons (dVar 9) (dCons (dC (.int 0)) dNil))) dNil) dNil) (dLst false (dCons (dC (.int 0)) (dCons (dVar 9) dNil))))) (tBl (dOp fNe (dCallC sp_total 1 0 [0, 1] [.int (0)] (dCons (dLst false (dCons (dVar 9) (dCons (dC (.int 1)) dNil))) dNil) dNil) (dOp (fAdd false) (dOp fMulI (dVar 8) (dVar 8)) (dC (.int 1)))))) (sRet (dC (.bl false))) sNil) (sSeq (sAsg (dCall sp_times [] (dCons (dVar 9) (dCons (dVar 9) dNil))) (gN 10)) (sSeq (sAsg (dLst false (dCons (dCall sp_over [] (dCons (dC (.int 2)) (dCons (dVar 10) dNil))) (dCons (dCall sp_over [] (dCons (dC (.int 1)) (dCons (dVar 10) dNil))) dNil))) (gN 11)) (sIf (tOrD (tBl (dOp fNe (dB fRepr (dCons (dCallC sp_rising 1 0 [0, 1] [.bl false] (dCons (dVar 11) dNil) dNil) dNil)) (dB fRepr (dCons (dRev false (dVar 11)) dNil)))) (tBl (dOp fNe (dB fRepr (dCons (dCallC sp_rising 1 1 [0, 1] [] (dCons (dRev false (dVar 11)) dNil) (dCons (dC (.bl true)) dNil)) dNil)) (dB fRepr (dCons (dVar 11) dNil))))) (sRet (dC (.bl false))) sNil))))))))))))) (sRet (dC (.bl true))))
def sp_law : DSp := spOf 13 1 b_law
theorem fn_law {P : Program} {w : World} {K : PySem.W.Frag} {mg : Str → Option Value} {base : Heap} {f : Addr} {fd : FuncData} (T : Tz K mg) (D : DefAt K mg "law" s_law f fd) (sm : ∃ o, base.get? sysModules = some o) (C_rising_1 : OkC P w K mg base 7 "rising" 1 [] [0, 1] [.bl false] sp_rising) (C_rising_1_down : OkC P w K mg base 7 "rising" 1 ["down"] [0, 1] [] sp_rising) (C_total_1 : OkC P w K mg base 5 "total" 1 [] [0, 1] [.int (0)] sp_total) (O__law_box : Ok P w K mg base 1 "_law_box" ["_law_cell_here"] sp__law_box) (O__law_cell : Ok P w K mg base 1 "_law_cell" ["_law_script", "_law_k"] sp__law_cell) (O__law_drawn : Ok P w K mg base 3 "_law_drawn" ["_law_box_here"] sp__law_drawn) (O__law_lists_right : Ok P w K mg base 8 "_law_lists_right" ["_law_some_here", "_law_first", "_law_tupled"] sp__law_lists_right) (O__law_number : Ok P w K mg base 1 "_law_number" ["_law_upper", "_law_lower"] sp__law_number) (O__law_pair : Ok P w K mg base 1 "_law_pair" ["_law_number_here"] sp__law_pair) (O__law_some : Ok P w K mg base 4 "_law_some" ["_law_box_here"] sp__law_some) (O__law_take : Ok P w K mg base 1 "_law_take" ["_law_box_here", "_law_many"] sp__law_take) (O_over : Ok P w K mg base 4 "over" ["one", "other"] sp_over) (O_times : Ok P w K mg base 4 "times" ["one", "other"] sp_times) : FnG P w K mg base 9 f fd ["_law_script"] sp_law :=
  Fn_ok (k := 8) (b := b_law) D.F sc_law sm fun cdv A outer s H E G => (sd_cons (sd_for G (pi_range1D T.z_range (pa_consD (pd_callB (call_max2 G.calm) sim_max2 T.z_max (pa_consD pd_int (pa_consD (pd_callB (call_min2 G.calm) sim_min2 T.z_min (pa_consD pd_int (pa_consD (pd_callB call_len sim_len T.z_len (pa_consD (pd_var 0) pa_nilD)) pa_nilD))) pa_nilD))) pa_nilD)) (pg_nameD (i := 1) G.nd) (sd_cons (sd_set 2 G.nd (pd_callN G (O__law_box.mono (by decide)) (pa_consD (pd_callN G (O__law_cell.mono (by decide)) (pa_consD (pd_var 0) (pa_consD (pd_var 1) pa_nilD))) pa_nilD))) (sd_cons (sd_set 3 G.nd (pd_and (pd_eq G (pd_callN G (O__law_take.mono (by decide)) (pa_consD (pd_var 2) (pa_consD pd_int pa_nilD))) pd_int) (pd_one (pd_eq G (pd_var 1) pd_int)))) (sd_cons (sd_set 4 G.nd (pd_callN G (O__law_some.mono (by decide)) (pa_consD (pd_var 2) pa_nilD))) (sd_cons (sd_set 5 G.nd (pd_callN G (O__law_drawn.mono (by decide)) (pa_consD (pd_var 2) pa_nilD))) (sd_cons (sd_if (PW.pt (pw_andD (pt_truD (pd_var 3)) (pw_and1D (pt_ne G (pd_var 4) (pd_lst false pa_nilD))))) (sd_cons (sd_setLc 4 false [("_law_number_here", 12)] (.inl 12) G (pi_seqD (pd_var 4)) (fun _ _ _ _ _ => pg_name G.nd rfl (by first | exact Or.inl rfl | exact Or.inr rfl)) (fun _ _ _ _ _ => pts_oneD (pt_lt (pd_callB call_abs sim_abs T.z_abs (pa_consD (pd_ix (pd_callN G.blk (O__law_pair.mono (by decide)) (pa_consD (pd_var 12) pa_nilD)) pd_int) pa_nilD)) pd_int)) (fun _ _ _ _ _ => (pd_var 12))) (sd_one (sd_set 4 G.nd (pd_sl false (pd_add false (pd_var 4) (pd_lc false [("_law_k", 1)] (.inl 1) G (pi_range1D T.z_range (pa_consD pd_int pa_nilD)) (fun _ _ _ _ _ => pg_name G.nd rfl (by first | exact Or.inl rfl | exact Or.inr rfl)) (fun _ _ _ _ _ => pts_nilD) (fun _ _ _ _ _ => (pd_callN G.blk (O__law_number.mono (by decide)) (pa_consD (pd_sub (pd_mod (pd_mulI pd_int (pd_var 1)) pd_int) pd_int) (pa_consD (pd_add false pd_int (pd_mod (pd_var 1) pd_int)) pa_nilD)))))) po_noD (po_partD pd_int))))) sd_nil) (sd_cons (sd_for G (pi_seqD (pd_lst false (pa_consD (pd_var 4) (pa_consD (pd_sl false (pd_var 4) (po_partD pd_int) po_noD) (pa_consD (pd_lst false pa_nilD) pa_nilD))))) (pg_nameD (i := 6) G.nd) (sd_one (sd_for G (pi_seqD (pd_lst false (pa_consD pd_bl (pa_consD pd_bl pa_nilD)))) (pg_nameD (i := 7) G.nd) (sd_one (sd_if (pt_notD (pt_truD (pd_callN G (O__law_lists_right.mono (by decide)) (pa_consD (pd_var 6) (pa_consD (pd_var 5) (pa_consD (pd_var 7) pa_nilD)))))) (sd_one (sd_ret pd_bl)) sd_nil))))) (sd_cons (sd_set 8 G.nd (pd_add false (pd_pow pd_int pd_int) (pd_callN G (O__law_take.mono (by decide)) (pa_consD (pd_var 2) (pa_consD pd_int pa_nilD))))) (sd_cons (sd_set 9 G.nd (pd_callN G (O_times.mono (by decide)) (pa_consD (pd_var 8) (pa_consD (pd_var 8) pa_nilD)))) (sd_cons (sd_if (PW.pt (pw_orD (pt_ne G (pd_callC G (C_rising_1.mono (by decide)) (pa_consD (pd_lst false (pa_consD (pd_var 9) (pa_consD pd_int pa_nilD))) pa_nilD)) (pd_lst false (pa_consD pd_int (pa_consD (pd_var 9) pa_nilD)))) (pw_or1D (pt_ne G (pd_callC G (C_total_1.mono (by decide)) (pa_consD (pd_lst false (pa_consD (pd_var 9) (pa_consD pd_int pa_nilD))) pa_nilD)) (pd_add false (pd_mulI (pd_var 8) (pd_var 8)) pd_int))))) (sd_one (sd_ret pd_bl)) sd_nil) (sd_cons (sd_set 10 G.nd (pd_callN G (O_times.mono (by decide)) (pa_consD (pd_var 9) (pa_consD (pd_var 9) pa_nilD)))) (sd_cons (sd_set 11 G.nd (pd_lst false (pa_consD (pd_callN G (O_over.mono (by decide)) (pa_consD pd_int (pa_consD (pd_var 10) pa_nilD))) (pa_consD (pd_callN G (O_over.mono (by decide)) (pa_consD pd_int (pa_consD (pd_var 10) pa_nilD))) pa_nilD)))) (sd_one (sd_if (PW.pt (pw_orD (pt_ne G (pd_callB (call_reprD G) sim_repr T.z_repr (pa_consD (pd_callC G (C_rising_1.mono (by decide)) (pa_consD (pd_var 11) pa_nilD)) pa_nilD)) (pd_callB (call_reprD G) sim_repr T.z_repr (pa_consD (pd_rev false (pd_var 11)) pa_nilD))) (pw_or1D (pt_ne G (pd_callB (call_reprD G) sim_repr T.z_repr (pa_consD (pd_callCK G (C_rising_1_down.mono (by decide)) (pa_consD (pd_rev false (pd_var 11)) pa_nilD) (pk_consD pd_bl pk_nilD)) pa_nilD)) (pd_callB (call_reprD G) sim_repr T.z_repr (pa_consD (pd_var 11) pa_nilD)))))) (sd_one (sd_ret pd_bl)) sd_nil)))))))))))))) (sd_one (sd_ret pd_bl)))
end L_k05
namespace L_k05
open PySem DL
local macro_rules | `(tactic| walk_at "st") => `(tactic| with_reducible first
  | refine s_seq ?_ | refine s_nil ?_ | refine s_asg ?_ | refine s_exp ?_ | refine s_ret ?_ | refine s_retN ?_ | refine s_brk ?_ | refine s_con ?_ | refine s_if ?_ | refine s_par ?_ | refine s_for ?_ | refine x_par ?_ | refine s_par3 ?_ | refine x_par3 ?_ | refine s_rz ?_ | refine s_rz3 rfl (by simp only [List.length_cons, List.length_nil]; decide) (by rfl) ?_ | refine s_try ?_ | refine e_xf (by with_unfolding_all rfl) (by decide +kernel) (by first | exact fld_1 | exact fld_2 (by decide +kernel) fld_1) ?_ | refine e_bm ?_ | refine isq_node ?_ | refine e_lcG ?_ | refine k_for ?_ | refine k_elt ?_ | refine i_en ?_ | refine en_N ?_ | refine e_tupOf ?_ | refine tp_L ?_ | refine tp_T ?_ | refine e_rev ?_ | refine rv_N ?_ | refine sl_N ?_ | refine s_aug (by with_unfolding_all rfl) ?_ | refine f_adII ?_ | refine f_ik3 ?_ | refine f_ic3 (by assumption) ?_ | refine f_se3 (by assumption) ?_ | refine r_1 ?_ | refine r_q (by omega) (by omega) ?_ | refine q_seq ?_ | refine q_S ?_ | refine q_L ?_ | refine q_K ?_ | refine q_T ?_ | refine p_nil ?_ | refine p_cons ?_
  | refine e_var (by with_unfolding_all rfl) ?_ | refine e_c ?_ | refine e_op ?_ | refine e_un ?_ | refine e_nil ?_ | refine e_cons ?_ | refine e_B ?_ | refine e_tup ?_ | refine e_lst ?_ | refine e_dct0 ?_ | refine e_sz (by simp only [List.length_cons, List.length_nil, sizeLine]; decide) ?_ | refine e_nwf ?_
  | refine e_and ?_ | refine e_or ?_ | refine e_not ?_ | refine e_if ?_ | refine e_chain ?_ | refine e_sl ?_ | refine e_no ?_ | refine e_part ?_ | refine e_call ?_ | refine e_callC ?_ | refine c_C rfl rfl (by with_unfolding_all simp only [pick, List.cons_append, List.nil_append, List.append_nil, List.getElem?_cons_zero, List.getElem?_cons_succ]; rfl) ?_ | refine e_m1 ?_ | refine e_m0 ?_ | refine e_lc ?_ | refine e_lcm ?_
  | refine t_yes ?_ | refine t_tru ?_ | refine t_bl ?_ | refine t_and ?_ | refine t_or ?_ | refine t_not ?_ | refine w_bl ?_ | refine w_non ?_ | refine w_int ?_ | refine x_bl ?_ | refine x_int ?_ | refine x_str ?_
  | refine i_T ?_ | refine i_F ?_ | refine i_not ?_ | refine i_dT (by first | assumption | omega | (simp only [List.length_cons, List.length_nil]; omega)) ?_ | refine i_dF (by first | assumption | omega | (simp only [List.length_cons, List.length_nil]; omega)) ?_
  | refine g_nil ?_ | refine g_cons ?_ | refine g_tup (by with_unfolding_all rfl) ?_ | refine g_sub ?_
  | refine f_adI ?_ | refine f_adT (by assumption) (by assumption) (by decide) fun _ => ?_ | refine f_slT (by assumption) (by decide) fun _ => ?_ | refine f_lnTx (by assumption) (by decide) fun _ => ?_ | refine f_adS (by unfold sizeLine; omega) ?_ | refine f_adL (by unfold sizeLine; simp only [List.length_append, List.length_cons, List.length_nil]; omega) ?_ | refine f_sub ?_ | refine f_mod (by first | decide | omega) ?_ | refine f_div (by first | exact cdiv64 (by first | decide | omega) (by first | decide | omega)) ?_ | refine f_mul (by first | exact cmul64 (by first | decide | omega) (by first | decide | omega)) ?_ | refine f_pow (cpow_of (by decide) (by decide) (by first | decide | omega)) ?_ | refine f_neg ?_
  | refine f_ltI ?_ | refine f_leI ?_ | refine f_gtI ?_ | refine f_geI ?_ | refine f_leS ?_ | refine f_ltS ?_ | refine f_eqI ?_ | refine f_neI ?_ | refine f_inS ?_ | refine f_intB ?_ | refine f_intI ?_ | refine f_abs ?_ | refine f_max ?_ | refine f_min ?_ | refine f_lnS (by first | assumption | (unfold sizeLine; omega)) ?_ | refine f_lnL ?_ | refine f_lnK ?_ | refine f_lnT ?_ | refine f_stI (by assumption) ?_ | refine f_slS (by first | assumption | (unfold sizeLine; omega)) ?_
  | refine f_ix0 ?_ | refine f_ix1 ?_ | refine f_ix2 ?_ | refine f_ik0 ?_ | refine f_ik1 ?_ | refine f_ik2 ?_ | refine f_ic0 (by assumption) ?_ | refine f_ic1 (by assumption) ?_ | refine f_ic2 (by assumption) ?_ | refine f_se0 (by assumption) ?_ | refine f_se2 (by assumption) ?_ | refine f_it0 ?_ | refine f_it1 ?_ | refine f_it2 ?_
  | refine g_n0 ?_ | refine g_n1 ?_ | refine g_n2 ?_ | refine g_n3 ?_ | refine g_n4 ?_ | refine g_n5 ?_ | refine g_n6 ?_ | refine g_n7 ?_ | refine g_n8 ?_ | refine g_n9 ?_ | refine g_n10 ?_ | refine g_n11 ?_ | refine g_set (by simp only [List.set_cons_zero, List.set_cons_succ]; rfl) ?_)
theorem take_spec {b m : Nat} {κ : Kap} {X : Str → List D → Kap → Prop} {Q : DQ} {w : Int} (hB : Bx b m κ) (hm : m ≤ 2 ^ 40) (w0 : 0 < w) (w1 : w < 2 ^ 64)
    (h : ∀ r κ', 0 ≤ r → r < w → Bx b (m + 1) κ' → Fr b κ κ' → Q (.int r) κ') : sp__law_take [.cell b, .int w] κ X Q := by
  obtain ⟨x, y, z, e, hy, hy2, hz, hzm⟩ := hB
  (unfold sp__law_take; refine s_sp rfl ?_; simp only [startD, List.map_cons, List.map_nil, List.length_cons, List.length_nil, Nat.zero_add, Nat.reduceAdd, Nat.reduceSub, List.replicate, List.cons_append, List.nil_append]; unfold b__law_take)
  (repeat walk_at "st")
  refine i_d (fun h0 => ?_) fun h0 => ?_
  · have hw := fm_bd x w w0
    (repeat walk_at "st")
    exact h _ _ hw.1 hw.2 ⟨_, y, z, kset_same, hy, hy2, hz, by omega⟩ Fr.box
  · (repeat walk_at "st")
    generalize hq : Int.fmod _ 2147483647 = q
    have h1 : 0 ≤ q ∧ q < 2147483647 := by rw [← hq]; exact fm_bd _ 2147483647 (by decide)
    (repeat walk_at "st")
    generalize Int.fdiv _ 16 = v
    have hw := fm_bd v w w0
    exact h _ _ hw.1 hw.2 ⟨_, y, z + 1, kset_same, hy, hy2, by omega, by omega⟩ Fr.box
theorem box_spec {κ : Kap} {X : Str → List D → Kap → Prop} {Q : DQ} {c : Int}
    (h : ∀ b κ', κ b = none → Bx b 0 κ' → (∀ n c, κ n = some c → κ' n = some c) → Q (.cell b) κ') : sp__law_box [.int c] κ X Q := by
  (unfold sp__law_box; refine s_sp rfl ?_; simp only [startD, List.map_cons, List.map_nil, List.length_cons, List.length_nil, Nat.zero_add, Nat.reduceAdd, Nat.reduceSub, List.replicate, List.cons_append, List.nil_append]; unfold b__law_box)
  (repeat walk_at "st")
  refine e_nwt fun n hn => ?_
  have hw := fm_bd c 2147483629 (by decide)
  refine h n _ hn ⟨_, _, 0, kset_same, hw.1, by omega, by decide, by decide⟩ fun m c e => ?_
  rw [kset_ne (kne e hn)]
  exact e
theorem cell_spec {κ : Kap} {X : Str → List D → Kap → Prop} {Q : DQ} {ns : List Int} {k : Nat} (hk : k < 100)
    (h : ∀ c : Int, Q (.int c) κ) : sp__law_cell [.node .klst (ns.map D.int), .int (k : Int)] κ X Q := by
  (unfold sp__law_cell; refine s_sp rfl ?_; simp only [startD, List.map_cons, List.map_nil, List.length_cons, List.length_nil, Nat.zero_add, Nat.reduceAdd, Nat.reduceSub, List.replicate, List.cons_append, List.nil_append]; unfold b__law_cell)
  (repeat walk_at "st")
  refine i_d (fun h0 => ?_) fun h0 => ?_
  · rw [List.length_map] at h0
    (repeat walk_at "st")
    have hk : k < ns.length := by omega
    exact ⟨_, at_nat (a := .int ns[k]) (by rw [List.getElem?_map, List.getElem?_eq_getElem hk]; rfl), h _⟩
  · (repeat walk_at "st")
    exact h _
theorem plain_int {κ : Kap} {X : Str → List D → Kap → Prop} {Q : DQ} {i : Int} (h : Q (.bl true) κ) : sp_is_plain [.int i] κ X Q := by
  (unfold sp_is_plain; refine s_sp rfl ?_; simp only [startD, List.map_cons, List.map_nil, List.length_cons, List.length_nil, Nat.zero_add, Nat.reduceAdd, Nat.reduceSub, List.replicate, List.cons_append, List.nil_append]; unfold b_is_plain)
  (repeat walk_at "st")
  refine isi_in _ true rfl (by decide +kernel) ?_
  (repeat walk_at "st")
  refine isi_in _ false rfl (by decide +kernel) ?_
  (repeat walk_at "st")
  exact h
theorem plain_tup {κ : Kap} {X : Str → List D → Kap → Prop} {Q : DQ} {xs : List D} (h : Q (.bl false) κ) : sp_is_plain [.node .tup xs] κ X Q := by
  (unfold sp_is_plain; refine s_sp rfl ?_; simp only [startD, List.map_cons, List.map_nil, List.length_cons, List.length_nil, Nat.zero_add, Nat.reduceAdd, Nat.reduceSub, List.replicate, List.cons_append, List.nil_append]; unfold b_is_plain)
  (repeat walk_at "st")
  refine isi_in _ false rfl (by decide +kernel) ?_
  (repeat walk_at "st")
  exact h
theorem common_part_spec {κ : Kap} {X : Str → List D → Kap → Prop} {Q : DQ} {u l : Int} (h : Q (.int (Int.gcd u l : Int)) κ) : sp_common_part [.int u, .int l] κ X Q := by
  (unfold sp_common_part; refine s_sp rfl ?_; simp only [startD, List.map_cons, List.map_nil, List.length_cons, List.length_nil, Nat.zero_add, Nat.reduceAdd, Nat.reduceSub, List.replicate, List.cons_append, List.nil_append]; unfold b_common_part)
  (repeat walk_at "st")
  refine s_while (fun m δ κ' => κ' = κ ∧ ∃ x y : Nat, δ = [some (.int x), some (.int y)] ∧ Nat.gcd x y = Int.gcd u l ∧ y = m) ⟨_, rfl, u.natAbs, l.natAbs, by rw [abs_nat, abs_nat]; rfl, rfl, rfl⟩ ?_
  rintro m δ κ' L hL ⟨rfl, x, y, rfl, hg, rfl⟩
  (repeat walk_at "st")
  refine i_d (fun h0 => ?_) fun h0 => ?_
  · (repeat walk_at "st")
    have hy : y = 0 := by omega
    subst hy
    rw [Nat.gcd_zero_right] at hg
    rw [hg]
    exact h
  · (repeat walk_at "st")
    have hy : y ≠ 0 := by omega
    refine hL (x % y) _ _ (Nat.mod_lt _ (by omega)) ⟨rfl, y, x % y, ?_, by rw [gcd_step hy]; exact hg, rfl⟩
    rw [← Int.ofNat_fmod]
    rfl
theorem is_part_pair {κ : Kap} {X : Str → List D → Kap → Prop} {Q : DQ} {a b : Int} (n : NOk a b) (hb : b ≠ 1) (h : Q (.bl true) κ) : sp_is_part [.node .tup [.int a, .int b]] κ X Q := by
  have n1 := n.1
  (unfold sp_is_part; refine s_sp rfl ?_; simp only [startD, List.map_cons, List.map_nil, List.length_cons, List.length_nil, Nat.zero_add, Nat.reduceAdd, Nat.reduceSub, List.replicate, List.cons_append, List.nil_append]; unfold b_is_part)
  (repeat walk_at "st")
  refine isi_in _ true rfl (by decide +kernel) ?_
  (repeat walk_at "st")
  refine plain_int ?_
  (repeat walk_at "st")
  refine plain_int ?_
  (repeat walk_at "st")
  refine common_part_spec ?_
  rw [n.2]
  (repeat walk_at "st")
  rw [decide_eq_true (by rfl)]
  exact h
theorem reckoned_spec {κ : Kap} {X : Str → List D → Kap → Prop} {Q : DQ} {u l : Int} (hl : l ≠ 0) (hb : l.natAbs < 2 ^ 8000) (h : Q (nb (rtn u l) (rtd u l)) κ) : sp_reckoned [.int u, .int l] κ X Q := by
  have hg := Int.gcd_pos_of_ne_zero_right u hl
  have hgl := Int.gcd_le_natAbs_right u hl
  have hc : ∀ c : Int, c = cpt u l → Q (if decide (l.fdiv c = 1) = true then .int (u.fdiv c) else .node .tup [.int (u.fdiv c), .int (l.fdiv c)]) κ := by
    rintro c rfl
    have : nb (rtn u l) (rtd u l) = if decide (l.fdiv (cpt u l) = 1) = true then .int (u.fdiv (cpt u l)) else .node .tup [.int (u.fdiv (cpt u l)), .int (l.fdiv (cpt u l))] := by
      unfold nb rtn rtd
      by_cases h : l.fdiv (cpt u l) = 1
      · rw [if_pos h, if_pos (decide_eq_true h)]
      · rw [if_neg h, if_neg (by rw [decide_eq_false h]; decide)]
    rw [← this]
    exact h
  (unfold sp_reckoned; refine s_sp rfl ?_; simp only [startD, List.map_cons, List.map_nil, List.length_cons, List.length_nil, Nat.zero_add, Nat.reduceAdd, Nat.reduceSub, List.replicate, List.cons_append, List.nil_append]; unfold b_reckoned)
  (repeat walk_at "st")
  refine common_part_spec ?_
  (repeat walk_at "st")
  refine i_d (fun h0 => ?_) fun h0 => ?_
  · have hc := hc (0 - (Int.gcd u l : Int)) (by unfold cpt; rw [if_pos h0])
    generalize hcc : 0 - (Int.gcd u l : Int) = c at hc
    have hc0 : c ≠ 0 := by omega
    have hd : ∀ i, CDivD i c := fun i => cdiv_of 8000 hc0 (by omega) (by decide)
    (repeat walk_at "st")
    rw [hcc]
    refine f_div (hd _) ?_
    (repeat walk_at "st")
    refine f_div (hd _) ?_
    (repeat walk_at "st")
    refine i_d (fun h1 => ?_) fun h1 => ?_
    · rw [if_pos (decide_eq_true h1)] at hc
      (repeat walk_at "st")
      exact hc
    · rw [if_neg (by rw [decide_eq_false h1]; decide)] at hc
      (repeat walk_at "st")
      exact hc
  · have hc := hc (Int.gcd u l : Int) (by unfold cpt; rw [if_neg h0])
    generalize (Int.gcd u l) = c at hc hg hgl
    have hc0 : (c : Int) ≠ 0 := by omega
    have hd : ∀ i, CDivD i (c : Int) := fun i => cdiv_of 8000 hc0 (by omega) (by decide)
    (repeat walk_at "st")
    refine f_div (hd _) ?_
    (repeat walk_at "st")
    refine f_div (hd _) ?_
    (repeat walk_at "st")
    refine i_d (fun h1 => ?_) fun h1 => ?_
    · rw [if_pos (decide_eq_true h1)] at hc
      (repeat walk_at "st")
      exact hc
    · rw [if_neg (by rw [decide_eq_false h1]; decide)] at hc
      (repeat walk_at "st")
      exact hc
theorem pair_of_spec {κ : Kap} {X : Str → List D → Kap → Prop} {Q : DQ} {a b : Int} (n : NOk a b) (h : Q (.node .tup [.int a, .int b]) κ) : sp_pair_of [nb a b] κ X Q := by
  by_cases hb : b = 1
  · subst hb
    rw [nb_1]
    (unfold sp_pair_of; refine s_sp rfl ?_; simp only [startD, List.map_cons, List.map_nil, List.length_cons, List.length_nil, Nat.zero_add, Nat.reduceAdd, Nat.reduceSub, List.replicate, List.cons_append, List.nil_append]; unfold b_pair_of)
    (repeat walk_at "st")
    refine plain_int ?_
    (repeat walk_at "st")
    exact h
  · rw [nb_p hb]
    (unfold sp_pair_of; refine s_sp rfl ?_; simp only [startD, List.map_cons, List.map_nil, List.length_cons, List.length_nil, Nat.zero_add, Nat.reduceAdd, Nat.reduceSub, List.replicate, List.cons_append, List.nil_append]; unfold b_pair_of)
    (repeat walk_at "st")
    refine plain_tup ?_
    (repeat walk_at "st")
    refine is_part_pair n hb ?_
    (repeat walk_at "st")
    exact h
theorem law_number_spec {κ : Kap} {X : Str → List D → Kap → Prop} {Q : DQ} {u l : Int} (hl : l ≠ 0) (hb : l.natAbs < 2 ^ 8000) (h : Q (nb (rtn u l) (rtd u l)) κ) : sp__law_number [.int u, .int l] κ X Q := by
  have hg := Int.gcd_pos_of_ne_zero_right u hl
  have hgl := Int.gcd_le_natAbs_right u hl
  have hc : ∀ c : Int, c = cpt u l → Q (if decide (l.fdiv c = 1) = true then .int (u.fdiv c) else .node .tup [.int (u.fdiv c), .int (l.fdiv c)]) κ := by
    rintro c rfl
    have : nb (rtn u l) (rtd u l) = if decide (l.fdiv (cpt u l) = 1) = true then .int (u.fdiv (cpt u l)) else .node .tup [.int (u.fdiv (cpt u l)), .int (l.fdiv (cpt u l))] := by
      unfold nb rtn rtd
      by_cases h : l.fdiv (cpt u l) = 1
      · rw [if_pos h, if_pos (decide_eq_true h)]
      · rw [if_neg h, if_neg (by rw [decide_eq_false h]; decide)]
    rw [← this]
    exact h
  (unfold sp__law_number; refine s_sp rfl ?_; simp only [startD, List.map_cons, List.map_nil, List.length_cons, List.length_nil, Nat.zero_add, Nat.reduceAdd, Nat.reduceSub, List.replicate, List.cons_append, List.nil_append]; unfold b__law_number)
  (repeat walk_at "st")
  refine s_while (fun m δ κ' => κ' = κ ∧ ∃ x y : Nat, δ = [some (.int u), some (.int l), some (.int x), some (.int y)] ∧ Nat.gcd x y = Int.gcd u l ∧ y = m) ⟨_, rfl, u.natAbs, l.natAbs, by rw [abs_nat, abs_nat]; rfl, rfl, rfl⟩ ?_
  rintro m δ κ' L hL ⟨rfl, x, y, rfl, hgg, rfl⟩
  (repeat walk_at "st")
  refine i_d (fun h0 => ?_) fun h0 => ?_
  · have hy : y = 0 := by omega
    subst hy
    rw [Nat.gcd_zero_right] at hgg
    subst hgg
    (repeat walk_at "st")
    refine i_d (fun h0 => ?_) fun h0 => ?_
    · have hc := hc (0 - (Int.gcd u l : Int)) (by unfold cpt; rw [if_pos h0])
      generalize hcc : 0 - (Int.gcd u l : Int) = c at hc
      have hc0 : c ≠ 0 := by omega
      have hd : ∀ i, CDivD i c := fun i => cdiv_of 8000 hc0 (by omega) (by decide)
      (repeat walk_at "st")
      rw [hcc]
      refine f_div (hd _) ?_
      (repeat walk_at "st")
      refine i_d (fun h1 => ?_) fun h1 => ?_
      · rw [if_pos (decide_eq_true h1)] at hc
        (repeat walk_at "st")
        refine f_div (hd _) ?_
        exact hc
      · rw [if_neg (by rw [decide_eq_false h1]; decide)] at hc
        (repeat walk_at "st")
        refine f_div (hd _) ?_
        (repeat walk_at "st")
        refine f_div (hd _) ?_
        (repeat walk_at "st")
        exact hc
    · have hc := hc (Int.gcd u l : Int) (by unfold cpt; rw [if_neg h0])
      generalize (Int.gcd u l) = c at hc hg hgl
      have hc0 : (c : Int) ≠ 0 := by omega
      have hd : ∀ i, CDivD i (c : Int) := fun i => cdiv_of 8000 hc0 (by omega) (by decide)
      (repeat walk_at "st")
      refine f_div (hd _) ?_
      (repeat walk_at "st")
      refine i_d (fun h1 => ?_) fun h1 => ?_
      · rw [if_pos (decide_eq_true h1)] at hc
        (repeat walk_at "st")
        refine f_div (hd _) ?_
        exact hc
      · rw [if_neg (by rw [decide_eq_false h1]; decide)] at hc
        (repeat walk_at "st")
        refine f_div (hd _) ?_
        (repeat walk_at "st")
        refine f_div (hd _) ?_
        (repeat walk_at "st")
        exact hc
  · (repeat walk_at "st")
    have hy : y ≠ 0 := by omega
    refine hL (x % y) _ _ (Nat.mod_lt _ (by omega)) ⟨rfl, y, x % y, ?_, by rw [gcd_step hy]; exact hgg, rfl⟩
    rw [← Int.ofNat_fmod]
    rfl
theorem law_pair_spec {κ : Kap} {X : Str → List D → Kap → Prop} {Q : DQ} {a b : Int} (h : Q (.node .tup [.int a, .int b]) κ) : sp__law_pair [nb a b] κ X Q := by
  by_cases hb : b = 1
  · subst hb
    rw [nb_1]
    (unfold sp__law_pair; refine s_sp rfl ?_; simp only [startD, List.map_cons, List.map_nil, List.length_cons, List.length_nil, Nat.zero_add, Nat.reduceAdd, Nat.reduceSub, List.replicate, List.cons_append, List.nil_append]; unfold b__law_pair)
    (repeat walk_at "st")
    refine isi_in _ false rfl (by decide +kernel) ?_
    (repeat walk_at "st")
    exact h
  · rw [nb_p hb]
    (unfold sp__law_pair; refine s_sp rfl ?_; simp only [startD, List.map_cons, List.map_nil, List.length_cons, List.length_nil, Nat.zero_add, Nat.reduceAdd, Nat.reduceSub, List.replicate, List.cons_append, List.nil_append]; unfold b__law_pair)
    (repeat walk_at "st")
    refine isi_in _ true rfl (by decide +kernel) ?_
    (repeat walk_at "st")
    exact h
theorem is_int {κ : Kap} {X : Str → List D → Kap → Prop} {Q : DQ} {n : Nat} {i j : Int} (h : Q (.bl (decide (i = j))) κ) : sp__law_is (n + 1) [.int i, .int j] κ X Q := by
  (unfold sp__law_is; refine s_sp rfl ?_; simp only [startD, List.map_cons, List.map_nil, List.length_cons, List.length_nil, Nat.zero_add, Nat.reduceAdd, Nat.reduceSub, List.replicate, List.cons_append, List.nil_append]; unfold b__law_is)
  (repeat walk_at "st")
  refine isi_in _ false rfl (by decide +kernel) ?_
  (repeat walk_at "st")
  refine isi_in _ true rfl (by decide +kernel) ?_
  (repeat walk_at "st")
  refine isi_in _ false rfl (by decide +kernel) ?_
  (repeat walk_at "st")
  exact h
theorem is_spec {κ : Kap} {X : Str → List D → Kap → Prop} {Q : DQ} {a b : Int} (h : Q (.bl true) κ) : sp__law_is 2 [nb a b, nb a b] κ X Q := by
  have hh : ∀ p : Prop, [Decidable p] → p → Q (.bl (decide p)) κ := fun p _ hp => by rw [decide_eq_true hp]; exact h
  by_cases hb : b = 1
  · subst hb
    rw [nb_1]
    exact is_int (hh _ rfl)
  · rw [nb_p hb]
    show sp__law_is (1 + 1) _ κ X Q
    (unfold sp__law_is; refine s_sp rfl ?_; simp only [startD, List.map_cons, List.map_nil, List.length_cons, List.length_nil, Nat.zero_add, Nat.reduceAdd, Nat.reduceSub, List.replicate, List.cons_append, List.nil_append]; unfold b__law_is)
    (repeat walk_at "st")
    refine isi_in _ true rfl (by decide +kernel) ?_
    (repeat walk_at "st")
    refine isi_in _ true rfl (by decide +kernel) ?_
    (repeat walk_at "st")
    refine f_eqP ?_
    (repeat walk_at "st")
    refine is_int ?_
    (repeat walk_at "st")
    refine is_int ?_
    exact hh _ rfl
section
variable {κ : Kap} {X : Str → List D → Kap → Prop} {Q : DQ} {k j : Nat} {p q : Rat}
theorem pair_q (h : Q (.node .tup [.int q.num, .int q.den]) κ) : sp_pair_of [nq q] κ X Q := pair_of_spec (nq_ok q) h
theorem reckoned_q {u l : Int} (hl : l ≠ 0) (hb : l.natAbs < 2 ^ 8000) (h : Q (nq (Rat.divInt u l)) κ) : sp_reckoned [.int u, .int l] κ X Q := reckoned_spec hl hb (by rw [nb_rt hl]; exact h)
theorem plus_q (n : Sz k p) (n' : Sz j q) (hk : k + j ≤ 8000) (h : Q (nq (p + q)) κ) : sp_plus [nq p, nq q] κ X Q := by
  have hm1 : L2.CMulW p.num q.den := cmul_of k j n.1 n'.db (by omega)
  have hm2 : L2.CMulW q.num p.den := cmul_of j k n'.1 n.db (by omega)
  have hm3 : L2.CMulW (p.den : Int) q.den := cmul_of k j n.db n'.db (by omega)
  (unfold sp_plus; refine s_sp rfl ?_; simp only [startD, List.map_cons, List.map_nil, List.length_cons, List.length_nil, Nat.zero_add, Nat.reduceAdd, Nat.reduceSub, List.replicate, List.cons_append, List.nil_append]; unfold b_plus)
  (repeat walk_at "st")
  refine pair_q ?_
  (repeat walk_at "st")
  refine pair_q ?_
  (repeat walk_at "st")
  refine f_mul hm1 ?_
  (repeat walk_at "st")
  refine f_mul hm2 ?_
  (repeat walk_at "st")
  refine f_mul hm3 ?_
  (repeat walk_at "st")
  refine reckoned_q (Sz.dd p q) (bd_mono (mul_bd n.db n'.db) (by omega)) ?_
  rw [← q_add]
  exact h
theorem times_q (n : Sz k p) (n' : Sz j q) (hk : k + j ≤ 8000) (h : Q (nq (p * q)) κ) : sp_times [nq p, nq q] κ X Q := by
  have hm1 : L2.CMulW p.num q.num := cmul_of k j n.1 n'.1 (by omega)
  have hm3 : L2.CMulW (p.den : Int) q.den := cmul_of k j n.db n'.db (by omega)
  (unfold sp_times; refine s_sp rfl ?_; simp only [startD, List.map_cons, List.map_nil, List.length_cons, List.length_nil, Nat.zero_add, Nat.reduceAdd, Nat.reduceSub, List.replicate, List.cons_append, List.nil_append]; unfold b_times)
  (repeat walk_at "st")
  refine pair_q ?_
  (repeat walk_at "st")
  refine pair_q ?_
  (repeat walk_at "st")
  refine f_mul hm1 ?_
  (repeat walk_at "st")
  refine f_mul hm3 ?_
  (repeat walk_at "st")
  refine reckoned_q (Sz.dd p q) (bd_mono (mul_bd n.db n'.db) (by omega)) ?_
  rw [← q_mul]
  exact h
theorem over_q (n : Sz k p) (n' : Sz j q) (h0 : q ≠ 0) (hk : k + j ≤ 8000) (h : Q (nq (p / q)) κ) : sp_over [nq p, nq q] κ X Q := by
  have hm1 : L2.CMulW p.num q.den := cmul_of k j n.1 n'.db (by omega)
  have hm3 : L2.CMulW (p.den : Int) q.num := cmul_of k j n.db n'.1 (by omega)
  have hq := q_num0 h0
  (unfold sp_over; refine s_sp rfl ?_; simp only [startD, List.map_cons, List.map_nil, List.length_cons, List.length_nil, Nat.zero_add, Nat.reduceAdd, Nat.reduceSub, List.replicate, List.cons_append, List.nil_append]; unfold b_over)
  (repeat walk_at "st")
  refine pair_q ?_
  (repeat walk_at "st")
  refine pair_q ?_
  (repeat walk_at "st")
  refine f_mul hm1 ?_
  (repeat walk_at "st")
  refine f_mul hm3 ?_
  (repeat walk_at "st")
  refine reckoned_q (Int.mul_ne_zero (Sz.d0 p) hq) (bd_mono (mul_bd n.db n'.1) (by omega)) ?_
  rw [← q_div]
  exact h
/-! the law's own -/
theorem lnum_q {u l : Int} (hl : l ≠ 0) (hb : l.natAbs < 2 ^ 8000) (h : Q (nq (Rat.divInt u l)) κ) : sp__law_number [.int u, .int l] κ X Q := law_number_spec hl hb (by rw [nb_rt hl]; exact h)
theorem lpair_q (h : Q (.node .tup [.int q.num, .int q.den]) κ) : sp__law_pair [nq q] κ X Q := law_pair_spec h
theorem is_q (e : p = q) (h : Q (.bl true) κ) : sp__law_is 2 [nq p, nq q] κ X Q := by
  rw [e]
  exact is_spec h
end
def Dz (q : Rat) : Prop := q.num.natAbs < 10 ^ 60 ∧ q.den < 10 ^ 60
theorem Dz.sz {q : Rat} (h : Dz q) : Sz 200 q := ⟨Nat.lt_trans h.1 (by decide), Nat.lt_trans h.2 (by decide)⟩
theorem div_dz {u l : Int} (h0 : 0 < l) (hu : u.natAbs < 10 ^ 60) (hl : l.natAbs < 10 ^ 60) : Dz (Rat.divInt u l) := by
  constructor
  · rw [Rat.num_divInt, Int.sign_eq_one_of_pos h0, Int.one_mul]
    exact Nat.lt_of_le_of_lt (Int.natAbs_ediv_le_natAbs _ _) hu
  · rw [Rat.den_divInt, if_neg (by omega)]
    exact Nat.lt_of_le_of_lt (Nat.div_le_self _ _) hl
theorem far_spec {b m : Nat} {κ : Kap} {X : Str → List D → Kap → Prop} {Q : DQ} (hB : Bx b m κ) (hm : m ≤ 2 ^ 39)
    (h : ∀ r κ', -(10 ^ 60) < r → r < 10 ^ 60 → Bx b (m + 22) κ' → Fr b κ κ' → Q (.int r) κ') : sp__law_far [.cell b] κ X Q := by
  (unfold sp__law_far; refine s_sp rfl ?_; simp only [startD, List.map_cons, List.map_nil, List.length_cons, List.length_nil, Nat.zero_add, Nat.reduceAdd, Nat.reduceSub, List.replicate, List.cons_append, List.nil_append]; unfold b__law_far)
  (repeat walk_at "st")
  refine take_spec hB (by omega) (by decide) (by decide) fun r κ1 r0 r1 B1 f1 => ?_
  (repeat walk_at "st")
  refine dl_ix (fun i δ κ' => ∃ v k, δ = [some (.cell b), some (.int v), k] ∧ 0 ≤ v ∧ v < 1000 ^ i ∧ Bx b (m + 1 + i) κ' ∧ Fr b κ κ') ?_ ?_ ⟨0, none, rfl, by decide, by decide, B1, f1⟩
  · rintro δ κ' ⟨v, k, rfl, v0, v1, B2, f2⟩
    rw [rangeD_len] at v1 B2
    have hv : v < 1000 ^ 20 := Int.lt_of_lt_of_le v1 (ipow_le (by decide) (by omega))
    refine ⟨trivial, ?_⟩
    (repeat walk_at "st")
    refine take_spec B2 (by omega) (by decide) (by decide) fun q κ3 q0 q1 B3 f3 => ?_
    have hw := fm_bd v 1000 (by decide)
    refine ix_mem q0 q1 fun d hd => ?_
    have B4 := B3.mono (m' := m + 22) (by omega)
    simp only [List.mem_cons, List.not_mem_nil, or_false] at hd
    rcases hd with rfl | rfl | rfl
    · exact h _ _ (by omega) (by omega) B4 (f2.trans f3)
    · exact h _ _ (by omega) (by omega) B4 (f2.trans f3)
    · exact h _ _ (by omega) (by omega) B4 (f2.trans f3)
  · rintro i d δ κ' L hd hL ⟨v, k, rfl, v0, v1, B2, f2⟩
    obtain ⟨hi, rfl⟩ := rangeD_get hd
    have hv : v < 1000 ^ 20 := Int.lt_of_lt_of_le v1 (ipow_le (by decide) (by omega))
    refine ⟨trivial, ?_⟩
    (repeat walk_at "st")
    refine f_mul (cmul_of 64 210 (by decide) (by omega) (by decide)) ?_
    (repeat walk_at "st")
    refine take_spec B2 (by omega) (by decide) (by decide) fun q κ3 q0 q1 B3 f3 => ?_
    (repeat walk_at "st")
    refine hL _ _ ⟨_, _, rfl, by omega, ?_, B3, f2.trans f3⟩
    rw [Int.pow_succ]
    omega
theorem drawn_q {b m : Nat} {κ : Kap} {X : Str → List D → Kap → Prop} {Q : DQ} (hB : Bx b m κ) (hm : m ≤ 2 ^ 37)
    (h : ∀ q κ', Dz q → Bx b (m + 60) κ' → Fr b κ κ' → Q (nq q) κ') : sp__law_drawn [.cell b] κ X Q := by
  (unfold sp__law_drawn; refine s_sp rfl ?_; simp only [startD, List.map_cons, List.map_nil, List.length_cons, List.length_nil, Nat.zero_add, Nat.reduceAdd, Nat.reduceSub, List.replicate, List.cons_append, List.nil_append]; unfold b__law_drawn)
  (repeat walk_at "st")
  refine take_spec hB (by omega) (by decide) (by decide) fun t1 κ1 _ _ B1 f1 => ?_
  (repeat walk_at "st")
  refine far_spec B1 (by omega) fun t2 κ2 _ _ B2 f2 => ?_
  (repeat walk_at "st")
  refine take_spec B2 (by omega) (by decide) (by decide) fun t3 κ3 c0 c1 B3 f3 => ?_
  refine ix_mem c0 c1 fun d1 hd1 => ?_
  have e1 : ∃ u : Int, d1 = .int u ∧ u.natAbs < 10 ^ 60 := by
    simp only [List.mem_cons, List.not_mem_nil, or_false] at hd1
    rcases hd1 with rfl | rfl
    · exact ⟨_, rfl, by omega⟩
    · exact ⟨_, rfl, by omega⟩
  obtain ⟨u, rfl, hu⟩ := e1
  (repeat walk_at "st")
  refine take_spec B3 (by omega) (by decide) (by decide) fun t4 κ4 _ _ B4 f4 => ?_
  (repeat walk_at "st")
  refine far_spec B4 (by omega) fun t5 κ5 _ _ B5 f5 => ?_
  (repeat walk_at "st")
  rw [show (10 : Int) ^ Int.toNat 60 = 10 ^ 60 from rfl]
  have fb := fm_bd (if t5 < 0 then -t5 else t5) (10 ^ 60 - 1) (by decide)
  generalize Int.fmod (if t5 < 0 then -t5 else t5) (10 ^ 60 - 1) = w at fb
  (repeat walk_at "st")
  refine take_spec B5 (by omega) (by decide) (by decide) fun t6 κ6 c2 c3 B6 f6 => ?_
  refine ix_mem c2 c3 fun d2 hd2 => ?_
  have e2 : ∃ l : Int, d2 = .int l ∧ 0 < l ∧ l.natAbs < 10 ^ 60 := by
    simp only [List.mem_cons, List.not_mem_nil, or_false] at hd2
    rcases hd2 with rfl | rfl | rfl | rfl
    · exact ⟨_, rfl, by omega, by omega⟩
    · exact ⟨_, rfl, by omega, by omega⟩
    · exact ⟨_, rfl, by omega, by omega⟩
    · exact ⟨_, rfl, by omega, by omega⟩
  obtain ⟨l, rfl, hl, hl2⟩ := e2
  (repeat walk_at "st")
  exact lnum_q (by omega) (Nat.lt_trans hl2 (by decide)) (h _ _ (div_dz hl hu hl2) (B6.mono (by omega)) (f1.trans (f2.trans (f3.trans (f4.trans (f5.trans f6))))))
/-! lists of numbers -/
def Lq (κ : Kap) (d : D) (qs : List Rat) : Prop := d = .node .lst (qs.map nq) ∨ ∃ n, d = .cell n ∧ κ n = some (.live .lst (qs.map nq))
theorem pdL_nq (qs : List Rat) : pdataL (qs.map nq) = some (qs.map nqP) := pdataL_map nq_pdata qs
theorem Lq.pd {κ : Kap} {d : D} {qs : List Rat} (h : Lq κ d qs) : Pd κ d (.list (qs.map nqP)) := by
  rcases h with rfl | ⟨n, rfl, e⟩
  · exact pd_of (pdata_list (pdL_nq qs))
  · exact pd_cl e (pdL_nq qs)
theorem Lq.wk {κ : Kap} {d : D} {qs : List Rat} (h : Lq κ d qs) : Wk κ d (qs.map nq) := by
  rcases h with rfl | ⟨n, rfl, e⟩
  · exact .lst
  · exact .cell e
theorem Lq.mono {κ κ' : Kap} {d : D} {qs : List Rat} (h : Lq κ d qs) (f : Fa κ κ') : Lq κ' d qs := by
  rcases h with rfl | ⟨n, rfl, e⟩
  · exact .inl rfl
  · exact .inr ⟨n, rfl, f _ _ e⟩
theorem sp_nql (qs : List Rat) : SeqAt.shaped (.list (qs.map nqP)) = true := (Sp.list (k := 1) fun p hp => by
  obtain ⟨q, _, rfl⟩ := List.mem_map.mp hp
  exact nqP_sp q).shaped (by decide)
theorem eqv_nql : ∀ ps qs : List Rat, PyData.eqvAll (ps.map nqP) (qs.map nqP) = decide (ps = qs)
  | [], [] => by simp [PyData.eqvAll]
  | [], _ :: _ => by simp [PyData.eqvAll]
  | _ :: _, [] => by simp [PyData.eqvAll]
  | p :: ps, q :: qs => by
    show (PyData.eqv (nqP p) (nqP q) && PyData.eqvAll (ps.map nqP) (qs.map nqP)) = _
    rw [nqP_eqv, eqv_nql ps qs, ← Bool.decide_and]
    exact decide_eq_decide.mpr (by simp)
section
variable {κ : Kap} {Q : DQ} {x y : D} {ps qs : List Rat}
theorem f_neLq (hx : Lq κ x ps) (hy : Lq κ y qs) (h : Q (.bl (!decide (ps = qs))) κ) : fNe x y κ Q :=
  ⟨_, _, hx.pd, hy.pd, sp_nql ps, sp_nql qs, by show Q (.bl (!PyData.eqvAll _ _)) κ; rw [eqv_nql]; exact h⟩
theorem f_eqLq (hx : Lq κ x ps) (hy : Lq κ y qs) (h : Q (.bl (decide (ps = qs))) κ) : fEq x y κ Q :=
  ⟨_, _, hx.pd, hy.pd, sp_nql ps, sp_nql qs, by show Q (.bl (PyData.eqvAll _ _)) κ; rw [eqv_nql]; exact h⟩
end
theorem nq_get {qs : List Rat} {d : D} (h : d ∈ qs.map nq) : ∃ q, q ∈ qs ∧ d = nq q := by
  obtain ⟨q, h1, h2⟩ := List.mem_map.mp h
  exact ⟨q, h1, h2.symm⟩
theorem seq_mid {s s' : DS} {δ : DEnv} {κ : Kap} {X : DX} {n bk ct : DEnv → Kap → Prop} {rt : DQ} (M : DEnv → Kap → Prop) (h1 : ∀ N : DEnv → Kap → Prop, (∀ δ κ, M δ κ → N δ κ) → s δ κ X ⟨N, rt, bk, ct⟩) (h2 : ∀ δ κ, M δ κ → s' δ κ X ⟨n, rt, bk, ct⟩) : sSeq s s' δ κ X ⟨n, rt, bk, ct⟩ := h1 _ h2
/-- the drawn list -/
theorem some_spec {b m : Nat} {κ : Kap} {X : Str → List D → Kap → Prop} {Q : DQ} (hB : Bx b m κ) (hm : m ≤ 2 ^ 36)
    (h : ∀ (n : Nat) (qs : List Rat) (κ' : Kap), κ n = none → κ' n = some (.live .lst (qs.map nq)) → qs.length ≤ 10 → (∀ q ∈ qs, Dz q) → Bx b (m + 1000) κ' → Fr b κ κ' → Q (.cell n) κ') : sp__law_some [.cell b] κ X Q := by
  (unfold sp__law_some; refine s_sp rfl ?_; simp only [startD, List.map_cons, List.map_nil, List.length_cons, List.length_nil, Nat.zero_add, Nat.reduceAdd, Nat.reduceSub, List.replicate, List.cons_append, List.nil_append]; unfold b__law_some)
  (repeat walk_at "st")
  refine e_nwt fun n hn => ?_
  have hne := hB.ne hn
  have B0 : Bx b m (kset κ n (.live .lst [])) := hB.set hne
  have f0 : Fr b κ (kset κ n (.live .lst [])) := .set hn
  (repeat walk_at "st")
  refine take_spec B0 (by omega) (by decide) (by decide) fun t0 κ1 t00 t01 B1 f1 => ?_
  have e1 : κ1 n = some (.live .lst []) := f1 _ _ hne kset_same
  have f01 := f0.trans f1
  clear f0 f1 B0
  (repeat walk_at "st")
  refine dl_ix (fun i δ κ' => ∃ (qs : List Rat) (u1 u2 u3 u4 u5 u6 : Option D), δ = [some (.cell b), some (.cell n), u1, u2, u3, u4, u5, u6] ∧ qs.length = i ∧ (∀ q ∈ qs, Dz q) ∧ κ' n = some (.live .lst (qs.map nq)) ∧ Bx b (m + 1 + i * 70) κ' ∧ Fr b κ κ') ?_ ?_
    ⟨[], none, none, none, none, none, none, rfl, rfl, fun _ h => (nomatch h), e1, B1, f01⟩
  · rintro δ κ' ⟨qs, u1, u2, u3, u4, u5, u6, rfl, hl, hd, e2, B2, f2⟩
    rw [rangeD_len] at hl B2
    refine ⟨trivial, ?_⟩
    (repeat walk_at "st")
    exact h n qs κ' hn e2 (by omega) hd (B2.mono (by omega)) f2
  · rintro i d δ κ' L hd hL ⟨qs, u1, u2, u3, u4, u5, u6, rfl, hl, hz, e2, B2, f2⟩
    obtain ⟨hi, rfl⟩ := rangeD_get hd
    refine ⟨trivial, ?_⟩
    (repeat walk_at "st")
    refine take_spec B2 (by omega) (by decide) (by decide) fun t κ3 _ _ B3 f3 => ?_
    have e3 := f3 _ _ hne e2
    have f23 := f2.trans f3
    clear f2 f3 B2 e2
    (repeat walk_at "st")
    refine drawn_q B3 (by omega) fun q κ4 hq B4 f4 => ?_
    have e4 := f4 _ _ hne e3
    have f24 := f23.trans f4
    clear f23 f4 B3 e3
    walk_at "st"
    refine seq_mid (fun δ κ5 => ∃ (q : Rat) (w4 w5 w6 : Option D), δ = [some (.cell b), some (.cell n), some (.int (0 + (i : Int))), some (.int t), some (nq q), w4, w5, w6] ∧ Dz q ∧ κ5 n = some (.live .lst (qs.map nq)) ∧ Bx b (m + 1 + i * 70 + 63) κ5 ∧ Fr b κ κ5) (fun N hN => ?_) fun δ κ5 hM => ?_
    · (repeat walk_at "st")
      refine e_nwt fun n2 hn2 => ?_
      have hne2 := B4.ne hn2
      refine f_neLq (qs := []) (.inr ⟨n, rfl, kk e4 hn2⟩) (.inr ⟨n2, rfl, kset_same⟩) ?_
      have e5 := kk (c' := .live .lst []) e4 hn2
      have B5 := (B4.set (c := .live .lst []) hne2)
      have f5 : Fr b κ (kset κ4 n2 (.live .lst [])) := f24.trans (.set hn2)
      generalize kset κ4 n2 (.live .lst []) = κ5 at e5 B5 f5
      (repeat walk_at "st")
      refine i_d (fun h0 => ?_) fun h0 => ?_
      · (repeat walk_at "st")
        exact hN _ _ ⟨q, _, _, _, rfl, hq, e5, B5.mono (by omega), f5⟩
      · (repeat walk_at "st")
        refine i_d (fun h1 => ?_) fun h1 => ?_
        · (repeat walk_at "st")
          refine f_lnC e5 ?_
          rw [List.length_map]
          have hlen : 0 < qs.length := by cases qs with | nil => exact absurd rfl h0 | cons _ _ => simp
          (repeat walk_at "st")
          refine take_spec B5 (by omega) (by omega) (by omega) fun t2 κ6 t20 t21 B6 f6 => ?_
          have e6 := f6 _ _ hne e5
          refine ix_memC e6 t20 (by rw [List.length_map]; exact t21) fun d hd => ?_
          obtain ⟨q2, hq2, rfl⟩ := nq_get hd
          (repeat walk_at "st")
          exact hN _ _ ⟨q2, _, _, _, rfl, hz _ hq2, e6, B6.mono (by omega), f5.trans f6⟩
        · (repeat walk_at "st")
          exact hN _ _ ⟨q, _, _, _, rfl, hq, e5, B5.mono (by omega), f5⟩
    obtain ⟨q, w4, w5, w6, rfl, hq, e5, B5, f5⟩ := hM
    clear B4 e4 f24
    refine seq_mid (fun δ κ5 => ∃ (q : Rat) (w4 w5 w6 : Option D), δ = [some (.cell b), some (.cell n), some (.int (0 + (i : Int))), some (.int t), some (nq q), w4, w5, w6] ∧ Dz q ∧ κ5 n = some (.live .lst (qs.map nq)) ∧ Bx b (m + 1 + i * 70 + 66) κ5 ∧ Fr b κ κ5) (fun N hN => ?_) fun δ κ5 hM => ?_
    · (repeat walk_at "st")
      refine e_nwt fun n2 hn2 => ?_
      have hne2 := B5.ne hn2
      refine f_neLq (qs := []) (.inr ⟨n, rfl, kk e5 hn2⟩) (.inr ⟨n2, rfl, kset_same⟩) ?_
      have e6 := kk (c' := .live .lst []) e5 hn2
      have B6 := (B5.set (c := .live .lst []) hne2)
      have f6 : Fr b κ (kset κ5 n2 (.live .lst [])) := f5.trans (.set hn2)
      generalize kset κ5 n2 (.live .lst []) = κ6 at e6 B6 f6
      (repeat walk_at "st")
      refine i_d (fun h0 => ?_) fun h0 => ?_
      · (repeat walk_at "st")
        exact hN _ _ ⟨q, _, _, _, rfl, hq, e6, B6.mono (by omega), f6⟩
      · (repeat walk_at "st")
        refine i_d (fun h1 => ?_) fun h1 => ?_
        · (repeat walk_at "st")
          refine f_lnC e6 ?_
          rw [List.length_map]
          have hlen : 0 < qs.length := by cases qs with | nil => exact absurd rfl h0 | cons _ _ => simp
          (repeat walk_at "st")
          refine take_spec B6 (by omega) (by omega) (by omega) fun t2 κ7 t20 t21 B7 f7 => ?_
          have e7 := f7 _ _ hne e6
          refine ix_memC e7 t20 (by rw [List.length_map]; exact t21) fun d hd => ?_
          obtain ⟨q2, hq2, rfl⟩ := nq_get hd
          have hz2 := hz _ hq2
          refine lpair_q ?_
          (repeat walk_at "st")
          refine take_spec B7 (by omega) (by decide) (by decide) fun t3 κ8 t30 t31 B8 f8 => ?_
          refine ix_mem t30 t31 fun d3 hd3 => ?_
          have h3 : ∃ v : Int, d3 = .int v ∧ (v = 1 ∨ v = -1) := by
            simp only [List.mem_cons, List.not_mem_nil, or_false] at hd3
            rcases hd3 with rfl | rfl
            · exact ⟨1, rfl, .inl rfl⟩
            · exact ⟨-1, rfl, .inr rfl⟩
          obtain ⟨v, rfl, hv⟩ := h3
          have e8 := f8 _ _ hne e7
          have f58 := f6.trans (f7.trans f8)
          (repeat walk_at "st")
          rw [show (10 : Int) ^ Int.toNat 60 = 10 ^ 60 from rfl]
          have hden := q2.den_pos
          have fin : ∀ u : Int, u.natAbs < 10 ^ 60 → N [some (.cell b), some (.cell n), some (.int (0 + (i : Int))), some (.int t), some (nq (Rat.divInt u q2.den)), some (.int q2.num), some (.int q2.den), some (.int (q2.num + v))] κ8 := fun u hu =>
            hN _ _ ⟨_, _, _, _, rfl, div_dz (by omega) hu (by have := hz2.2; omega), e8, B8.mono (by omega), f58⟩
          refine i_d (fun h4 => ?_) fun h4 => ?_
          · (repeat walk_at "st")
            refine lnum_q (by omega) (Nat.lt_trans (by have := hz2.2; omega) (show 10 ^ 60 < 2 ^ 8000 by decide)) ?_
            (repeat walk_at "st")
            exact fin _ (by split at h4 <;> omega)
          · (repeat walk_at "st")
            refine lnum_q (by omega) (Nat.lt_trans (by have := hz2.2; omega) (show 10 ^ 60 < 2 ^ 8000 by decide)) ?_
            (repeat walk_at "st")
            exact fin _ hz2.1
        · (repeat walk_at "st")
          exact hN _ _ ⟨q, _, _, _, rfl, hq, e6, B6.mono (by omega), f6⟩
    obtain ⟨q, w4, w5, w6, rfl, hq, e5, B5, f5⟩ := hM
    (repeat walk_at "st")
    refine isq_cell e5 ?_
    (repeat walk_at "st")
    refine f_app e5 (by rw [List.length_map]; omega) ?_
    refine hL _ _ ⟨qs ++ [q], _, _, _, _, _, _, rfl, by rw [List.length_append, hl]; rfl, fun z hz' => ?_, by rw [kset_same, List.map_append]; rfl, (B5.mono (by omega)).set hne, fun k c hk e => by rw [kset_ne (kne e hn)]; exact f5 k c hk e⟩
    rcases List.mem_append.mp hz' with h | h
    · exact hz z h
    · rw [List.mem_singleton.mp h]; exact hq
/-! lists in order -/
abbrev leQ (a b : Rat) : Bool := decide (a ≤ b)
abbrev srt (qs : List Rat) : List Rat := qs.mergeSort leQ
def insQ (q : Rat) (l : List Rat) : List Rat := l.filter (fun x => leQ x q) ++ [q] ++ l.drop (l.filter (fun x => leQ x q)).length
theorem split_q (q : Rat) : ∀ {l : List Rat}, l.Pairwise (· ≤ ·) → ∃ r, l = l.filter (fun x => leQ x q) ++ r ∧ ∀ x ∈ r, q ≤ x
  | [], _ => ⟨[], rfl, fun _ h => (nomatch h)⟩
  | a :: l, h => by
    have h1 := List.pairwise_cons.mp h
    by_cases ha : a ≤ q
    · obtain ⟨r, e, hr⟩ := split_q q h1.2
      refine ⟨r, ?_, hr⟩
      rw [List.filter_cons_of_pos (by exact decide_eq_true ha), List.cons_append, ← e]
    · have hq : q ≤ a := by rcases Rat.le_total (a := a) (b := q) with z | z; exact absurd z ha; exact z
      refine ⟨a :: l, ?_, fun x hx => ?_⟩
      · have : (a :: l).filter (fun x => leQ x q) = [] := by
          rw [List.filter_eq_nil_iff]
          intro x hx
          rcases List.mem_cons.mp hx with e | e
          · rw [e]; simpa using ha
          · have z := h1.1 x e
            have : ¬ x ≤ q := fun y => ha (Rat.le_trans z y)
            simpa using this
        rw [this]
        rfl
      · rcases List.mem_cons.mp hx with e | e
        · rw [e]; exact hq
        · exact Rat.le_trans hq (h1.1 x e)
theorem ins_ok (q : Rat) {l : List Rat} (h : l.Pairwise (· ≤ ·)) : (insQ q l).Pairwise (· ≤ ·) ∧ (insQ q l).Perm (q :: l) := by
  obtain ⟨r, e, hr⟩ := split_q q h
  have e2 : l.drop (l.filter (fun x => leQ x q)).length = r := by
    conv => lhs; rw [e]
    rw [show ((l.filter (fun x => leQ x q)) ++ r).filter (fun x => leQ x q) = l.filter (fun x => leQ x q) from by rw [← e]]
    exact List.drop_left
  unfold insQ
  rw [e2]
  have hp : (l.filter (fun x => leQ x q) ++ r).Pairwise (· ≤ ·) := by rw [← e]; exact h
  rw [List.pairwise_append] at hp
  refine ⟨?_, ?_⟩
  · rw [List.append_assoc, List.pairwise_append]
    refine ⟨hp.1, ?_, fun a ha b hb => ?_⟩
    · rw [List.singleton_append, List.pairwise_cons]
      exact ⟨hr, hp.2.1⟩
    · have haq : a ≤ q := of_decide_eq_true (List.mem_filter.mp ha).2
      rcases List.mem_cons.mp hb with z | z
      · rw [z]; exact haq
      · exact Rat.le_trans haq (hr b z)
  · have p : (l.filter (fun x => leQ x q) ++ ([q] ++ r)).Perm (q :: (l.filter (fun x => leQ x q) ++ r)) := List.perm_middle
    rw [List.append_assoc]
    rw [← e] at p
    exact p
theorem sorted_uniq : ∀ {l m : List Rat}, l.Pairwise (· ≤ ·) → m.Pairwise (· ≤ ·) → l.Perm m → l = m
  | [], m, _, _, p => (List.Perm.eq_nil p.symm).symm
  | a :: l, [], _, _, p => by have := p.length_eq; simp at this
  | a :: l, b :: m, h, h', p => by
    have h1 := List.pairwise_cons.mp h
    have h2 := List.pairwise_cons.mp h'
    have hab : a ≤ b := by
      rcases List.mem_cons.mp (p.mem_iff.mpr (List.mem_cons_self (a := b) (l := m))) with e | e
      · rw [e]; exact Rat.le_refl
      · exact h1.1 b e
    have hba : b ≤ a := by
      rcases List.mem_cons.mp (p.mem_iff.mp (List.mem_cons_self (a := a) (l := l))) with e | e
      · rw [e]; exact Rat.le_refl
      · exact h2.1 a e
    have e := Rat.le_antisymm hab hba
    subst e
    rw [sorted_uniq h1.2 h2.2 (List.Perm.cons_inv p)]
theorem srt_sorted (qs : List Rat) : (srt qs).Pairwise (· ≤ ·) := by
  have h := List.pairwise_mergeSort (le := leQ) (fun a b c h1 h2 => decide_eq_true (Rat.le_trans (of_decide_eq_true h1) (of_decide_eq_true h2)))
    (fun a b => by
      rcases Rat.le_total (a := a) (b := b) with z | z
      · rw [Bool.or_eq_true]; exact .inl (decide_eq_true z)
      · rw [Bool.or_eq_true]; exact .inr (decide_eq_true z)) qs
  exact h.imp fun z => of_decide_eq_true z
theorem srt_perm (qs : List Rat) : (srt qs).Perm qs := List.mergeSort_perm qs leQ
theorem put_srt : ∀ (qs l : List Rat), l.Pairwise (· ≤ ·) → (qs.foldl (fun l q => insQ q l) l).Pairwise (· ≤ ·) ∧ (qs.foldl (fun l q => insQ q l) l).Perm (qs ++ l)
  | [], l, h => ⟨h, List.Perm.refl _⟩
  | q :: qs, l, h => by
    obtain ⟨h1, h2⟩ := ins_ok q h
    obtain ⟨h3, h4⟩ := put_srt qs (insQ q l) h1
    refine ⟨h3, h4.trans ((List.Perm.append_left qs h2).trans ?_)⟩
    exact List.perm_middle
theorem put_is (qs : List Rat) : qs.foldl (fun l q => insQ q l) [] = srt qs := by
  obtain ⟨h1, h2⟩ := put_srt qs [] .nil
  rw [List.append_nil] at h2
  exact sorted_uniq h1 (srt_sorted qs) (h2.trans (srt_perm qs).symm)
/-! the keys -/
def kfW (W : Int) (d : D) : Int := match d with
  | .int i => i * W
  | .node .tup [.int a, .int b] => a * W.fdiv b
  | _ => 0
theorem kfW_nq (W : Int) (q : Rat) : kfW W (nq q) = q.num * W.fdiv q.den := by
  unfold nq nb
  by_cases h : (q.den : Int) = 1
  · rw [if_pos h, h, Int.fdiv_one]
    rfl
  · rw [if_neg h]
    rfl
theorem kfW_le {W : Int} {p q : Rat} (hW : 0 < W) (hp : (p.den : Int) ∣ W) (hq : (q.den : Int) ∣ W) : decide (kfW W (nq p) ≤ kfW W (nq q)) = leQ p q := by
  rw [kfW_nq, kfW_nq]
  refine decide_eq_decide.mpr ?_
  rw [Rat.le_iff]
  obtain ⟨c, hc⟩ := hp
  obtain ⟨e, he⟩ := hq
  have dp : (0 : Int) < p.den := by have := p.den_pos; omega
  have dq : (0 : Int) < q.den := by have := q.den_pos; omega
  have e1 : W.fdiv p.den = c := by rw [hc]; exact Int.mul_fdiv_cancel_left _ (by omega)
  have e2 : W.fdiv q.den = e := by rw [he]; exact Int.mul_fdiv_cancel_left _ (by omega)
  rw [e1, e2]
  have h1 : p.num * c * ((p.den : Int) * q.den) = p.num * q.den * W := by rw [hc]; grind
  have h2 : q.num * e * ((p.den : Int) * q.den) = q.num * p.den * W := by rw [he]; grind
  have hd : (0 : Int) < (p.den : Int) * q.den := Int.mul_pos dp dq
  constructor
  · intro h
    have := Int.mul_le_mul_of_nonneg_right h (Int.le_of_lt hd)
    rw [h1, h2] at this
    exact Int.le_of_mul_le_mul_right this hW
  · intro h
    have := Int.mul_le_mul_of_nonneg_right h (Int.le_of_lt hW)
    rw [← h1, ← h2] at this
    exact Int.le_of_mul_le_mul_right this hd
theorem keys_srt {W : Int} {qs : List Rat} (hW : 0 < W) (hd : ∀ q ∈ qs, (q.den : Int) ∣ W) : (qs.map nq).mergeSort (fun a b => decide (kfW W a ≤ kfW W b)) = (srt qs).map nq :=
  (List.map_mergeSort (fun a ha b hb => (kfW_le hW (hd a ha) (hd b hb)).symm)).symm
theorem cut_lo {xs : List D} {k : Nat} (h : k ≤ xs.length) : cutD xs (some (k : Int)) none = xs.drop k := by
  unfold cutD
  rw [HT.sIx_nat, HT.sIx_none, Nat.min_eq_left h]
  exact List.take_of_length_le (by rw [List.length_drop]; exact Nat.le_refl _)
theorem nq_at {qs : List Rat} {i : Nat} {d : D} (h : (qs.map nq)[i]? = some d) : ∃ q, qs[i]? = some q ∧ d = nq q := by
  rw [List.getElem?_map] at h
  cases e : qs[i]? with
  | none => rw [e] at h; cases h
  | some q => rw [e] at h; exact ⟨q, rfl, (Option.some.inj h).symm⟩
theorem put_mem {q : Rat} : ∀ {qs l : List Rat}, q ∈ qs.foldl (fun l q => insQ q l) l → l.Pairwise (· ≤ ·) → q ∈ qs ∨ q ∈ l := fun {qs l} h hl => by
  have p := (put_srt qs l hl).2
  rcases List.mem_append.mp (p.mem_iff.mp h) with z | z
  · exact .inl z
  · exact .inr z
theorem put_spec {κ : Kap} {X : Str → List D → Kap → Prop} {Q : DQ} {d : D} {qs : List Rat} (hw : Wk κ d (qs.map nq)) (hz : ∀ q ∈ qs, Sz 600 q) (hl : qs.length ≤ 400)
    (h : ∀ κ', Fa κ κ' → Q (.node .lst ((srt qs).map nq)) κ') : sp__law_put [d] κ X Q := by
  (unfold sp__law_put; refine s_sp rfl ?_; simp only [startD, List.map_cons, List.map_nil, List.length_cons, List.length_nil, Nat.zero_add, Nat.reduceAdd, Nat.reduceSub, List.replicate, List.cons_append, List.nil_append]; unfold b__law_put)
  (repeat walk_at "st")
  refine q_wk hw fun gd hgd => ?_
  refine dl_ix (fun i δ κ' => ∃ (u2 u3 u4 u5 u6 : Option D), δ = [some d, some (.node .lst (((qs.take i).foldl (fun l q => insQ q l) []).map nq)), u2, u3, u4, u5, u6] ∧ Fa κ κ') ?_ ?_ ⟨_, _, _, _, _, rfl, Fa.refl⟩
  · rintro δ κ' ⟨u2, u3, u4, u5, u6, rfl, f⟩
    rw [List.length_map, List.take_length, put_is]
    refine ⟨hgd _ f, ?_⟩
    (repeat walk_at "st")
    exact h _ f
  · rintro i d2 δ κ' L hd hL ⟨u2, u3, u4, u5, u6, rfl, f⟩
    obtain ⟨q, hq, rfl⟩ := nq_at hd
    have hi : i < qs.length := (List.getElem?_eq_some_iff.mp hq).1
    have hqm : q ∈ qs := List.mem_of_getElem? hq
    refine ⟨hgd _ f, ?_⟩
    obtain ⟨l, el⟩ : ∃ l, l = (qs.take i).foldl (fun l q => insQ q l) [] := ⟨_, rfl⟩
    have hsl : l.Pairwise (· ≤ ·) := by rw [el]; exact (put_srt _ _ .nil).1
    have hll : l.length = i := by
      have := (put_srt (qs.take i) [] .nil).2.length_eq
      rw [← el, List.append_nil, List.length_take] at this
      omega
    have hlz : ∀ p ∈ l, Sz 600 p := fun p hp => by
      rw [el] at hp
      rcases put_mem hp .nil with z | z
      · exact hz p (List.mem_of_mem_take z)
      · cases z
    have enext : (qs.take (i + 1)).foldl (fun l q => insQ q l) [] = insQ q l := by
      rw [List.take_add_one, hq]
      show ((qs.take i) ++ [q]).foldl (fun l q => insQ q l) [] = _
      rw [List.foldl_append, el]
      rfl
    rw [← el]
    (repeat walk_at "st")
    refine lpair_q ?_
    (repeat walk_at "st")
    intro n hn
    have zq := hz q hqm
    refine lcLoop_ix (fun j acc κ2 => acc = ((l.take j).filter (fun x => leQ x q)).map nq ∧ κ2 n = some (.live .lst acc) ∧ Fa κ' κ2) ?_ ?_ ⟨rfl, kset_same, Fa.new hn⟩
    · rintro acc κ2 ⟨rfl, e2, f2⟩
      rw [List.length_map, List.take_length] at e2 ⊢
      refine ⟨trivial, e2, ?_⟩
      have f3 := f.trans (f2.put (c := .dead) hn)
      generalize kset κ2 n .dead = κ3 at f3
      have hfl : (l.filter (fun x => leQ x q)).length ≤ l.length := List.length_filter_le _ _
      (repeat walk_at "st")
      refine f_adL (by simp only [List.length_map, List.length_cons, List.length_nil]; unfold sizeLine; omega) ?_
      (repeat walk_at "st")
      rw [List.length_map, cut_lo (by rw [List.length_map]; exact hfl)]
      refine f_adL (by simp only [List.length_append, List.length_map, List.length_drop, List.length_cons, List.length_nil]; unfold sizeLine; omega) ?_
      (repeat walk_at "st")
      have eN : ((qs.take (i + 1)).foldl (fun l q => insQ q l) []).map nq = (l.filter (fun x => leQ x q)).map nq ++ [nq q] ++ (l.map nq).drop (l.filter (fun x => leQ x q)).length := by
        rw [enext]
        unfold insQ
        rw [List.map_append, List.map_append, List.map_drop]
        rfl
      refine hL _ _ ?_
      rw [eN]
      exact ⟨_, _, _, _, _, rfl, f3⟩
    · rintro j d3 acc κ2 M hd3 hM ⟨rfl, e2, f2⟩
      obtain ⟨p, hp, rfl⟩ := nq_at hd3
      have hj : j < l.length := (List.getElem?_eq_some_iff.mp hp).1
      have zp := hlz p (List.mem_of_getElem? hp)
      refine ⟨trivial, ?_⟩
      rw [bi_inl]
      simp only [dwipe, List.set_cons_zero, List.set_cons_succ]
      (repeat walk_at "st")
      refine lpair_q ?_
      (repeat walk_at "st")
      refine f_mul (cmul_of 600 600 zp.1 zq.db (by decide)) ?_
      (repeat walk_at "st")
      refine lpair_q ?_
      (repeat walk_at "st")
      refine f_mul (cmul_of 600 600 zq.1 zp.db (by decide)) ?_
      (repeat walk_at "st")
      have hle : decide (p.num * (q.den : Int) ≤ q.num * (p.den : Int)) = leQ p q := decide_eq_decide.mpr (Rat.le_iff p q).symm
      have etk : (l.take (j + 1)).filter (fun x => leQ x q) = (l.take j).filter (fun x => leQ x q) ++ (if leQ p q = true then [p] else []) := by
        rw [List.take_add_one, hp, List.filter_append]
        congr 1
        by_cases z : leQ p q = true
        · rw [if_pos z]; exact List.filter_cons_of_pos z
        · rw [if_neg z]; exact List.filter_cons_of_neg z
      rw [hle]
      cases z : leQ p q
      · rw [z, if_neg (by decide), List.append_nil] at etk
        (repeat walk_at "st")
        exact hM _ _ ⟨by rw [etk], e2, f2⟩
      · rw [z, if_pos rfl] at etk
        (repeat walk_at "st")
        refine ⟨e2, by rw [List.length_map]; have := List.length_filter_le (fun x => leQ x q) (l.take j); rw [List.length_take] at this; unfold sizeLine; omega, hM _ _ ⟨?_, kset_same, ?_⟩⟩
        · rw [etk, List.map_append]; rfl
        · exact fun m c hc => by rw [kset_ne (kne hc hn)]; exact f2 m c hc
section
variable {κ : Kap} {X : Str → List D → Kap → Prop} {Q : DQ} {d : D} {qs : List Rat}
theorem wk_view {xs : List D} (w : Wk κ d xs) : ∃ k, view d κ = some (k, xs) ∧ (k = .lst ∨ k = .tup ∨ k = .klst) := by
  cases w with
  | lst => exact ⟨_, rfl, .inl rfl⟩
  | tup => exact ⟨_, rfl, .inr (.inl rfl)⟩
  | cell e => exact ⟨_, vw_cell e, .inl rfl⟩
theorem isi_lt {xs : List D} (w : Wk κ d xs) (h : Q (.bl true) κ) : fIsi kt [d, .node .tup [.ty "list", .ty "tuple"]] κ Q := by
  cases w with
  | lst => exact ⟨_, _, rfl, by decide +kernel, h⟩
  | tup => exact ⟨_, _, rfl, by decide +kernel, h⟩
  | cell e => exact ⟨_, _, ty_cell e, by decide +kernel, h⟩
theorem need_spec (hw : Wk κ d (qs.map nq)) (hl : qs.length ≤ 400) (h : Q .non κ) : sp_need_numbers [d] κ X Q := by
  (unfold sp_need_numbers; refine s_sp rfl ?_; simp only [startD, List.map_cons, List.map_nil, List.length_cons, List.length_nil, Nat.zero_add, Nat.reduceAdd, Nat.reduceSub, List.replicate, List.cons_append, List.nil_append]; unfold b_need_numbers)
  (repeat walk_at "st")
  refine isi_lt hw ?_
  (repeat walk_at "st")
  refine f_lnW hw ?_
  rw [List.length_map]
  (repeat walk_at "st")
  refine q_wk hw fun gd hgd => ?_
  refine dl_ix (fun i δ κ' => κ' = κ ∧ ∃ u : Option D, δ = [some d, u]) ?_ ?_ ⟨rfl, _, rfl⟩
  · rintro δ κ' ⟨rfl, u, rfl⟩
    refine ⟨hgd _ Fa.refl, ?_⟩
    (repeat walk_at "st")
    exact h
  · rintro i d2 δ κ' L hd hL ⟨rfl, u, rfl⟩
    obtain ⟨q, hq, rfl⟩ := nq_at hd
    refine ⟨hgd _ Fa.refl, ?_⟩
    (repeat walk_at "st")
    refine pair_q ?_
    (repeat walk_at "st")
    exact hL _ _ ⟨rfl, _, rfl⟩
end
/-! how long a list's numbers are, together -/
def bq (q : Rat) : Nat := Nat.log2 q.num.natAbs + Nat.log2 q.den + 1
theorem bq_sz (q : Rat) : Sz (bq q) q := by
  have h1 : q.num.natAbs < 2 ^ (Nat.log2 q.num.natAbs + 1) := Nat.lt_log2_self
  have h2 : q.den < 2 ^ (Nat.log2 q.den + 1) := Nat.lt_log2_self
  exact ⟨Nat.lt_of_lt_of_le h1 (Nat.pow_le_pow_right (by decide) (by unfold bq; omega)), Nat.lt_of_lt_of_le h2 (Nat.pow_le_pow_right (by decide) (by unfold bq; omega))⟩
def wt (qs : List Rat) : Nat := (qs.map fun q => bq q + 1).sum
theorem wt_cons (q : Rat) (qs : List Rat) : wt (q :: qs) = bq q + 1 + wt qs := by unfold wt; rw [List.map_cons, List.sum_cons]
theorem wt_app (ps qs : List Rat) : wt (ps ++ qs) = wt ps + wt qs := by unfold wt; rw [List.map_append, List.sum_append]
theorem wt_take (qs : List Rat) (i : Nat) : wt (qs.take i) ≤ wt qs := by
  conv => rhs; rw [← List.take_append_drop i qs, wt_app]
  omega
theorem wt_next {qs : List Rat} {i : Nat} {q : Rat} (h : qs[i]? = some q) : wt (qs.take (i + 1)) = wt (qs.take i) + bq q + 1 := by
  rw [List.take_add_one, h, wt_app]
  show _ + wt [q] = _
  rw [wt_cons]
  show _ + (bq q + 1 + 0) = _
  omega
/-- a list that can be put in order and added up -/
structure GL (qs : List Rat) : Prop where
  wt : wt qs ≤ 6000
  len : qs.length ≤ 400
  sz : ∀ q ∈ qs, Sz 600 q
def tbC (m : Nat) : Cell := .live (.tbk "rising") (List.replicate m (codD "rising"))
def Kt (κ : Kap) : Prop := ∃ m, κ 0 = some (tbC m)
theorem e_sortLam {m : Bool} {x : Str} {js : List Nat} {sp : DSp} {as : DA} {δ : DEnv} {κ : Kap} {X : DX} {Q : DQ} (h : as δ κ X fun ds κ1 => ∃ d n q cs, ds = [d] ∧ κ1 n = some (.live (.tbk x) (List.replicate q (codD x))) ∧ js.map (fun j => δ[j]?) = cs.map (fun c => some (some c)) ∧
  ∀ q', (q' = q ∨ q' = q + 1) → ∃ (xs : List D) (kf : D → Int), (∃ k, view d (kset κ1 n (.live (.tbk x) (List.replicate q' (codD x)))) = some (k, xs) ∧ (k = .lst ∨ k = .tup ∨ k = .klst)) ∧
    (∀ y, y ∈ xs → ∀ (XD : Str → List D → Kap → Prop) (QD : DQ), QD (.int (kf y)) (kset κ1 n (.live (.tbk x) (List.replicate q' (codD x)))) → sp (y :: cs) (kset κ1 n (.live (.tbk x) (List.replicate q' (codD x)))) XD QD) ∧
    fNew m .lst (xs.mergeSort fun a b => decide (kf a ≤ kf b)) (kset κ1 n (.live (.tbk x) (List.replicate q' (codD x)))) Q) : dSortLam m x js sp as δ κ X Q := h
theorem Wk.not0 {κ : Kap} {d : D} {xs : List D} (w : Wk κ d xs) (hK : Kt κ) {κ' : Kap} (f : Fr 0 κ κ') : Wk κ' d xs := by
  cases w with
  | lst => exact .lst
  | tup => exact .tup
  | cell e => exact .cell (f _ _ (fun z => by obtain ⟨m, hm⟩ := hK; rw [z, hm] at e; cases e) e)
theorem key_spec {κ : Kap} {X : Str → List D → Kap → Prop} {Q : DQ} {q : Rat} {W : Int} (hz : Sz 600 q) (hW : W.natAbs < 2 ^ 6001) (h : Q (.int (kfW W (nq q))) κ) : spl_rising_0 [nq q, .int W] κ X Q := by
  rw [kfW_nq] at h
  have hd := q.den_pos
  have hb : (W.fdiv q.den).natAbs < 2 ^ 6002 := Nat.lt_of_le_of_lt (fdiv_abs_le (by omega)) (by rw [Nat.pow_succ]; have := Nat.one_le_two_pow (n := 6001); omega)
  unfold spl_rising_0
  refine ⟨rfl, ?_⟩
  simp only [startD, List.map_cons, List.map_nil, List.length_cons, List.length_nil, Nat.zero_add, Nat.reduceAdd, Nat.reduceSub, List.replicate, List.cons_append, List.nil_append]
  unfold bl_rising_0
  (repeat walk_at "st")
  refine pair_q ?_
  (repeat walk_at "st")
  refine pair_q ?_
  (repeat walk_at "st")
  refine f_div (cdiv_of 600 (by omega) hz.db (by decide)) ?_
  (repeat walk_at "st")
  exact f_mul (cmul_of 600 6002 hz.1 hb (by decide)) h
theorem rv_Ct {κ : Kap} {Q : DQ} {n : Nat} {ys : List D} (e : κ n = some (.live .lst ys)) (h : fNew true .lst ys.reverse κ Q) : fRev true (.cell n) κ Q := ⟨ys, vw_cell e, h⟩
theorem rising_spec {κ : Kap} {X : Str → List D → Kap → Prop} {Q : DQ} {d : D} {qs : List Rat} {down : Bool} (hw : Wk κ d (qs.map nq)) (hK : Kt κ) (G : GL qs)
    (h : ∀ n κ', κ n = none → κ' n = some (.live .lst ((if down = true then (srt qs).reverse else srt qs).map nq)) → Kt κ' → Fr 0 κ κ' → Q (.cell n) κ') : sp_rising [d, .bl down] κ X Q := by
  have p2 : (2 : Nat) ^ wt qs ≤ 2 ^ 6000 := Nat.pow_le_pow_right (by decide) G.wt
  (unfold sp_rising; refine s_sp rfl ?_; simp only [startD, List.map_cons, List.map_nil, List.length_cons, List.length_nil, Nat.zero_add, Nat.reduceAdd, Nat.reduceSub, List.replicate, List.cons_append, List.nil_append]; unfold b_rising)
  (repeat walk_at "st")
  refine need_spec hw G.len ?_
  (repeat walk_at "st")
  refine q_wk hw fun gd hgd => ?_
  refine dl_ix (fun i δ κ' => κ' = κ ∧ ∃ (W : Int) (u3 u4 u5 : Option D), δ = [some d, some (.bl down), some (.int W), u3, u4, u5, none] ∧ 0 < W ∧ W.natAbs ≤ 2 ^ wt (qs.take i) ∧ ∀ q ∈ qs.take i, (q.den : Int) ∣ W) ?_ ?_
    ⟨rfl, 1, _, _, _, rfl, by decide, Nat.one_le_two_pow, fun q hq => (nomatch hq)⟩
  · rintro δ κ' ⟨rfl, W, u3, u4, u5, rfl, hW, hb, hd⟩
    rw [List.length_map, List.take_length] at hb hd
    refine ⟨hgd _ Fa.refl, ?_⟩
    obtain ⟨m, hm⟩ := hK
    (repeat walk_at "st")
    refine e_sortLam ?_
    (repeat walk_at "st")
    refine ⟨d, 0, m, [.int W], rfl, hm, rfl, fun q' hq' => ⟨qs.map nq, kfW W, ?_, fun y hy XD QD hQ => ?_, ?_⟩⟩
    · exact wk_view (Wk.not0 hw ⟨m, hm⟩ (fun n c hn e => by rw [kset_ne hn]; exact e))
    · obtain ⟨q, hq, rfl⟩ := nq_get hy
      exact key_spec (G.sz q hq) (Nat.lt_of_le_of_lt (Nat.le_trans hb p2) (by rw [Nat.pow_succ]; have := Nat.one_le_two_pow (n := 6000); omega)) hQ
    · rw [keys_srt hW hd]
      refine e_nwt fun n hn => ?_
      have n0 : n ≠ 0 := fun z => by rw [z, kset_same] at hn; cases hn
      have hn1 : κ' n = none := by rw [kset_ne n0] at hn; exact hn
      have f1 : Fr 0 κ' (kset κ' 0 (tbC q')) := .box
      have e1 : kset (kset κ' 0 (tbC q')) n (.live .lst ((srt qs).map nq)) n = some (.live .lst ((srt qs).map nq)) := kset_same
      have K1 : Kt (kset (kset κ' 0 (tbC q')) n (.live .lst ((srt qs).map nq))) := ⟨q', by rw [kset_ne (Ne.symm n0), kset_same]⟩
      have f2 : Fr 0 κ' (kset (kset κ' 0 (tbC q')) n (.live .lst ((srt qs).map nq))) := f1.trans (.set hn)
      change (gN 6 (D.cell n)) _ (kset (kset κ' 0 (tbC q')) n (.live .lst ((srt qs).map nq))) _ _
      generalize kset (kset κ' 0 (tbC q')) n (.live .lst ((srt qs).map nq)) = κ3 at e1 K1 f2
      cases down
      · (repeat walk_at "st")
        exact h n κ3 hn1 e1 K1 f2
      · (repeat walk_at "st")
        refine rv_Ct e1 ?_
        refine e_nwt fun n2 hn2 => ?_
        have hn3 : κ' n2 = none := by
          cases z : κ' n2 with
          | none => rfl
          | some c0 =>
            by_cases z0 : n2 = 0
            · rw [z0] at hn2; obtain ⟨m2, q2⟩ := K1; rw [q2] at hn2; cases hn2
            · rw [f2 _ _ z0 z] at hn2; cases hn2
        refine h n2 _ hn3 (by rw [if_pos rfl, kset_same, List.map_reverse]) ?_ (f2.trans (.set hn2))
        obtain ⟨m2, q2⟩ := K1
        exact ⟨m2, kk q2 hn2⟩
  · rintro i d2 δ κ' L hd hL ⟨rfl, W, u3, u4, u5, rfl, hW, hb, hdv⟩
    obtain ⟨q, hq, rfl⟩ := nq_at hd
    have hqm : q ∈ qs := List.mem_of_getElem? hq
    have zq := bq_sz q
    have hd0 := q.den_pos
    refine ⟨hgd _ Fa.refl, ?_⟩
    (repeat walk_at "st")
    refine pair_q ?_
    (repeat walk_at "st")
    have hmul : L2.CMulW W q.den := cmul_of 6001 600 (Nat.lt_of_le_of_lt (Nat.le_trans hb (Nat.le_trans (Nat.pow_le_pow_right (by decide) (wt_take qs i)) p2)) (by rw [Nat.pow_succ]; have := Nat.one_le_two_pow (n := 6000); omega)) (G.sz q hqm).db (by decide)
    refine f_mul hmul ?_
    (repeat walk_at "st")
    refine common_part_spec ?_
    (repeat walk_at "st")
    have hg : Int.gcd W q.den ≠ 0 := Nat.ne_of_gt (Int.gcd_pos_of_ne_zero_left _ (by omega))
    have hgl : Int.gcd W q.den ≤ q.den := Nat.le_of_dvd hd0 (by have := Int.gcd_dvd_right W (q.den : Int); exact Int.natCast_dvd_natCast.mp this)
    refine f_div (cdiv_of 600 (by omega) (by have := (G.sz q hqm).2; omega) (by decide)) ?_
    (repeat walk_at "st")
    obtain ⟨c, hc⟩ := Int.gcd_dvd_left W (q.den : Int)
    obtain ⟨e, he⟩ := Int.gcd_dvd_right W (q.den : Int)
    generalize hgg : (Int.gcd W (q.den : Int)) = g at hg hgl hc he
    have ew : (W * (q.den : Int)).fdiv g = c * q.den := by
      rw [show W * (q.den : Int) = g * (c * q.den) from by rw [← Int.mul_assoc, ← hc]]
      exact Int.mul_fdiv_cancel_left _ (by omega)
    have ew2 : c * (q.den : Int) = W * e := by
      have : (g : Int) * (c * q.den) = g * (W * e) := by
        rw [← Int.mul_assoc, ← hc, Int.mul_comm (g : Int), Int.mul_assoc, Int.mul_comm e, ← he]
      exact Int.eq_of_mul_eq_mul_left (by omega) this
    have hc0 : 0 < c := Int.pos_of_mul_pos_right (a := (g : Int)) (by rw [← hc]; exact hW) (by omega)
    rw [ew]
    refine hL _ _ ⟨rfl, _, _, _, _, rfl, Int.mul_pos hc0 (by omega), ?_, fun p hp => ?_⟩
    · rw [wt_next hq, Nat.add_assoc, Nat.pow_add, Int.natAbs_mul]
      refine Nat.mul_le_mul (Nat.le_trans ?_ hb) (Nat.le_trans (Nat.le_of_lt zq.db) (Nat.pow_le_pow_right (by decide) (by omega)))
      rw [hc, Int.natAbs_mul]
      exact Nat.le_mul_of_pos_left _ (by omega)
    · rw [List.take_add_one, hq] at hp
      rcases List.mem_append.mp hp with z | z
      · rw [ew2]
        exact Int.dvd_trans (hdv p z) (Int.dvd_mul_right _ _)
      · rw [List.mem_singleton.mp z]
        exact Int.dvd_mul_left _ _
/-! sums -/
def tot (s : Rat) (qs : List Rat) : Rat := qs.foldl (fun a q => a + q) s
theorem tot_next {s : Rat} {qs : List Rat} {i : Nat} {q : Rat} (h : qs[i]? = some q) : tot s (qs.take (i + 1)) = tot s (qs.take i) + q := by
  unfold tot
  rw [List.take_add_one, h]
  show List.foldl _ s (List.take i qs ++ [q]) = _
  rw [List.foldl_append]
  rfl
theorem tot_sz {s : Rat} {k : Nat} (hs : Sz k s) (qs : List Rat) : ∀ i, i ≤ qs.length → Sz (k + wt (qs.take i)) (tot s (qs.take i))
  | 0, _ => hs
  | i + 1, h => by
    have hi : i < qs.length := by omega
    have e : qs[i]? = some qs[i] := List.getElem?_eq_getElem hi
    rw [tot_next e, wt_next e]
    exact ((tot_sz hs qs i (by omega)).add (bq_sz _)).mono (by omega)
theorem bq_le {qs : List Rat} {q : Rat} (h : q ∈ qs) : bq q + 1 ≤ wt qs := by
  induction qs with
  | nil => cases h
  | cons p qs ih =>
    rw [wt_cons]
    rcases List.mem_cons.mp h with e | e
    · rw [e]; omega
    · have := ih e; omega
theorem total_spec {κ : Kap} {X : Str → List D → Kap → Prop} {Q : DQ} {d : D} {qs : List Rat} {s : Rat} (hw : Wk κ d (qs.map nq)) (G : GL qs) (hs : Sz 600 s)
    (h : Q (nq (tot s qs)) κ) : sp_total [d, nq s] κ X Q := by
  have Gw := G.wt
  (unfold sp_total; refine s_sp rfl ?_; simp only [startD, List.map_cons, List.map_nil, List.length_cons, List.length_nil, Nat.zero_add, Nat.reduceAdd, Nat.reduceSub, List.replicate, List.cons_append, List.nil_append]; unfold b_total)
  (repeat walk_at "st")
  refine need_spec hw G.len ?_
  (repeat walk_at "st")
  refine plus_q (q := ((0 : Int) : Rat)) hs (Sz.int (k := 1) (by decide) (by decide)) (by decide) ?_
  rw [show ((0 : Int) : Rat) = 0 from rfl, Rat.add_zero]
  (repeat walk_at "st")
  refine q_wk hw fun gd hgd => ?_
  refine dl_ix (fun i δ κ' => κ' = κ ∧ ∃ u : Option D, δ = [some d, some (nq s), some (nq (tot s (qs.take i))), u]) ?_ ?_ ⟨rfl, _, rfl⟩
  · rintro δ κ' ⟨rfl, u, rfl⟩
    rw [List.length_map, List.take_length]
    refine ⟨hgd _ Fa.refl, ?_⟩
    (repeat walk_at "st")
    exact h
  · rintro i d2 δ κ' L hd hL ⟨rfl, u, rfl⟩
    obtain ⟨q, hq, rfl⟩ := nq_at hd
    have hi : i < qs.length := (List.getElem?_eq_some_iff.mp hq).1
    have hb := bq_le (List.mem_of_getElem? hq)
    have ht := wt_take qs i
    refine ⟨hgd _ Fa.refl, ?_⟩
    (repeat walk_at "st")
    refine plus_q (tot_sz hs qs i (by omega)) ((G.sz q (List.mem_of_getElem? hq))) (by omega) ?_
    (repeat walk_at "st")
    refine hL _ _ ⟨rfl, ?_⟩
    rw [tot_next hq]
    exact ⟨_, rfl⟩
theorem lsum_spec {κ : Kap} {X : Str → List D → Kap → Prop} {Q : DQ} {d : D} {qs : List Rat} {s : Rat} (hw : Wk κ d (qs.map nq)) (G : GL qs) (hs : Sz 600 s)
    (h : Q (nq (tot s qs)) κ) : sp__law_sum [d, nq s] κ X Q := by
  have Gw := G.wt
  (unfold sp__law_sum; refine s_sp rfl ?_; simp only [startD, List.map_cons, List.map_nil, List.length_cons, List.length_nil, Nat.zero_add, Nat.reduceAdd, Nat.reduceSub, List.replicate, List.cons_append, List.nil_append]; unfold b__law_sum)
  (repeat walk_at "st")
  refine lpair_q ?_
  (repeat walk_at "st")
  refine q_wk hw fun gd hgd => ?_
  refine dl_ix (fun i δ κ' => κ' = κ ∧ ∃ u4 u5 u6 : Option D, δ = [some d, some (nq s), some (.int (tot s (qs.take i)).num), some (.int (tot s (qs.take i)).den), u4, u5, u6]) ?_ ?_ ⟨rfl, _, _, _, rfl⟩
  · rintro δ κ' ⟨rfl, u4, u5, u6, rfl⟩
    rw [List.length_map, List.take_length]
    refine ⟨hgd _ Fa.refl, ?_⟩
    have z := tot_sz hs qs qs.length (Nat.le_refl _)
    rw [List.take_length] at z
    have hd := (tot s qs).den_pos
    (repeat walk_at "st")
    refine lnum_q (by omega) (bd_mono z.db (by omega)) ?_
    rw [Rat.num_divInt_den]
    exact h
  · rintro i d2 δ κ' L hd hL ⟨rfl, u4, u5, u6, rfl⟩
    obtain ⟨q, hq, rfl⟩ := nq_at hd
    have hi : i < qs.length := (List.getElem?_eq_some_iff.mp hq).1
    have hb := bq_le (List.mem_of_getElem? hq)
    have ht := wt_take qs i
    have z := tot_sz hs qs i (by omega)
    have zq := G.sz q (List.mem_of_getElem? hq)
    refine ⟨hgd _ Fa.refl, ?_⟩
    (repeat walk_at "st")
    refine lpair_q ?_
    (repeat walk_at "st")
    refine f_mul (cmul_of _ 600 z.1 zq.db (by omega)) ?_
    (repeat walk_at "st")
    refine f_mul (cmul_of 600 _ zq.1 z.db (by omega)) ?_
    (repeat walk_at "st")
    refine f_mul (cmul_of _ 600 z.db zq.db (by omega)) ?_
    (repeat walk_at "st")
    refine lnum_q (Sz.dd _ _) (bd_mono (mul_bd z.db zq.db) (by omega)) ?_
    rw [← q_add, ← tot_next hq]
    refine lpair_q ?_
    (repeat walk_at "st")
    exact hL _ _ ⟨rfl, _, _, _, rfl⟩
theorem srt_len (qs : List Rat) : (srt qs).length = qs.length := List.length_mergeSort ..
theorem srt_mem {qs : List Rat} {q : Rat} (h : q ∈ srt qs) : q ∈ qs := List.mem_mergeSort.mp h
section
variable {κ : Kap} {X : Str → List D → Kap → Prop} {Q : DQ} {d : D} {qs : List Rat}
theorem up_spec (hw : Wk κ d (qs.map nq)) (hK : Kt κ) (G : GL qs) (h : ∀ n κ', κ n = none → κ' n = some (.live .lst ((srt qs).map nq)) → Kt κ' → Fr 0 κ κ' → Q (.cell n) κ') : sp_rising [d, .bl false] κ X Q :=
  rising_spec (down := false) hw hK G fun n κ' h1 h2 => h n κ' h1 h2
theorem dn_spec (hw : Wk κ d (qs.map nq)) (hK : Kt κ) (G : GL qs) (h : ∀ n κ', κ n = none → κ' n = some (.live .lst ((srt qs).reverse.map nq)) → Kt κ' → Fr 0 κ κ' → Q (.cell n) κ') : sp_rising [d, .bl true] κ X Q :=
  rising_spec (down := true) hw hK G fun n κ' h1 h2 => h n κ' h1 h2
theorem zero_spec (hw : Wk κ d (qs.map nq)) (G : GL qs) (h : Q (nq (tot 0 qs)) κ) : sp_total [d, .int 0] κ X Q :=
  total_spec (s := ((0 : Int) : Rat)) hw G (Sz.int (k := 600) (by decide) (by decide)) h
theorem lzero_spec (hw : Wk κ d (qs.map nq)) (G : GL qs) (h : Q (nq (tot 0 qs)) κ) : sp__law_sum [d, .int 0] κ X Q :=
  lsum_spec (s := ((0 : Int) : Rat)) hw G (Sz.int (k := 600) (by decide) (by decide)) h
/-! what is told -/
def rowP (qs : List Rat) : PyData := .list (qs.map nqP)
def P3 (qs : List Rat) : PyData := .list [rowP (srt qs), rowP (srt qs).reverse, rowP (srt qs)]
theorem nqP_sh {q : Rat} (h : Sz 600 q) : Sh 3852 (nqP q) := by
  have h1 : q.num.natAbs.log2 < 1920 := Nat.lt_of_le_of_lt (log_lt h.1) (by decide)
  have h2 : ((q.den : Int)).natAbs.log2 < 1920 := Nat.lt_of_le_of_lt (log_lt h.db) (by decide)
  unfold nqP nbP
  split
  · exact (Sh.int h1).mono (by decide)
  · have := Sh.tuple (n := 1921) (ps := [.int q.num, .int q.den]) fun p hp => by
      simp only [List.mem_cons, List.not_mem_nil, or_false] at hp
      rcases hp with rfl | rfl
      · exact Sh.int h1
      · exact Sh.int h2
    exact this.mono (by simp only [List.length_cons, List.length_nil]; decide)
theorem rowP_sh (hl : qs.length ≤ 400) (hz : ∀ q ∈ qs, Sz 600 q) : Sh 1541602 (rowP qs) := by
  have := Sh.list (n := 3852) (ps := qs.map nqP) fun p hp => by
    obtain ⟨q, hq, rfl⟩ := List.mem_map.mp hp
    exact nqP_sh (hz q hq)
  rw [List.length_map] at this
  exact this.mono (by omega)
theorem rowP_sp (qs : List Rat) : Sp 2 (rowP qs) := Sp.list (k := 1) fun p hp => by
  obtain ⟨q, _, rfl⟩ := List.mem_map.mp hp
  exact nqP_sp q
theorem P3_sh (G : GL qs) : Sh 4624814 (P3 qs) := by
  have a : Sh 1541602 (rowP (srt qs)) := rowP_sh (by rw [srt_len]; exact G.len) fun q hq => G.sz q (srt_mem hq)
  have b : Sh 1541602 (rowP (srt qs).reverse) := rowP_sh (by rw [List.length_reverse, srt_len]; exact G.len) fun q hq => G.sz q (srt_mem (List.mem_reverse.mp hq))
  exact (Sh.list (n := 1541602) (ps := [rowP (srt qs), rowP (srt qs).reverse, rowP (srt qs)]) fun p hp => by
    simp only [List.mem_cons, List.not_mem_nil, or_false] at hp
    rcases hp with rfl | rfl | rfl
    · exact a
    · exact b
    · exact a).mono (by simp only [List.length_cons, List.length_nil]; decide)
theorem P3_sp (qs : List Rat) : Sp 3 (P3 qs) := Sp.list (k := 2) fun p hp => by
  simp only [List.mem_cons, List.not_mem_nil, or_false] at hp
  rcases hp with rfl | rfl | rfl <;> exact rowP_sp _
theorem repr3 (G : GL qs) {x : D} (hp : Pd κ x (P3 qs)) (h : Q (.str (P3 qs).shown) κ) : fRepr [x] κ Q :=
  repr_pd hp (P3_sh G).1 (Nat.le_trans (P3_sp qs).2 (by decide)) (Nat.le_trans (P3_sh G).2.1 (by decide)) h
theorem row_pd {x : D} {ps : List Rat} (h : view x κ = some (.lst, ps.map nq)) : Pd κ x (rowP ps) := .lst h (pdL_of (pdL_nq ps))
theorem rows3_pd {a b c : D} (ha : view a κ = some (.lst, (srt qs).map nq)) (hb : view b κ = some (.lst, (srt qs).reverse.map nq)) (hc : view c κ = some (.lst, (srt qs).map nq)) : Pd κ (.node .lst [a, b, c]) (P3 qs) :=
  .lst (xs := [a, b, c]) rfl (.cons (row_pd ha) (.cons (row_pd hb) (.cons (row_pd hc) .nil)))
theorem f_neLq' {x y : D} {ps : List Rat} (hx : Lq κ x ps) (hy : Lq κ y ps) (h : Q (.bl false) κ) : fNe x y κ Q := f_neLq hx hy (by rw [decide_eq_true rfl]; exact h)
theorem f_eqLq' {x y : D} {ps : List Rat} (hx : Lq κ x ps) (hy : Lq κ y ps) (h : Q (.bl true) κ) : fEq x y κ Q := f_eqLq hx hy (by rw [decide_eq_true rfl]; exact h)
theorem tup_q (hx : Lq κ d qs) (h : Q (.node .tup (qs.map nq)) κ) : fTup d κ Q := by
  rcases hx with rfl | ⟨n, rfl, e⟩
  · exact tp_L h
  · exact tp_C e h
theorem listof_q {m : Bool} (hw : Wk κ d (qs.map nq)) (h : fNew m .lst (qs.map nq) κ Q) : fListOf m [d] κ Q := by
  obtain ⟨k, hv, hk⟩ := wk_view hw
  exact ⟨_, ⟨k, hv, hk⟩, h⟩
/-- what is handed in -/
def Hn (κ : Kap) (t : Bool) (h : D) (qs : List Rat) : Prop := (t = true ∧ h = .node .tup (qs.map nq)) ∨ (t = false ∧ ∃ n, h = .cell n ∧ κ n = some (.live .lst (qs.map nq)))
theorem Hn.wk {t : Bool} {h : D} (H : Hn κ t h qs) : Wk κ h (qs.map nq) := by
  rcases H with ⟨_, rfl⟩ | ⟨_, n, rfl, e⟩
  · exact .tup
  · exact .cell e
theorem not0 {n : Nat} {xs : List D} (hK : Kt κ) (e : κ n = some (.live .lst xs)) : n ≠ 0 := fun z => by
  obtain ⟨m, hm⟩ := hK
  rw [z, hm] at e
  cases e
theorem new0 {n : Nat} (hK : Kt κ) (e : κ n = none) : n ≠ 0 := fun z => by
  obtain ⟨m, hm⟩ := hK
  rw [z, hm] at e
  cases e
theorem Hn.fr {κ' : Kap} {t : Bool} {h : D} (H : Hn κ t h qs) (hK : Kt κ) (f : Fr 0 κ κ') : Hn κ' t h qs := by
  rcases H with ⟨a, b⟩ | ⟨a, n, b, e⟩
  · exact .inl ⟨a, b⟩
  · exact .inr ⟨a, n, b, f _ _ (not0 hK e) e⟩
theorem Lq.fr {κ' : Kap} (H : Lq κ d qs) (hK : Kt κ) (f : Fr 0 κ κ') : Lq κ' d qs := by
  rcases H with a | ⟨n, b, e⟩
  · exact .inl a
  · exact .inr ⟨n, b, f _ _ (not0 hK e) e⟩
theorem Kt.fa {κ' : Kap} (hK : Kt κ) (f : Fa κ κ') : Kt κ' := let ⟨m, h⟩ := hK; ⟨m, f _ _ h⟩
theorem Kt.set {n : Nat} {c : Cell} (hK : Kt κ) (hn : n ≠ 0) : Kt (kset κ n c) := let ⟨m, h⟩ := hK; ⟨m, by rw [kset_ne hn.symm]; exact h⟩
theorem fa_fr {κ' : Kap} {b : Nat} (f : Fa κ κ') : Fr b κ κ' := fun n c _ e => f n c e
theorem fr_none {κ' : Kap} {n : Nat} (hK : Kt κ) (f : Fr 0 κ κ') (K' : Kt κ') (e : κ' n = none) : κ n = none := by
  cases z : κ n with
  | none => rfl
  | some c => rw [f n c (new0 K' e) z] at e; cases e
/-- the state between -/
structure Ls (κ0 : Kap) (t : Bool) (h : D) (qs : List Rat) (κ : Kap) : Prop where
  hn : Hn κ t h qs
  kt : Kt κ
  fr : Fr 0 κ0 κ
  nw : ∀ n, h = .cell n → κ0 n = none
theorem Ls.set {κ0 : Kap} {t : Bool} {h : D} {n : Nat} {c : Cell} (L : Ls κ0 t h qs κ) (K0 : Kt κ0) (e0 : κ0 n = none) (hne : h ≠ .cell n) : Ls κ0 t h qs (kset κ n c) := by
  refine ⟨?_, L.kt.set (new0 K0 e0), L.fr.put e0, L.nw⟩
  rcases L.hn with ⟨a, b⟩ | ⟨a, m, b, e⟩
  · exact .inl ⟨a, b⟩
  · refine .inr ⟨a, m, b, ?_⟩
    rw [kset_ne (fun z => hne (by rw [b, z]))]
    exact e
theorem Ls.fr' {κ0 κ' : Kap} {t : Bool} {h : D} (L : Ls κ0 t h qs κ) (K' : Kt κ') (f : Fr 0 κ κ') : Ls κ0 t h qs κ' := ⟨L.hn.fr L.kt f, K', L.fr.trans f, L.nw⟩
theorem Hn.ne {t : Bool} {h : D} {n : Nat} (H : Hn κ t h qs) (e : κ n = none) : h ≠ .cell n := fun z => by
  rcases H with ⟨_, b⟩ | ⟨_, m, b, e'⟩
  · rw [b] at z; cases z
  · rw [b] at z
    cases z
    rw [e] at e'
    cases e'
end
theorem i_zip {as : DA} {δ : DEnv} {κ : Kap} {X : DX} {QI : List D → (Kap → Prop) → Kap → Prop} (h : as δ κ X (zQ QI)) : iZipD as δ κ X QI := h
theorem zq_23 {κ : Kap} {QI : List D → (Kap → Prop) → Kap → Prop} {a1 a2 a3 b1 b2 b3 : D} (h : ∀ gd : Kap → Prop, (∀ κ', gd κ') → QI [.node .tup [a1, b1], .node .tup [a2, b2], .node .tup [a3, b3]] gd κ) : zQ QI [.node .lst [a1, a2, a3], .node .lst [b1, b2, b3]] κ := by
  refine ⟨.inl rfl, [(.lst, true), (.lst, true)], [[a1, a2, a3], [b1, b2, b3]], 3, rfl, rfl, ?_, ⟨_, List.mem_cons_self, rfl⟩, h _ ?_⟩
  · intro j x hx
    match j, hx with
    | 0, hx => cases hx; exact ⟨_, _, _, rfl, rfl, rfl, Nat.le_refl _, rfl⟩
    | 1, hx => cases hx; exact ⟨_, _, _, rfl, rfl, rfl, Nat.le_refl _, rfl⟩
    | j + 2, hx => simp at hx
  · intro κ' j x hx
    match j, hx with
    | 0, hx => cases hx; rfl
    | 1, hx => cases hx; rfl
    | j + 2, hx => simp at hx
theorem isi_hn {κ : Kap} {Q : DQ} {t : Bool} {h : D} {qs : List Rat} (H : Hn κ t h qs) (q : Q (.bl (!t)) κ) : fIsi kt [h, .ty "list"] κ Q := by
  rcases H with ⟨rfl, rfl⟩ | ⟨rfl, n, rfl, e⟩
  · exact ⟨_, _, rfl, by decide +kernel, q⟩
  · exact ⟨_, _, ty_cell e, by decide +kernel, q⟩
set_option maxHeartbeats 4000000 in
theorem lists_spec {κ : Kap} {X : Str → List D → Kap → Prop} {Q : DQ} {d : D} {qs : List Rat} {s : Rat} {t : Bool} (hd : Lq κ d qs) (hK : Kt κ) (G : GL qs) (hs : Sz 600 s)
    (h : ∀ κ', Kt κ' → Fr 0 κ κ' → Q (.bl true) κ') : sp__law_lists_right [d, nq s, .bl t] κ X Q := by
  (unfold sp__law_lists_right; refine s_sp rfl ?_; simp only [startD, List.map_cons, List.map_nil, List.length_cons, List.length_nil, Nat.zero_add, Nat.reduceAdd, Nat.reduceSub, List.replicate, List.cons_append, List.nil_append]; unfold b__law_lists_right)
  refine seq_mid (fun δ κ1 => ∃ hh : D, δ = [some d, some (nq s), some (.bl t), some hh, none, none, none, none, none, none, none, none, none] ∧ Ls κ t hh qs κ1) (fun N hN => ?_) fun δ κ1 hM => ?_
  · cases t
    · (repeat walk_at "st")
      refine listof_q hd.wk ?_
      refine e_nwt fun n hn => ?_
      (repeat walk_at "st")
      exact hN _ _ ⟨_, rfl, .inr ⟨rfl, n, rfl, kset_same⟩, hK.set (new0 hK hn), .set hn, fun m e => by cases e; exact hn⟩
    · (repeat walk_at "st")
      refine tup_q hd ?_
      (repeat walk_at "st")
      exact hN _ _ ⟨_, rfl, .inl ⟨rfl, rfl⟩, hK, .refl, fun m e => by cases e⟩
  obtain ⟨hh, rfl, L1⟩ := hM
  have hd1 := hd.fr hK L1.fr
  (repeat walk_at "st")
  refine put_spec hd1.wk G.sz G.len fun κ2 f2 => ?_
  have L2 := L1.fr' (L1.kt.fa f2) (fa_fr f2)
  clear L1 hd1 f2
  walk_at "st"
  refine seq_mid (fun δ κ' => ∃ u5 u6 u7 : Option D, δ = [some d, some (nq s), some (.bl t), some hh, some (.node .lst ((srt qs).map nq)), u5, u6, u7, none, none, none, none, none] ∧ Ls κ t hh qs κ') (fun N hN => ?_) fun δ κ1 hM => ?_
  · (repeat walk_at "st")
    refine dl_ix (fun i δ κ' => ∃ u5 u6 u7 : Option D, δ = [some d, some (nq s), some (.bl t), some hh, some (.node .lst ((srt qs).map nq)), u5, u6, u7, none, none, none, none, none] ∧ Ls κ t hh qs κ') ?_ ?_ ⟨_, _, _, rfl, L2⟩
    · rintro δ κ' ⟨u5, u6, u7, rfl, L⟩
      exact ⟨trivial, hN _ _ ⟨_, _, _, rfl, L⟩⟩
    · rintro i d2 δ κ' Lp hd2 hL ⟨u5, u6, u7, rfl, L⟩
      refine ⟨trivial, ?_⟩
      (repeat walk_at "st")
      refine up_spec L.hn.wk L.kt G fun n1 κ3 hn1 e1 K3 f3 => ?_
      have L3 := L.fr' K3 f3
      have z1 := fr_none hK L.fr L.kt hn1
      have ne1 := L.hn.ne hn1
      (repeat walk_at "st")
      refine dn_spec L3.hn.wk K3 G fun n2 κ4 hn2 e2 K4 f4 => ?_
      have L4 := L3.fr' K4 f4
      have z2 := fr_none hK L3.fr L3.kt hn2
      have ne2 := L3.hn.ne hn2
      have e1 := f4 _ _ (new0 hK z1) e1
      (repeat walk_at "st")
      refine up_spec L4.hn.wk K4 G fun n3 κ5 hn3 e3 K5 f5 => ?_
      have L5 := L4.fr' K5 f5
      have z3 := fr_none hK L4.fr L4.kt hn3
      have ne3 := L4.hn.ne hn3
      have n21 : n1 ≠ n3 := kne e1 hn3
      have n23 : n2 ≠ n3 := kne e2 hn3
      have n12 : n1 ≠ n2 := kne (κ := κ3) (by assumption) hn2
      have e1 := f5 _ _ (new0 hK z1) e1
      have e2 := f5 _ _ (new0 hK z2) e2
      clear L L3 L4 K3 K4 K5 f3 f4 f5 hn1 hn2 hn3
      (repeat walk_at "st")
      refine repr3 G (rows3_pd (vw_cell e1) (vw_cell e2) (vw_cell e3)) ?_
      (repeat walk_at "st")
      refine repr3 G (rows3_pd rfl (by rw [← List.map_reverse]; rfl) rfl) ?_
      refine f_neSS (P3_sh G).2.shaped ?_
      (repeat walk_at "st")
      refine listof_q L5.hn.wk ?_
      (repeat walk_at "st")
      refine f_neLq' (.inl rfl) (hd.fr hK L5.fr) ?_
      (repeat walk_at "st")
      have sl : ∀ ps : List Rat, ps.length = qs.length → ((ps.map nq).reverse).length < 16777216 := fun ps hp => by
        rw [List.length_reverse, List.length_map, hp]
        have := G.len
        omega
      refine dl_cons trivial ?_
      (repeat walk_at "st")
      refine isq_cell e1 ?_
      refine ⟨n1, _, rfl, e1, ?_⟩
      have L6 := L5.set (c := .live .lst ((srt qs).map nq).reverse) hK z1 ne1
      have e6 : kset κ5 n1 (.live .lst ((srt qs).map nq).reverse) n1 = some (.live .lst ((srt qs).map nq).reverse) := kset_same
      have g2 : kset κ5 n1 (.live .lst ((srt qs).map nq).reverse) n2 = _ := (kset_ne n12.symm).trans e2
      have g3 : kset κ5 n1 (.live .lst ((srt qs).map nq).reverse) n3 = _ := (kset_ne n21.symm).trans e3
      generalize kset κ5 n1 (.live .lst ((srt qs).map nq).reverse) = κ6 at L6 e6 g2 g3
      clear L5 e1 e2 e3
      (repeat walk_at "st")
      refine isq_cell e6 ?_
      (repeat walk_at "st")
      refine f_app e6 (sl _ (srt_len qs)) ?_
      have L7 := L6.set (c := .live .lst (((srt qs).map nq).reverse ++ [.int 7])) hK z1 ne1
      have h2 := (kset_ne (c := .live .lst (((srt qs).map nq).reverse ++ [.int 7])) n12.symm).trans g2
      have h3 := (kset_ne (c := .live .lst (((srt qs).map nq).reverse ++ [.int 7])) n21.symm).trans g3
      generalize kset κ6 n1 (.live .lst (((srt qs).map nq).reverse ++ [.int 7])) = κ7 at L7 h2 h3
      clear L6 e6 g2 g3
      refine dl_cons trivial ?_
      (repeat walk_at "st")
      refine isq_cell h2 ?_
      refine ⟨n2, _, rfl, h2, ?_⟩
      have L6 := L7.set (c := .live .lst ((srt qs).reverse.map nq).reverse) hK z2 ne2
      have e6 : kset κ7 n2 (.live .lst ((srt qs).reverse.map nq).reverse) n2 = some (.live .lst ((srt qs).reverse.map nq).reverse) := kset_same
      have g3 : kset κ7 n2 (.live .lst ((srt qs).reverse.map nq).reverse) n3 = _ := (kset_ne n23.symm).trans h3
      generalize kset κ7 n2 (.live .lst ((srt qs).reverse.map nq).reverse) = κ8 at L6 e6 g3
      clear L7 h2 h3
      (repeat walk_at "st")
      refine isq_cell e6 ?_
      (repeat walk_at "st")
      refine f_app e6 (sl _ (by rw [List.length_reverse]; exact srt_len qs)) ?_
      have L7 := L6.set (c := .live .lst (((srt qs).reverse.map nq).reverse ++ [.int 7])) hK z2 ne2
      have h3 := (kset_ne (c := .live .lst (((srt qs).reverse.map nq).reverse ++ [.int 7])) n23.symm).trans g3
      generalize kset κ8 n2 (.live .lst (((srt qs).reverse.map nq).reverse ++ [.int 7])) = κ9 at L7 h3
      clear L6 e6 g3
      refine dl_cons trivial ?_
      (repeat walk_at "st")
      refine isq_cell h3 ?_
      refine ⟨n3, _, rfl, h3, ?_⟩
      have L6 := L7.set (c := .live .lst ((srt qs).map nq).reverse) hK z3 ne3
      have e6 : kset κ9 n3 (.live .lst ((srt qs).map nq).reverse) n3 = some (.live .lst ((srt qs).map nq).reverse) := kset_same
      generalize kset κ9 n3 (.live .lst ((srt qs).map nq).reverse) = κ10 at L6 e6
      clear L7 h3
      (repeat walk_at "st")
      refine isq_cell e6 ?_
      (repeat walk_at "st")
      refine f_app e6 (sl _ (srt_len qs)) ?_
      have L7 := L6.set (c := .live .lst (((srt qs).map nq).reverse ++ [.int 7])) hK z3 ne3
      refine dl_nil trivial ?_
      exact hL _ _ ⟨_, _, _, rfl, L7⟩
  obtain ⟨u5, u6, u7, rfl, L⟩ := hM
  clear L2
  have hd1 := hd.fr hK L.fr
  (repeat walk_at "st")
  refine zero_spec L.hn.wk G ?_
  (repeat walk_at "st")
  refine total_spec L.hn.wk G hs ?_
  (repeat walk_at "st")
  refine zero_spec L.hn.wk G ?_
  (repeat walk_at "st")
  refine lzero_spec hd1.wk G ?_
  (repeat walk_at "st")
  refine lsum_spec hd1.wk G hs ?_
  (repeat walk_at "st")
  refine lzero_spec hd1.wk G ?_
  (repeat walk_at "st")
  refine listof_q L.hn.wk ?_
  (repeat walk_at "st")
  refine f_neLq' (.inl rfl) hd1 ?_
  (repeat walk_at "st")
  refine up_spec L.hn.wk L.kt G fun n1 κ3 hn1 e1 K3 f3 => ?_
  have L3 := L.fr' K3 f3
  have z1 := fr_none hK L.fr L.kt hn1
  have ne1 := L.hn.ne hn1
  clear L hd1 K3 f3 hn1
  walk_at "st"
  refine seq_mid (fun δ κ' => δ = [some d, some (nq s), some (.bl t), some hh, some (.node .lst ((srt qs).map nq)), u5, some (.cell n1), u7, some (.node .lst [nq (tot 0 qs), nq (tot s qs), nq (tot 0 qs)]), some (.node .lst [nq (tot 0 qs), nq (tot s qs), nq (tot 0 qs)]), none, none, none] ∧ Kt κ' ∧ Fr 0 κ κ' ∧ κ' n1 = some (.live .lst ((srt qs).map nq))) (fun N hN => ?_) fun δ κ1 hM => ?_
  · (repeat walk_at "st")
    refine isi_hn L3.hn ?_
    rcases L3.hn with ⟨rfl, rfl⟩ | ⟨rfl, n, rfl, e⟩
    · (repeat walk_at "st")
      exact hN _ _ ⟨rfl, L3.kt, L3.fr, e1⟩
    · (repeat walk_at "st")
      refine isq_cell e ?_
      refine ⟨n, _, rfl, e, ?_⟩
      (repeat walk_at "st")
      have nn : n ≠ n1 := fun z => ne1 (by rw [z])
      refine hN _ _ ⟨rfl, L3.kt.set (not0 L3.kt e), L3.fr.put (L3.nw n rfl), by rw [kset_ne nn.symm]; exact e1⟩
  obtain ⟨rfl, K4, f4, e4⟩ := hM
  (repeat walk_at "st")
  refine i_zip ?_
  (repeat walk_at "st")
  refine zq_23 fun gd hgd => ?_
  intro n hn
  have e5 := kk (c' := .live .lst []) e4 hn
  refine ⟨hgd _, ?_⟩
  rw [bi_inr rfl]
  simp only [dwipe, List.set_cons_zero, List.set_cons_succ]
  (repeat walk_at "st")
  refine is_q rfl ?_
  (repeat walk_at "st")
  refine ⟨hgd _, ?_⟩
  rw [bi_inr rfl]
  simp only [dwipe, List.set_cons_zero, List.set_cons_succ]
  (repeat walk_at "st")
  refine is_q rfl ?_
  (repeat walk_at "st")
  refine ⟨hgd _, ?_⟩
  rw [bi_inr rfl]
  simp only [dwipe, List.set_cons_zero, List.set_cons_succ]
  (repeat walk_at "st")
  refine is_q rfl ?_
  (repeat walk_at "st")
  refine ⟨hgd _, kset_same, ?_⟩
  rw [kset_kset]
  have n0 := new0 K4 hn
  have K6 := K4.set (c := .dead) n0
  have f6 := f4.put (c := .dead) (fr_none hK f4 K4 hn)
  have e6 := kk (c' := .dead) e4 hn
  generalize kset κ1 n .dead = κ6 at K6 f6 e6
  (repeat walk_at "st")
  refine f_eqLq' (ps := []) (.inl rfl) (.inl rfl) ?_
  (repeat walk_at "st")
  refine f_eqLq' (.inr ⟨_, rfl, e6⟩) (.inl rfl) ?_
  (repeat walk_at "st")
  exact h _ K6 f6
/-! the lists are within their bounds -/
theorem bq_of {k j : Nat} {q : Rat} (h1 : q.num.natAbs < 2 ^ k) (h2 : q.den < 2 ^ j) : bq q ≤ k + j + 1 := by
  have a := log_lt h1
  have b := log_lt h2
  unfold bq
  omega
theorem wt_le {c : Nat} : ∀ {qs : List Rat}, (∀ q ∈ qs, bq q + 1 ≤ c) → wt qs ≤ qs.length * c
  | [], _ => Nat.zero_le _
  | q :: qs, h => by
    have h1 := h q List.mem_cons_self
    have h2 := wt_le fun p hp => h p (List.mem_cons_of_mem _ hp)
    rw [wt_cons, List.length_cons, Nat.succ_mul]
    omega
theorem sz_bq {k : Nat} {q : Rat} (h : Sz k q) : bq q ≤ k + k + 1 := bq_of h.1 h.2
theorem gl_few {qs : List Rat} {k n : Nat} (hk : k ≤ 600) (hz : ∀ q ∈ qs, Sz k q) (hl : qs.length ≤ n) (hn : n * (k + k + 2) ≤ 6000) (h4 : n ≤ 400) : GL qs :=
  ⟨Nat.le_trans (wt_le (c := k + k + 2) fun q hq => by have := sz_bq (hz q hq); omega) (Nat.le_trans (Nat.mul_le_mul_right _ hl) hn), by omega, fun q hq => (hz q hq).mono hk⟩
theorem gl_small {qs : List Rat} (hl : qs.length ≤ 10) (hz : ∀ q ∈ qs, Dz q) : GL qs := gl_few (k := 200) (n := 10) (by decide) (fun q hq => (hz q hq).sz) hl (by decide) (by decide)
theorem GL.drop {qs : List Rat} (G : GL qs) (k : Nat) : GL (qs.drop k) := by
  refine ⟨?_, by rw [List.length_drop]; have := G.len; omega, fun q hq => G.sz q (List.mem_of_mem_drop hq)⟩
  have h := G.wt
  rw [← List.take_append_drop k qs, wt_app] at h
  omega
theorem gl_nil : GL [] := ⟨Nat.zero_le _, Nat.zero_le _, fun _ h => (nomatch h)⟩
def big : List Rat := (List.range 400).map fun k : Nat => Rat.divInt (Int.fmod ((37 : Int) * (k : Int)) 401 - 200) (1 + Int.fmod (k : Int) 23)
theorem big_wt : wt big ≤ 3800 := by decide +kernel
theorem big_len : big.length = 400 := by unfold big; rw [List.length_map, List.length_range]
theorem big_sz : ∀ q ∈ big, Sz 600 q := by
  have h : big.all (fun q => decide (q.num.natAbs < 2 ^ 600) && decide (q.den < 2 ^ 600)) = true := by decide +kernel
  intro q hq
  have := List.all_eq_true.mp h q hq
  rw [Bool.and_eq_true] at this
  exact ⟨of_decide_eq_true this.1, of_decide_eq_true this.2⟩
theorem big_at {j : Nat} (h : j < 400) : big[j]? = some (Rat.divInt (Int.fmod ((37 : Int) * (j : Int)) 401 - 200) (1 + Int.fmod (j : Int) 23)) := by
  unfold big
  rw [List.getElem?_map, List.getElem?_range h]
  rfl
def fB (q : Rat) : Bool := decide ((if (q.den : Int) < 0 then -(q.den : Int) else (q.den : Int)) < 100)
theorem gl_big {qs : List Rat} (hl : qs.length ≤ 10) (hz : ∀ q ∈ qs, Dz q) : GL ((qs.filter fB ++ big).take 400) := by
  have hf : (qs.filter fB).length ≤ qs.length := List.length_filter_le _ _
  refine ⟨Nat.le_trans (wt_take _ _) ?_, by rw [List.length_take]; omega, fun q hq => ?_⟩
  · rw [wt_app]
    have h1 : wt (qs.filter fB) ≤ (qs.filter fB).length * 209 := wt_le fun q hq => by
      obtain ⟨m, hb⟩ := List.mem_filter.mp hq
      have hd : q.den < 2 ^ 7 := by
        have := of_decide_eq_true hb
        split at this <;> omega
      have := bq_of (k := 200) (j := 7) (hz q m).sz.1 hd
      omega
    have := big_wt
    omega
  · rcases List.mem_append.mp (List.mem_of_mem_take hq) with z | z
    · exact (hz q (List.mem_filter.mp z).1).sz.mono (by decide)
    · exact big_sz q z
theorem cut_from {xs : List D} {k : Nat} : cutD xs (some (k : Int)) none = xs.drop k := by
  rcases Nat.le_total k xs.length with h | h
  · exact cut_lo h
  · unfold cutD
    rw [HT.sIx_nat, HT.sIx_none, Nat.min_eq_right h, List.drop_eq_nil_of_le (Nat.le_refl _), List.drop_eq_nil_of_le h, List.take_nil]
theorem cut_hi {xs : List D} {k : Nat} (h : k ≤ xs.length) : cutD xs none (some (k : Int)) = xs.take k := by
  unfold cutD
  rw [HT.sIx_nat, HT.sIx_none, Nat.min_eq_left h]
  rfl
theorem bx_fa {b m : Nat} {κ κ' : Kap} (h : Bx b m κ) (f : Fa κ κ') : Bx b m κ' := let ⟨x, y, z, h1, h2⟩ := h; ⟨x, y, z, f _ _ h1, h2⟩
theorem bx_fr {b m : Nat} {κ κ' : Kap} (h : Bx b m κ) (hb : b ≠ 0) (f : Fr 0 κ κ') : Bx b m κ' := let ⟨x, y, z, h1, h2⟩ := h; ⟨x, y, z, f _ _ hb h1, h2⟩
theorem Kt.frb {b : Nat} {κ κ' : Kap} (hK : Kt κ) (hb : b ≠ 0) (f : Fr b κ κ') : Kt κ' := let ⟨m, h⟩ := hK; ⟨m, f _ _ hb.symm h⟩
theorem sl_q {κ : Kap} {Q : DQ} {d : D} {qs : List Rat} (h : Lq κ d qs) (q : Q (.node .lst ((qs.drop 1).map nq)) κ) : fSl false d (some 1) none κ Q := by
  have e : cutD (qs.map nq) (some ((1 : Nat) : Int)) none = (qs.drop 1).map nq := by rw [cut_from, List.map_drop]
  rcases h with rfl | ⟨n, rfl, en⟩
  · exact sl_N (m := false) (by show Q (.node .lst (cutD (qs.map nq) (some ((1 : Nat) : Int)) none)) κ; rw [e]; exact q)
  · exact sl_C (m := false) en (by show Q (.node .lst (cutD (qs.map nq) (some ((1 : Nat) : Int)) none)) κ; rw [e]; exact q)
/-! few numbers -/
theorem srt_two {a b : Rat} (h : a ≤ b) : srt [b, a] = [a, b] :=
  sorted_uniq (srt_sorted _) (List.pairwise_cons.mpr ⟨fun x hx => by rw [List.mem_singleton.mp hx]; exact h, List.pairwise_singleton ..⟩) ((srt_perm _).trans (List.Perm.swap ..))
theorem srt_two' {a b : Rat} (h : a ≤ b) : srt [a, b] = [a, b] :=
  sorted_uniq (srt_sorted _) (List.pairwise_cons.mpr ⟨fun x hx => by rw [List.mem_singleton.mp hx]; exact h, List.pairwise_singleton ..⟩) (srt_perm _)
section
variable {κ : Kap} {X : Str → List D → Kap → Prop} {Q : DQ} {k : Nat} {a b v w : Int}
theorem times_int (hv : v.natAbs < 2 ^ k) (h1 : 1 ≤ k) (hk : k + k ≤ 8000) (h : Q (.int (v * v)) κ) : sp_times [.int v, .int v] κ X Q :=
  times_q (p := (v : Rat)) (q := (v : Rat)) (Sz.int hv h1) (Sz.int hv h1) hk (by rw [← Rat.intCast_mul]; exact h)
theorem over_int (ha : a.natAbs < 2 ^ 2) (hw : w.natAbs < 2 ^ k) (h1 : 1 ≤ k) (h0 : 0 < w) (hk : 2 + k ≤ 8000) (h : Q (nq ((a : Rat) / (w : Rat))) κ) : sp_over [.int a, .int w] κ X Q :=
  over_q (p := (a : Rat)) (q := (w : Rat)) (Sz.int ha (by decide)) (Sz.int hw h1) (by exact_mod_cast (Int.ne_of_gt h0)) hk h
theorem repr1 {qs : List Rat} (hl : qs.length ≤ 400) (hz : ∀ q ∈ qs, Sz 600 q) {x : D} (hp : Pd κ x (rowP qs)) (h : Q (.str (rowP qs).shown) κ) : fRepr [x] κ Q :=
  repr_pd hp (rowP_sh hl hz).1 (Nat.le_trans (rowP_sp qs).2 (by decide)) (Nat.le_trans (rowP_sh hl hz).2.1 (by decide)) h
theorem gl_two {p q : Rat} (hp : Sz 600 p) (hq : Sz 600 q) : GL [p, q] := gl_few (k := 600) (n := 2) (Nat.le_refl _) (fun z hz => by
  simp only [List.mem_cons, List.not_mem_nil, or_false] at hz
  rcases hz with rfl | rfl
  · exact hp
  · exact hq) (Nat.le_refl _) (by decide) (by decide)
end
theorem half_le {w : Int} (h : 0 < w) : ((1 : Int) : Rat) / (w : Rat) ≤ ((2 : Int) : Rat) / (w : Rat) := by
  have hw : (0 : Rat) ≤ (w : Rat)⁻¹ := Rat.le_of_lt (Rat.inv_pos.mpr (by exact_mod_cast h))
  rw [Rat.div_def, Rat.div_def]
  exact Rat.mul_le_mul_of_nonneg_right (by decide) hw
theorem tot_g1 (g : Int) : nq (tot 0 [(g : Rat), ((1 : Int) : Rat)]) = .int (g + 1) := by
  have : tot 0 [(g : Rat), ((1 : Int) : Rat)] = ((g + 1 : Int) : Rat) := by
    show (0 + (g : Rat)) + ((1 : Int) : Rat) = _
    rw [Rat.zero_add, ← Rat.intCast_add]
  rw [this]
  rfl
theorem law_true : ∀ ns : List Int, ns.length ≤ 63 → sp_law [.node .klst (ns.map D.int)] (tabK ["rising"]) (fun _ _ _ => False) (fun d _ => d = .bl true) := by
  intro ns hns
  have hK0 : Kt (tabK ["rising"]) := ⟨0, rfl⟩
  generalize tabK ["rising"] = κ0 at hK0
  (unfold sp_law; refine s_sp rfl ?_; simp only [startD, List.map_cons, List.map_nil, List.length_cons, List.length_nil, Nat.zero_add, Nat.reduceAdd, Nat.reduceSub, List.replicate, List.cons_append, List.nil_append]; unfold b_law)
  (repeat walk_at "st")
  rw [List.length_map]
  have hr : ∃ r : Nat, (if (if (ns.length : Int) < 6 then (ns.length : Int) else 6) > 2 then (if (ns.length : Int) < 6 then (ns.length : Int) else 6) else 2) = (r : Int) ∧ r ≤ 6 := by
    refine ⟨(if (if (ns.length : Int) < 6 then (ns.length : Int) else 6) > 2 then (if (ns.length : Int) < 6 then (ns.length : Int) else 6) else 2).toNat, ?_, ?_⟩
    · split <;> split <;> omega
    · split <;> split <;> omega
  obtain ⟨r, er, hr⟩ := hr
  rw [er]
  (repeat walk_at "st")
  refine dl_ix (fun i δ κ' => Kt κ' ∧ ∃ a1 a2 a3 a4 a5 a6 a7 a8 a9 a10 a11 a12, δ = [some (.node .klst (ns.map D.int)), a1, a2, a3, a4, a5, a6, a7, a8, a9, a10, a11, a12]) ?_ ?_ ⟨hK0, _, _, _, _, _, _, _, _, _, _, _, _, rfl⟩
  · rintro δ κ ⟨_, a1, a2, a3, a4, a5, a6, a7, a8, a9, a10, a11, a12, rfl⟩
    refine ⟨trivial, ?_⟩
    (repeat walk_at "st")
    rfl
  · rintro i d δ κ L hd hL ⟨hK, a1, a2, a3, a4, a5, a6, a7, a8, a9, a10, a11, a12, rfl⟩
    obtain ⟨hi, rfl⟩ := rangeD_get hd
    refine ⟨trivial, ?_⟩
    (repeat walk_at "st")
    rw [Int.zero_add]
    refine cell_spec (by omega) fun c => ?_
    (repeat walk_at "st")
    refine box_spec fun b κ1 hb B0 f0 => ?_
    have b0 : b ≠ 0 := new0 hK hb
    have K1 := hK.fa f0
    clear f0 hb hK
    walk_at "st"
    refine seq_mid (fun δ κ' => ∃ l : Bool, δ = [some (.node .klst (ns.map D.int)), some (.int (i : Int)), some (.cell b), some (.bl l), a4, a5, a6, a7, a8, a9, a10, a11, a12] ∧ Kt κ' ∧ Bx b 1 κ') (fun N hN => ?_) fun δ κ2 hM => ?_
    · (repeat walk_at "st")
      refine take_spec B0 (by omega) (by decide) (by decide) fun t1 κ2 _ _ B1 f1 => ?_
      have K2 := K1.frb b0 f1
      (repeat walk_at "st")
      refine i_d (fun h1 => ?_) fun h1 => ?_
      · (repeat walk_at "st")
        exact hN _ _ ⟨_, rfl, K2, B1⟩
      · (repeat walk_at "st")
        exact hN _ _ ⟨_, rfl, K2, B1⟩
    obtain ⟨l, rfl, K2, B2⟩ := hM
    clear K1 B0
    (repeat walk_at "st")
    refine some_spec B2 (by omega) fun n1 qs κ3 hn1 e3 hl hz B3 f3 => ?_
    have K3 := K2.frb b0 f3
    have n1b := B2.ne hn1
    clear f3 hn1 B2 K2
    (repeat walk_at "st")
    refine drawn_q B3 (by omega) fun s κ4 hs B4 f4 => ?_
    have K4 := K3.frb b0 f4
    have e4 := f4 _ _ n1b e3
    clear f4 e3 B3 K3
    walk_at "st"
    refine seq_mid (fun δ κ' => ∃ (d : D) (ps : List Rat), δ = [some (.node .klst (ns.map D.int)), some (.int (i : Int)), some (.cell b), some (.bl l), some d, some (nq s), a6, a7, a8, a9, a10, a11, a12] ∧ Lq κ' d ps ∧ GL ps ∧ Kt κ' ∧ Bx b 2000 κ') (fun N hN => ?_) fun δ κ5 hM => ?_
    · have stay : N [some (.node .klst (ns.map D.int)), some (.int (i : Int)), some (.cell b), some (.bl l), some (.cell n1), some (nq s), a6, a7, a8, a9, a10, a11, a12] κ4 :=
        hN _ _ ⟨_, qs, rfl, .inr ⟨_, rfl, e4⟩, gl_small hl hz, K4, B4.mono (by omega)⟩
      cases l
      · (repeat walk_at "st")
        exact stay
      · (repeat walk_at "st")
        refine f_neLq (qs := []) (.inr ⟨n1, rfl, e4⟩) (.inl rfl) ?_
        (repeat walk_at "st")
        refine i_d (fun h0 => ?_) fun h0 => ?_
        · (repeat walk_at "st")
          exact stay
        · (repeat walk_at "st")
          refine q_wk (Wk.cell e4) fun gd hgd => ?_
          intro n hn
          refine lcLoop_ix (fun j acc κ' => acc = ((qs.take j).filter fB).map nq ∧ κ' n = some (.live .lst acc) ∧ Fa κ4 κ') ?_ ?_ ⟨rfl, kset_same, Fa.new hn⟩
          · rintro acc κ5 ⟨rfl, e5, f5⟩
            rw [List.length_map, List.take_length] at e5 ⊢
            refine ⟨hgd _ f5, e5, ?_⟩
            have f6 := f5.put (c := .dead) hn
            generalize kset κ5 n .dead = κ6 at f6
            clear e5 f5 hn
            (repeat walk_at "st")
            intro n hn
            refine lcLoop_ix (fun j acc κ' => acc = (big.take j).map nq ∧ κ' n = some (.live .lst acc) ∧ Fa κ6 κ') ?_ ?_ ⟨rfl, kset_same, Fa.new hn⟩
            · rintro acc κ7 ⟨rfl, e7, f7⟩
              rw [rangeD_len, show Int.toNat 400 = 400 from rfl, List.take_of_length_le (Nat.le_of_eq big_len)] at e7 ⊢
              refine ⟨trivial, e7, ?_⟩
              have f8 := f6.trans (f7.put (c := .dead) hn)
              generalize kset κ7 n .dead = κ8 at f8
              have hf : (qs.filter fB).length ≤ qs.length := List.length_filter_le _ _
              (repeat walk_at "st")
              refine f_adL (by rw [List.length_map, List.length_map, big_len]; unfold sizeLine; omega) ?_
              (repeat walk_at "st")
              rw [show (some (400 : Int)) = some ((400 : Nat) : Int) from rfl, cut_hi (by rw [List.length_append, List.length_map, List.length_map, big_len]; omega), ← List.map_append, ← List.map_take]
              refine hN _ _ ⟨_, _, rfl, .inl rfl, gl_big hl hz, K4.fa f8, (bx_fa B4 f8).mono (by omega)⟩
            · rintro j d acc κ7 M hd2 hM ⟨rfl, e7, f7⟩
              obtain ⟨hj, rfl⟩ := rangeD_get hd2
              have hj4 : j < 400 := hj
              refine ⟨trivial, ?_⟩
              rw [bi_inl]
              simp only [dwipe, List.set_cons_zero, List.set_cons_succ]
              rw [Int.zero_add]
              have m1 := fm_bd (37 * (j : Int)) 401 (by decide)
              have m2 := fm_bd (j : Int) 23 (by decide)
              (repeat walk_at "st")
              refine lnum_q (by omega) (Nat.lt_trans (show (1 + Int.fmod (j : Int) 23).natAbs < 2 ^ 6 by omega) (Nat.pow_lt_pow_right (by decide) (by decide))) ?_
              refine ⟨e7, by rw [List.length_map, List.length_take]; unfold sizeLine; omega, hM _ _ ⟨?_, kset_same, ?_⟩⟩
              · rw [List.take_add_one, big_at hj4, List.map_append]
                rfl
              · exact fun m c hc => by rw [kset_ne (kne hc hn)]; exact f7 m c hc
          · rintro j d3 acc κ5 M hd3 hM ⟨rfl, e5, f5⟩
            obtain ⟨p, hp, rfl⟩ := nq_at hd3
            refine ⟨hgd _ f5, ?_⟩
            rw [bi_inl]
            simp only [dwipe, List.set_cons_zero, List.set_cons_succ]
            (repeat walk_at "st")
            refine lpair_q ?_
            (repeat walk_at "st")
            have etk : (qs.take (j + 1)).filter fB = (qs.take j).filter fB ++ (if fB p = true then [p] else []) := by
              rw [List.take_add_one, hp, List.filter_append]
              congr 1
              by_cases z : fB p = true
              · rw [if_pos z]; exact List.filter_cons_of_pos z
              · rw [if_neg z]; exact List.filter_cons_of_neg z
            show if fB p = true then _ else _
            cases z : fB p
            · rw [z, if_neg (by decide), List.append_nil] at etk
              (repeat walk_at "st")
              exact hM _ _ ⟨by rw [etk], e5, f5⟩
            · rw [z, if_pos rfl] at etk
              (repeat walk_at "st")
              refine ⟨e5, by rw [List.length_map]; have := List.length_filter_le fB (qs.take j); rw [List.length_take] at this; unfold sizeLine; omega, hM _ _ ⟨?_, kset_same, ?_⟩⟩
              · rw [etk, List.map_append]; rfl
              · exact fun m c hc => by rw [kset_ne (kne hc hn)]; exact f5 m c hc
    obtain ⟨d, ps, rfl, hq, G, K5, B5⟩ := hM
    clear B4 K4 e4 hz hl
    refine seq_mid (fun δ κ' => ∃ u6 u7, δ = [some (.node .klst (ns.map D.int)), some (.int (i : Int)), some (.cell b), some (.bl l), some d, some (nq s), u6, u7, a8, a9, a10, a11, a12] ∧ Kt κ' ∧ Bx b 2000 κ') (fun N hN => ?_) fun δ κ6 hM => ?_
    · (repeat walk_at "st")
      refine sl_q hq ?_
      (repeat walk_at "st")
      refine dl_ix (fun j δ κ' => ∃ u6 u7, δ = [some (.node .klst (ns.map D.int)), some (.int (i : Int)), some (.cell b), some (.bl l), some d, some (nq s), u6, u7, a8, a9, a10, a11, a12] ∧ Kt κ' ∧ Fr 0 κ5 κ') ?_ ?_ ⟨_, _, rfl, K5, .refl⟩
      · rintro δ κ' ⟨u6, u7, rfl, K6, f6⟩
        exact ⟨trivial, hN _ _ ⟨_, _, rfl, K6, bx_fr B5 b0 f6⟩⟩
      · rintro j x δ κ' L2 hx hL2 ⟨u6, u7, rfl, K6, f6⟩
        have hx2 : ∃ zs, Lq κ5 x zs ∧ GL zs := by
          have := List.mem_of_getElem? hx
          simp only [List.mem_cons, List.not_mem_nil, or_false] at this
          rcases this with rfl | rfl | rfl
          · exact ⟨_, hq, G⟩
          · exact ⟨_, .inl rfl, G.drop 1⟩
          · exact ⟨[], .inl rfl, gl_nil⟩
        obtain ⟨zs, hzs, Gz⟩ := hx2
        refine ⟨trivial, ?_⟩
        (repeat walk_at "st")
        refine dl_ix (fun j δ κ' => ∃ u7, δ = [some (.node .klst (ns.map D.int)), some (.int (i : Int)), some (.cell b), some (.bl l), some d, some (nq s), some x, u7, a8, a9, a10, a11, a12] ∧ Kt κ' ∧ Fr 0 κ5 κ') ?_ ?_ ⟨_, rfl, K6, f6⟩
        · rintro δ κ7 ⟨u7, rfl, K7, f7⟩
          exact ⟨trivial, hL2 _ _ ⟨_, _, rfl, K7, f7⟩⟩
        · rintro j2 y δ κ7 L3 hy hL3 ⟨u7, rfl, K7, f7⟩
          have hy2 : ∃ t, y = .bl t := by
            have := List.mem_of_getElem? hy
            simp only [List.mem_cons, List.not_mem_nil, or_false] at this
            rcases this with rfl | rfl <;> exact ⟨_, rfl⟩
          obtain ⟨t, rfl⟩ := hy2
          refine ⟨trivial, ?_⟩
          (repeat walk_at "st")
          refine lists_spec (hzs.fr K5 f7) K7 Gz (hs.sz.mono (by decide)) fun κ8 K8 f8 => ?_
          (repeat walk_at "st")
          exact hL3 _ _ ⟨_, rfl, K8, f7.trans f8⟩
    obtain ⟨u6, u7, rfl, K6, B6⟩ := hM
    clear hq G K5 B5
    (repeat walk_at "st")
    refine take_spec B6 (by omega) (by decide) (by decide) fun t2 κ7 h0 h9 B7 f7 => ?_
    have K7 := K6.frb b0 f7
    clear f7 B6 K6 B7
    (repeat walk_at "st")
    rw [show (10 : Int) ^ Int.toNat 40 = 10 ^ 40 from rfl]
    have hv1 : ((10 : Int) ^ 40 + t2).natAbs < 2 ^ 134 := by omega
    have hv0 : 0 < (10 : Int) ^ 40 + t2 := by omega
    generalize (10 : Int) ^ 40 + t2 = v at hv1 hv0
    refine times_int hv1 (by decide) (by decide) ?_
    have hg1 : (v * v).natAbs < 2 ^ 268 := by
      rw [Int.natAbs_mul]
      exact Nat.lt_of_lt_of_le (Nat.mul_lt_mul'' hv1 hv1) (by decide)
    have hg0 : 0 < v * v := Int.mul_pos hv0 hv0
    have zg : Sz 600 ((v * v : Int) : Rat) := (Sz.int hg1 (by decide)).mono (by decide)
    (repeat walk_at "st")
    refine up_spec (qs := [((v * v : Int) : Rat), ((0 : Int) : Rat)]) .lst K7 (gl_two zg (Sz.int (k := 600) (by decide) (by decide))) fun n2 κ8 hn2 e8 K8 f8 => ?_
    rw [srt_two (show ((0 : Int) : Rat) ≤ ((v * v : Int) : Rat) from by exact_mod_cast (Int.le_of_lt hg0))] at e8
    (repeat walk_at "st")
    refine f_neLq' (ps := [((0 : Int) : Rat), ((v * v : Int) : Rat)]) (.inr ⟨n2, rfl, e8⟩) (.inl rfl) ?_
    (repeat walk_at "st")
    refine zero_spec (qs := [((v * v : Int) : Rat), ((1 : Int) : Rat)]) .lst (gl_two zg (Sz.int (k := 600) (by decide) (by decide))) ?_
    rw [tot_g1]
    (repeat walk_at "st")
    refine f_mul (cmul_of 134 134 hv1 hv1 (by decide)) ?_
    (repeat walk_at "st")
    refine times_int hg1 (by decide) (by decide) ?_
    have hw1 : (v * v * (v * v)).natAbs < 2 ^ 536 := by
      rw [Int.natAbs_mul]
      exact Nat.lt_of_lt_of_le (Nat.mul_lt_mul'' hg1 hg1) (by decide)
    have hw0 : 0 < v * v * (v * v) := Int.mul_pos hg0 hg0
    generalize v * v * (v * v) = w at hw1 hw0
    have w0 : (w : Rat) ≠ 0 := by exact_mod_cast (Int.ne_of_gt hw0)
    have z1 : Sz 600 (((1 : Int) : Rat) / (w : Rat)) := ((Sz.int (k := 2) (by decide) (by decide)).div (Sz.int hw1 (by decide)) w0).mono (by decide)
    have z2 : Sz 600 (((2 : Int) : Rat) / (w : Rat)) := ((Sz.int (k := 2) (by decide) (by decide)).div (Sz.int hw1 (by decide)) w0).mono (by decide)
    have hle := half_le hw0
    (repeat walk_at "st")
    refine over_int (k := 536) (by decide) hw1 (by decide) hw0 (by decide) ?_
    (repeat walk_at "st")
    refine over_int (k := 536) (by decide) hw1 (by decide) hw0 (by decide) ?_
    generalize ((1 : Int) : Rat) / (w : Rat) = p1 at z1 hle
    generalize ((2 : Int) : Rat) / (w : Rat) = p2 at z2 hle
    have s12 : ∀ q ∈ [p1, p2], Sz 600 q := (gl_two z1 z2).sz
    have s21 : ∀ q ∈ [p2, p1], Sz 600 q := (gl_two z2 z1).sz
    (repeat walk_at "st")
    refine up_spec (qs := [p2, p1]) .lst K8 (gl_two z2 z1) fun n3 κ9 hn3 e9 K9 f9 => ?_
    rw [srt_two hle] at e9
    (repeat walk_at "st")
    refine repr1 (qs := [p1, p2]) (by simp only [List.length_cons, List.length_nil]; decide) s12 (row_pd (vw_cell e9)) ?_
    (repeat walk_at "st")
    refine repr1 (qs := [p1, p2]) (by simp only [List.length_cons, List.length_nil]; decide) s12 (row_pd rfl) ?_
    refine f_neSS (rowP_sh (by simp only [List.length_cons, List.length_nil]; decide) s12).2.shaped ?_
    (repeat walk_at "st")
    refine dn_spec (qs := [p1, p2]) .lst K9 (gl_two z1 z2) fun n4 κ10 hn4 e10 K10 f10 => ?_
    rw [srt_two' hle] at e10
    (repeat walk_at "st")
    refine repr1 (qs := [p2, p1]) (by simp only [List.length_cons, List.length_nil]; decide) s21 (row_pd (vw_cell e10)) ?_
    (repeat walk_at "st")
    refine repr1 (qs := [p2, p1]) (by simp only [List.length_cons, List.length_nil]; decide) s21 (row_pd rfl) ?_
    refine f_neSS (rowP_sh (by simp only [List.length_cons, List.length_nil]; decide) s21).2.shaped ?_
    (repeat walk_at "st")
    exact hL _ _ ⟨K10, _, _, _, _, _, _, _, _, _, _, _, _, rfl⟩
end L_k05
namespace L_k05
open PySem PySem.Spec PyProof.Rows L2 DL
/-! what the top has left -/
theorem all_mk {l : PySem.W.OpenLaw} {w : World} {K : PySem.W.Frag} {h : Heap} {mg : Str → Option Value} {fa : Addr} {f_is_plain : Addr} {od_is_plain an_is_plain : Option Addr} {sl_is_plain : Array (Option Value)} {oc_is_plain kV_is_plain dc_is_plain pm_is_plain cd_is_plain ct_is_plain : Value} {f_common_part : Addr} {od_common_part an_common_part : Option Addr} {sl_common_part : Array (Option Value)} {oc_common_part kV_common_part dc_common_part pm_common_part cd_common_part ct_common_part : Value} {f_is_part : Addr} {od_is_part an_is_part : Option Addr} {sl_is_part : Array (Option Value)} {oc_is_part kV_is_part dc_is_part pm_is_part cd_is_part ct_is_part : Value} {f_reckoned : Addr} {od_reckoned an_reckoned : Option Addr} {sl_reckoned : Array (Option Value)} {oc_reckoned kV_reckoned dc_reckoned pm_reckoned cd_reckoned ct_reckoned : Value} {f_pair_of : Addr} {od_pair_of an_pair_of : Option Addr} {sl_pair_of : Array (Option Value)} {oc_pair_of kV_pair_of dc_pair_of pm_pair_of cd_pair_of ct_pair_of : Value} {f_plus : Addr} {od_plus an_plus : Option Addr} {sl_plus : Array (Option Value)} {oc_plus kV_plus dc_plus pm_plus cd_plus ct_plus : Value} {f_times : Addr} {od_times an_times : Option Addr} {sl_times : Array (Option Value)} {oc_times kV_times dc_times pm_times cd_times ct_times : Value} {f_over : Addr} {od_over an_over : Option Addr} {sl_over : Array (Option Value)} {oc_over kV_over dc_over pm_over cd_over ct_over : Value} {f_need_numbers : Addr} {od_need_numbers an_need_numbers : Option Addr} {sl_need_numbers : Array (Option Value)} {oc_need_numbers kV_need_numbers dc_need_numbers pm_need_numbers cd_need_numbers ct_need_numbers : Value} {f_rising : Addr} {od_rising an_rising : Option Addr} {sl_rising : Array (Option Value)} {oc_rising dc_rising pm_rising cd_rising ct_rising : Value} {J_rising : Addr} {f_total : Addr} {od_total an_total : Option Addr} {sl_total : Array (Option Value)} {oc_total dc_total pm_total cd_total ct_total : Value} {J_total : Addr} {tj_total_0 : Tok} {f__law_cell : Addr} {od__law_cell an__law_cell : Option Addr} {sl__law_cell : Array (Option Value)} {oc__law_cell kV__law_cell dc__law_cell pm__law_cell cd__law_cell ct__law_cell : Value} {f__law_box : Addr} {od__law_box an__law_box : Option Addr} {sl__law_box : Array (Option Value)} {oc__law_box kV__law_box dc__law_box pm__law_box cd__law_box ct__law_box : Value} {f__law_take : Addr} {od__law_take an__law_take : Option Addr} {sl__law_take : Array (Option Value)} {oc__law_take kV__law_take dc__law_take pm__law_take cd__law_take ct__law_take : Value} {f__law_far : Addr} {od__law_far an__law_far : Option Addr} {sl__law_far : Array (Option Value)} {oc__law_far kV__law_far dc__law_far pm__law_far cd__law_far ct__law_far : Value} {f__law_number : Addr} {od__law_number an__law_number : Option Addr} {sl__law_number : Array (Option Value)} {oc__law_number kV__law_number dc__law_number pm__law_number cd__law_number ct__law_number : Value} {f__law_pair : Addr} {od__law_pair an__law_pair : Option Addr} {sl__law_pair : Array (Option Value)} {oc__law_pair kV__law_pair dc__law_pair pm__law_pair cd__law_pair ct__law_pair : Value} {f__law_is : Addr} {od__law_is an__law_is : Option Addr} {sl__law_is : Array (Option Value)} {oc__law_is kV__law_is dc__law_is pm__law_is cd__law_is ct__law_is : Value} {f__law_drawn : Addr} {od__law_drawn an__law_drawn : Option Addr} {sl__law_drawn : Array (Option Value)} {oc__law_drawn kV__law_drawn dc__law_drawn pm__law_drawn cd__law_drawn ct__law_drawn : Value} {f__law_some : Addr} {od__law_some an__law_some : Option Addr} {sl__law_some : Array (Option Value)} {oc__law_some kV__law_some dc__law_some pm__law_some cd__law_some ct__law_some : Value} {f__law_put : Addr} {od__law_put an__law_put : Option Addr} {sl__law_put : Array (Option Value)} {oc__law_put kV__law_put dc__law_put pm__law_put cd__law_put ct__law_put : Value} {f__law_sum : Addr} {od__law_sum an__law_sum : Option Addr} {sl__law_sum : Array (Option Value)} {oc__law_sum kV__law_sum dc__law_sum pm__law_sum cd__law_sum ct__law_sum : Value} {f__law_lists_right : Addr} {od__law_lists_right an__law_lists_right : Option Addr} {sl__law_lists_right : Array (Option Value)} {oc__law_lists_right kV__law_lists_right dc__law_lists_right pm__law_lists_right cd__law_lists_right ct__law_lists_right : Value} {f_law : Addr} {od_law an_law : Option Addr} {sl_law : Array (Option Value)} {oc_law kV_law dc_law pm_law cd_law ct_law : Value} {t_MOST_NUMBERS : Tok} {C_FontError : Addr} {C_NoNumber : Addr} {nm_NoNumber q_NoNumber : Str} {N_NoNumber : Addr} {bs_NoNumber : List Value} {sn_NoNumber : List Str} {sub_NoNumber : List Value} {ab_NoNumber : Bool} {col_NoNumber : Option Bool} {dd_NoNumber : Option Addr} {x0_NoNumber x1_NoNumber x2_NoNumber x3_NoNumber x5_NoNumber : Option Value} {I_NoNumber : Addr} {iod_NoNumber ian_NoNumber : Option Addr} {isl_NoNumber : Array (Option Value)} {ioc_NoNumber ikV_NoNumber idc_NoNumber ipm_NoNumber icd_NoNumber ict_NoNumber : Value} {tc_rising tP_rising : Addr} {oc2_rising : Value} {od2_rising : Option Addr} {vs2_rising : Array Value} {sl2_rising : Array (Option Value)} (X : K.In h) (G : h.Ns mainGlobals mg) (hfa : mg "law" = some (.ref fa))
    (a_is_plain : PySem.W.nsIn K mainGlobals "is_plain" = some (some (.ref f_is_plain)))
    (l_is_plain : K.lookup f_is_plain = some ⟨oc_is_plain, od_is_plain, .func (PySem.W.fnOf "is_plain" "is_plain" (defArgs s_is_plain) (defBody s_is_plain) (defScope s_is_plain) .none kV_is_plain dc_is_plain pm_is_plain an_is_plain cd_is_plain ct_is_plain), sl_is_plain⟩)
    (c_is_plain : PySem.W.codeIn K cd_is_plain "is_plain" = true)
    (k_is_plain : PySem.W.keepIn K (.ref f_is_plain) = true)
    (a_common_part : PySem.W.nsIn K mainGlobals "common_part" = some (some (.ref f_common_part)))
    (l_common_part : K.lookup f_common_part = some ⟨oc_common_part, od_common_part, .func (PySem.W.fnOf "common_part" "common_part" (defArgs s_common_part) (defBody s_common_part) (defScope s_common_part) .none kV_common_part dc_common_part pm_common_part an_common_part cd_common_part ct_common_part), sl_common_part⟩)
    (c_common_part : PySem.W.codeIn K cd_common_part "common_part" = true)
    (k_common_part : PySem.W.keepIn K (.ref f_common_part) = true)
    (a_is_part : PySem.W.nsIn K mainGlobals "is_part" = some (some (.ref f_is_part)))
    (l_is_part : K.lookup f_is_part = some ⟨oc_is_part, od_is_part, .func (PySem.W.fnOf "is_part" "is_part" (defArgs s_is_part) (defBody s_is_part) (defScope s_is_part) .none kV_is_part dc_is_part pm_is_part an_is_part cd_is_part ct_is_part), sl_is_part⟩)
    (c_is_part : PySem.W.codeIn K cd_is_part "is_part" = true)
    (k_is_part : PySem.W.keepIn K (.ref f_is_part) = true)
    (a_reckoned : PySem.W.nsIn K mainGlobals "reckoned" = some (some (.ref f_reckoned)))
    (l_reckoned : K.lookup f_reckoned = some ⟨oc_reckoned, od_reckoned, .func (PySem.W.fnOf "reckoned" "reckoned" (defArgs s_reckoned) (defBody s_reckoned) (defScope s_reckoned) .none kV_reckoned dc_reckoned pm_reckoned an_reckoned cd_reckoned ct_reckoned), sl_reckoned⟩)
    (c_reckoned : PySem.W.codeIn K cd_reckoned "reckoned" = true)
    (k_reckoned : PySem.W.keepIn K (.ref f_reckoned) = true)
    (a_pair_of : PySem.W.nsIn K mainGlobals "pair_of" = some (some (.ref f_pair_of)))
    (l_pair_of : K.lookup f_pair_of = some ⟨oc_pair_of, od_pair_of, .func (PySem.W.fnOf "pair_of" "pair_of" (defArgs s_pair_of) (defBody s_pair_of) (defScope s_pair_of) .none kV_pair_of dc_pair_of pm_pair_of an_pair_of cd_pair_of ct_pair_of), sl_pair_of⟩)
    (c_pair_of : PySem.W.codeIn K cd_pair_of "pair_of" = true)
    (k_pair_of : PySem.W.keepIn K (.ref f_pair_of) = true)
    (a_plus : PySem.W.nsIn K mainGlobals "plus" = some (some (.ref f_plus)))
    (l_plus : K.lookup f_plus = some ⟨oc_plus, od_plus, .func (PySem.W.fnOf "plus" "plus" (defArgs s_plus) (defBody s_plus) (defScope s_plus) .none kV_plus dc_plus pm_plus an_plus cd_plus ct_plus), sl_plus⟩)
    (c_plus : PySem.W.codeIn K cd_plus "plus" = true)
    (k_plus : PySem.W.keepIn K (.ref f_plus) = true)
    (a_times : PySem.W.nsIn K mainGlobals "times" = some (some (.ref f_times)))
    (l_times : K.lookup f_times = some ⟨oc_times, od_times, .func (PySem.W.fnOf "times" "times" (defArgs s_times) (defBody s_times) (defScope s_times) .none kV_times dc_times pm_times an_times cd_times ct_times), sl_times⟩)
    (c_times : PySem.W.codeIn K cd_times "times" = true)
    (k_times : PySem.W.keepIn K (.ref f_times) = true)
    (a_over : PySem.W.nsIn K mainGlobals "over" = some (some (.ref f_over)))
    (l_over : K.lookup f_over = some ⟨oc_over, od_over, .func (PySem.W.fnOf "over" "over" (defArgs s_over) (defBody s_over) (defScope s_over) .none kV_over dc_over pm_over an_over cd_over ct_over), sl_over⟩)
    (c_over : PySem.W.codeIn K cd_over "over" = true)
    (k_over : PySem.W.keepIn K (.ref f_over) = true)
    (a_need_numbers : PySem.W.nsIn K mainGlobals "need_numbers" = some (some (.ref f_need_numbers)))
    (l_need_numbers : K.lookup f_need_numbers = some ⟨oc_need_numbers, od_need_numbers, .func (PySem.W.fnOf "need_numbers" "need_numbers" (defArgs s_need_numbers) (defBody s_need_numbers) (defScope s_need_numbers) .none kV_need_numbers dc_need_numbers pm_need_numbers an_need_numbers cd_need_numbers ct_need_numbers), sl_need_numbers⟩)
    (c_need_numbers : PySem.W.codeIn K cd_need_numbers "need_numbers" = true)
    (k_need_numbers : PySem.W.keepIn K (.ref f_need_numbers) = true)
    (a_rising : PySem.W.nsIn K mainGlobals "rising" = some (some (.ref f_rising)))
    (l_rising : K.lookup f_rising = some ⟨oc_rising, od_rising, .func (PySem.W.fnOf "rising" "rising" (defArgs s_rising) (defBody s_rising) (defScope s_rising) .none (.ref J_rising) dc_rising pm_rising an_rising cd_rising ct_rising), sl_rising⟩)
    (c_rising : PySem.W.codeIn K cd_rising "rising" = true)
    (k_rising : PySem.W.keepIn K (.ref f_rising) = true)
    (j_rising_down : PySem.W.nsIn K J_rising "down" = some (some (.bool false)))
    (a_total : PySem.W.nsIn K mainGlobals "total" = some (some (.ref f_total)))
    (l_total : K.lookup f_total = some ⟨oc_total, od_total, .func (PySem.W.fnOf "total" "total" (defArgs s_total) (defBody s_total) (defScope s_total) .none (.ref J_total) dc_total pm_total an_total cd_total ct_total), sl_total⟩)
    (c_total : PySem.W.codeIn K cd_total "total" = true)
    (k_total : PySem.W.keepIn K (.ref f_total) = true)
    (j_total_start : PySem.W.nsIn K J_total "start" = some (some (.int (0) tj_total_0)))
    (a__law_cell : PySem.W.nsIn K mainGlobals "_law_cell" = some (some (.ref f__law_cell)))
    (l__law_cell : K.lookup f__law_cell = some ⟨oc__law_cell, od__law_cell, .func (PySem.W.fnOf "_law_cell" "_law_cell" (defArgs s__law_cell) (defBody s__law_cell) (defScope s__law_cell) .none kV__law_cell dc__law_cell pm__law_cell an__law_cell cd__law_cell ct__law_cell), sl__law_cell⟩)
    (c__law_cell : PySem.W.codeIn K cd__law_cell "_law_cell" = true)
    (k__law_cell : PySem.W.keepIn K (.ref f__law_cell) = true)
    (a__law_box : PySem.W.nsIn K mainGlobals "_law_box" = some (some (.ref f__law_box)))
    (l__law_box : K.lookup f__law_box = some ⟨oc__law_box, od__law_box, .func (PySem.W.fnOf "_law_box" "_law_box" (defArgs s__law_box) (defBody s__law_box) (defScope s__law_box) .none kV__law_box dc__law_box pm__law_box an__law_box cd__law_box ct__law_box), sl__law_box⟩)
    (c__law_box : PySem.W.codeIn K cd__law_box "_law_box" = true)
    (k__law_box : PySem.W.keepIn K (.ref f__law_box) = true)
    (a__law_take : PySem.W.nsIn K mainGlobals "_law_take" = some (some (.ref f__law_take)))
    (l__law_take : K.lookup f__law_take = some ⟨oc__law_take, od__law_take, .func (PySem.W.fnOf "_law_take" "_law_take" (defArgs s__law_take) (defBody s__law_take) (defScope s__law_take) .none kV__law_take dc__law_take pm__law_take an__law_take cd__law_take ct__law_take), sl__law_take⟩)
    (c__law_take : PySem.W.codeIn K cd__law_take "_law_take" = true)
    (k__law_take : PySem.W.keepIn K (.ref f__law_take) = true)
    (a__law_far : PySem.W.nsIn K mainGlobals "_law_far" = some (some (.ref f__law_far)))
    (l__law_far : K.lookup f__law_far = some ⟨oc__law_far, od__law_far, .func (PySem.W.fnOf "_law_far" "_law_far" (defArgs s__law_far) (defBody s__law_far) (defScope s__law_far) .none kV__law_far dc__law_far pm__law_far an__law_far cd__law_far ct__law_far), sl__law_far⟩)
    (c__law_far : PySem.W.codeIn K cd__law_far "_law_far" = true)
    (k__law_far : PySem.W.keepIn K (.ref f__law_far) = true)
    (a__law_number : PySem.W.nsIn K mainGlobals "_law_number" = some (some (.ref f__law_number)))
    (l__law_number : K.lookup f__law_number = some ⟨oc__law_number, od__law_number, .func (PySem.W.fnOf "_law_number" "_law_number" (defArgs s__law_number) (defBody s__law_number) (defScope s__law_number) .none kV__law_number dc__law_number pm__law_number an__law_number cd__law_number ct__law_number), sl__law_number⟩)
    (c__law_number : PySem.W.codeIn K cd__law_number "_law_number" = true)
    (k__law_number : PySem.W.keepIn K (.ref f__law_number) = true)
    (a__law_pair : PySem.W.nsIn K mainGlobals "_law_pair" = some (some (.ref f__law_pair)))
    (l__law_pair : K.lookup f__law_pair = some ⟨oc__law_pair, od__law_pair, .func (PySem.W.fnOf "_law_pair" "_law_pair" (defArgs s__law_pair) (defBody s__law_pair) (defScope s__law_pair) .none kV__law_pair dc__law_pair pm__law_pair an__law_pair cd__law_pair ct__law_pair), sl__law_pair⟩)
    (c__law_pair : PySem.W.codeIn K cd__law_pair "_law_pair" = true)
    (k__law_pair : PySem.W.keepIn K (.ref f__law_pair) = true)
    (a__law_is : PySem.W.nsIn K mainGlobals "_law_is" = some (some (.ref f__law_is)))
    (l__law_is : K.lookup f__law_is = some ⟨oc__law_is, od__law_is, .func (PySem.W.fnOf "_law_is" "_law_is" (defArgs s__law_is) (defBody s__law_is) (defScope s__law_is) .none kV__law_is dc__law_is pm__law_is an__law_is cd__law_is ct__law_is), sl__law_is⟩)
    (c__law_is : PySem.W.codeIn K cd__law_is "_law_is" = true)
    (k__law_is : PySem.W.keepIn K (.ref f__law_is) = true)
    (a__law_drawn : PySem.W.nsIn K mainGlobals "_law_drawn" = some (some (.ref f__law_drawn)))
    (l__law_drawn : K.lookup f__law_drawn = some ⟨oc__law_drawn, od__law_drawn, .func (PySem.W.fnOf "_law_drawn" "_law_drawn" (defArgs s__law_drawn) (defBody s__law_drawn) (defScope s__law_drawn) .none kV__law_drawn dc__law_drawn pm__law_drawn an__law_drawn cd__law_drawn ct__law_drawn), sl__law_drawn⟩)
    (c__law_drawn : PySem.W.codeIn K cd__law_drawn "_law_drawn" = true)
    (k__law_drawn : PySem.W.keepIn K (.ref f__law_drawn) = true)
    (a__law_some : PySem.W.nsIn K mainGlobals "_law_some" = some (some (.ref f__law_some)))
    (l__law_some : K.lookup f__law_some = some ⟨oc__law_some, od__law_some, .func (PySem.W.fnOf "_law_some" "_law_some" (defArgs s__law_some) (defBody s__law_some) (defScope s__law_some) .none kV__law_some dc__law_some pm__law_some an__law_some cd__law_some ct__law_some), sl__law_some⟩)
    (c__law_some : PySem.W.codeIn K cd__law_some "_law_some" = true)
    (k__law_some : PySem.W.keepIn K (.ref f__law_some) = true)
    (a__law_put : PySem.W.nsIn K mainGlobals "_law_put" = some (some (.ref f__law_put)))
    (l__law_put : K.lookup f__law_put = some ⟨oc__law_put, od__law_put, .func (PySem.W.fnOf "_law_put" "_law_put" (defArgs s__law_put) (defBody s__law_put) (defScope s__law_put) .none kV__law_put dc__law_put pm__law_put an__law_put cd__law_put ct__law_put), sl__law_put⟩)
    (c__law_put : PySem.W.codeIn K cd__law_put "_law_put" = true)
    (k__law_put : PySem.W.keepIn K (.ref f__law_put) = true)
    (a__law_sum : PySem.W.nsIn K mainGlobals "_law_sum" = some (some (.ref f__law_sum)))
    (l__law_sum : K.lookup f__law_sum = some ⟨oc__law_sum, od__law_sum, .func (PySem.W.fnOf "_law_sum" "_law_sum" (defArgs s__law_sum) (defBody s__law_sum) (defScope s__law_sum) .none kV__law_sum dc__law_sum pm__law_sum an__law_sum cd__law_sum ct__law_sum), sl__law_sum⟩)
    (c__law_sum : PySem.W.codeIn K cd__law_sum "_law_sum" = true)
    (k__law_sum : PySem.W.keepIn K (.ref f__law_sum) = true)
    (a__law_lists_right : PySem.W.nsIn K mainGlobals "_law_lists_right" = some (some (.ref f__law_lists_right)))
    (l__law_lists_right : K.lookup f__law_lists_right = some ⟨oc__law_lists_right, od__law_lists_right, .func (PySem.W.fnOf "_law_lists_right" "_law_lists_right" (defArgs s__law_lists_right) (defBody s__law_lists_right) (defScope s__law_lists_right) .none kV__law_lists_right dc__law_lists_right pm__law_lists_right an__law_lists_right cd__law_lists_right ct__law_lists_right), sl__law_lists_right⟩)
    (c__law_lists_right : PySem.W.codeIn K cd__law_lists_right "_law_lists_right" = true)
    (k__law_lists_right : PySem.W.keepIn K (.ref f__law_lists_right) = true)
    (a_law : PySem.W.nsIn K mainGlobals "law" = some (some (.ref f_law)))
    (l_law : K.lookup f_law = some ⟨oc_law, od_law, .func (PySem.W.fnOf "law" "law" (defArgs s_law) (defBody s_law) (defScope s_law) .none kV_law dc_law pm_law an_law cd_law ct_law), sl_law⟩)
    (c_law : PySem.W.codeIn K cd_law "law" = true)
    (k_law : PySem.W.keepIn K (.ref f_law) = true)
    (z_abs : PySem.W.nsIn K mainGlobals "abs" = some none)
    (z_bool : PySem.W.nsIn K mainGlobals "bool" = some none)
    (z_int : PySem.W.nsIn K mainGlobals "int" = some none)
    (z_isinstance : PySem.W.nsIn K mainGlobals "isinstance" = some none)
    (z_len : PySem.W.nsIn K mainGlobals "len" = some none)
    (z_list : PySem.W.nsIn K mainGlobals "list" = some none)
    (z_max : PySem.W.nsIn K mainGlobals "max" = some none)
    (z_min : PySem.W.nsIn K mainGlobals "min" = some none)
    (z_range : PySem.W.nsIn K mainGlobals "range" = some none)
    (z_repr : PySem.W.nsIn K mainGlobals "repr" = some none)
    (z_sorted : PySem.W.nsIn K mainGlobals "sorted" = some none)
    (z_tuple : PySem.W.nsIn K mainGlobals "tuple" = some none)
    (z_zip : PySem.W.nsIn K mainGlobals "zip" = some none)
    (g_MOST_NUMBERS : PySem.W.nsIn K mainGlobals "MOST_NUMBERS" = some (some (.int 400 t_MOST_NUMBERS)))
    (m_FontError : PySem.W.nsIn K mainGlobals "FontError" = some (some (.ref C_FontError)))
    (m_NoNumber : PySem.W.nsIn K mainGlobals "NoNumber" = some (some (.ref C_NoNumber)))
    (bg_FontError : PySem.W.specialIn K (.ref C_FontError) "__getattribute__" = some (some (.builtin "type.__getattribute__")))
    (br_FontError : PySem.W.readsIn K C_FontError (.type "type") = true)
    (bi_FontError : PySem.W.findCls K (.ref C_FontError) (.type "type") "__init__" = some (.val (.builtin "ValueError.__init__")))
    (xl_NoNumber : K.lookup C_NoNumber = some (excClassObj nm_NoNumber q_NoNumber C_NoNumber N_NoNumber bs_NoNumber [.ref C_FontError, .type "ValueError", .type "Exception", .type "BaseException", .type "object"] true sn_NoNumber sub_NoNumber ab_NoNumber col_NoNumber dd_NoNumber x0_NoNumber x1_NoNumber x2_NoNumber x3_NoNumber x5_NoNumber "ValueError.__new__"))
    (xs_NoNumber : PySem.W.findIn K (.ref C_NoNumber) "__setattr__" = some (some (.builtin "object.__setattr__")))
    (xe_NoNumber : PySem.W.subIn K (.ref C_NoNumber) (.type "BaseException") = some true)
    (xt_NoNumber : PySem.W.typeIn K (.ref C_NoNumber) = some (.type "type"))
    (xk_NoNumber : PySem.W.keepIn K (.ref C_NoNumber) = true)
    (yn : PySem.W.specialIn K (.builtin "object.__class__") "__get__" = some (some (.builtin "getset_descriptor.__get__")))
    (yt : PySem.W.takesIn K (.builtin "object.__class__") = some true)
    (ii_NoNumber : PySem.W.findIn K (.ref C_NoNumber) "__init__" = some (some (.ref I_NoNumber)))
    (il_NoNumber : K.lookup I_NoNumber = some ⟨ioc_NoNumber, iod_NoNumber, .func (PySem.W.fnOf "__init__" "NoNumber.__init__" (defArgs (inClass (topS 2) 0)) (defBody (inClass (topS 2) 0)) (defScope (inClass (topS 2) 0)) .none ikV_NoNumber idc_NoNumber ipm_NoNumber ian_NoNumber icd_NoNumber ict_NoNumber), isl_NoNumber⟩)
    (it_NoNumber : PySem.W.typeIn K (.ref I_NoNumber) = some (.type "function"))
    (ic_NoNumber : PySem.W.codeIn K icd_NoNumber "NoNumber.__init__" = true)
    (ik_NoNumber : PySem.W.keepIn K (.ref I_NoNumber) = true)
    (if_NoNumber_found : PySem.W.findIn K (.ref C_NoNumber) "found" = some none)
    (tcd_rising : cd_rising = .ref tc_rising)
    (tlk_rising : K.lookup tc_rising = some ⟨oc2_rising, od2_rising, .fields vs2_rising, sl2_rising⟩)
    (t11_rising : (vs2_rising[11]? : Option Value) = some (.ref tP_rising))
    (thd_rising : PySem.W.codeHdIn K tc_rising tP_rising = true)
    (tno_rising : K.lookup tP_rising = none)
    (ty_rising : h.get? tP_rising = some { cls := .none, data := .fields #[] }) :
    ∃ (fd : FuncData) (ts : Tabs), ts.map (·.1) = (["rising"] : List Str) ∧ (ts.map (·.2.2)).Nodup ∧ (∀ p ∈ ts, TabD K mg p.1 p.2.1 p.2.2) ∧ (∀ p ∈ ts, h.get? p.2.2 = some { cls := .none, data := .fields #[] }) ∧ (∀ (s : Shared) (u : Value), BindsTo s fd ⟨[u], []⟩ [("_law_script", u)]) ∧ ∀ base : Heap, K.In base → base.Ns mainGlobals mg → (∃ o, base.get? sysModules = some o) → (∀ p ∈ ts, LamX.TabB base mg p.2.1 p.2.2) → FnG l.prog w K mg base 9 fa fd ["_law_script"] sp_law := by
  have e := hfa.symm.trans (glb_of X G a_law)
  cases e
  have D_is_plain := defAt_of X G a_is_plain l_is_plain c_is_plain k_is_plain
  have D_common_part := defAt_of X G a_common_part l_common_part c_common_part k_common_part
  have D_is_part := defAt_of X G a_is_part l_is_part c_is_part k_is_part
  have D_reckoned := defAt_of X G a_reckoned l_reckoned c_reckoned k_reckoned
  have D_pair_of := defAt_of X G a_pair_of l_pair_of c_pair_of k_pair_of
  have D_plus := defAt_of X G a_plus l_plus c_plus k_plus
  have D_times := defAt_of X G a_times l_times c_times k_times
  have D_over := defAt_of X G a_over l_over c_over k_over
  have D_need_numbers := defAt_of X G a_need_numbers l_need_numbers c_need_numbers k_need_numbers
  have D_rising : DefD K mg "rising" s_rising f_rising _ [] [("down", V.bl false)] := defD_of X G a_rising l_rising c_rising k_rising dfl_no (kwd_of (List.forall_mem_cons.mpr ⟨⟨_, j_rising_down, rfl⟩, fun q hq => (nomatch hq)⟩))
  have D_total : DefD K mg "total" s_total f_total _ [] [("start", V.int (0))] := defD_of X G a_total l_total c_total k_total dfl_no (kwd_of (List.forall_mem_cons.mpr ⟨⟨_, j_total_start, ⟨_, rfl⟩⟩, fun q hq => (nomatch hq)⟩))
  have D__law_cell := defAt_of X G a__law_cell l__law_cell c__law_cell k__law_cell
  have D__law_box := defAt_of X G a__law_box l__law_box c__law_box k__law_box
  have D__law_take := defAt_of X G a__law_take l__law_take c__law_take k__law_take
  have D__law_far := defAt_of X G a__law_far l__law_far c__law_far k__law_far
  have D__law_number := defAt_of X G a__law_number l__law_number c__law_number k__law_number
  have D__law_pair := defAt_of X G a__law_pair l__law_pair c__law_pair k__law_pair
  have D__law_is := defAt_of X G a__law_is l__law_is c__law_is k__law_is
  have D__law_drawn := defAt_of X G a__law_drawn l__law_drawn c__law_drawn k__law_drawn
  have D__law_some := defAt_of X G a__law_some l__law_some c__law_some k__law_some
  have D__law_put := defAt_of X G a__law_put l__law_put c__law_put k__law_put
  have D__law_sum := defAt_of X G a__law_sum l__law_sum c__law_sum k__law_sum
  have D__law_lists_right := defAt_of X G a__law_lists_right l__law_lists_right c__law_lists_right k__law_lists_right
  have D_law := defAt_of X G a_law l_law c_law k_law
  have M_FontError := glb_of X G m_FontError
  have M_NoNumber := glb_of X G m_NoNumber
  have B_FontError := baseC_of X G m_FontError bg_FontError br_FontError bi_FontError
  have X_NoNumber := oexC_of xl_NoNumber rfl xs_NoNumber xe_NoNumber xt_NoNumber xk_NoNumber
  have TD_rising : TabD K mg "rising" tc_rising tP_rising := ⟨⟨f_rising, _, _, _, _, D_rising.m, l_rising, tcd_rising⟩, thd_rising, tno_rising⟩
  have T : Tz K mg := { kit := kitT_of (fun p hp => (nomatch hp)), z_abs := bltn_of X G z_abs, z_bool := bltn_of X G z_bool, z_int := bltn_of X G z_int, z_isinstance := bltn_of X G z_isinstance, z_len := bltn_of X G z_len, z_list := bltn_of X G z_list, z_max := bltn_of X G z_max, z_min := bltn_of X G z_min, z_range := bltn_of X G z_range, z_repr := bltn_of X G z_repr, z_sorted := bltn_of X G z_sorted, z_tuple := bltn_of X G z_tuple, z_zip := bltn_of X G z_zip, g_MOST_NUMBERS := ⟨_, glb_of X G g_MOST_NUMBERS⟩ }
  refine ⟨PySem.W.fnOf "law" "law" (defArgs s_law) (defBody s_law) (defScope s_law) .none kV_law dc_law pm_law an_law cd_law ct_law, [("rising", tc_rising, tP_rising)], rfl, by simp, List.forall_mem_cons.mpr ⟨TD_rising, fun p hp => (nomatch hp)⟩, List.forall_mem_cons.mpr ⟨ty_rising, fun p hp => (nomatch hp)⟩, fun s u => .of_eq rfl, fun base Kb Gb sm TBs => ?_⟩
  have TB_rising : LamX.TabB base mg tc_rising tP_rising := TBs ("rising", tc_rising, tP_rising) (List.mem_of_getElem? (i := 0) rfl)
  have F_NoNumber := fun_mk (st := inClass (topS 2) 0) il_NoNumber ic_NoNumber ik_NoNumber
  have E_NoNumber : ExOk l.prog w K mg base "NoNumber" ["found"] := ⟨_, _, _, _, _, ⟨M_NoNumber, X_NoNumber, ii_NoNumber, it_NoNumber, (ex1_ok F_NoNumber (fun _ _ _ _ _ _ => ⟨_, ps_expr (pe_finit B_FontError (pa_cons (pv 0) (pa_cons pe_str pa_nil)))⟩) rfl ⟨rfl, rfl, rfl, by decide +kernel, rfl, by decide +kernel, by decide +kernel⟩ rfl rfl (by decide) (by decide)), F_NoNumber.binds (fun _ _ _ _ _ _ us hl => match us, hl with | [_, _], _ => rfl)⟩, exGives1, List.forall_mem_cons.mpr ⟨if_NoNumber_found, fun f hf => (nomatch hf)⟩⟩
  have O_is_plain := ok_is_plain (P := l.prog) (w := w) (base := base) T D_is_plain sm 
  have O_common_part := ok_common_part (P := l.prog) (w := w) (base := base) T D_common_part sm 
  have O_is_part := ok_is_part (P := l.prog) (w := w) (base := base) T D_is_part sm O_common_part O_is_plain
  have O_reckoned := ok_reckoned (P := l.prog) (w := w) (base := base) T D_reckoned sm O_common_part
  have O_pair_of := ok_pair_of (P := l.prog) (w := w) (base := base) T D_pair_of sm E_NoNumber O_is_part O_is_plain
  have O_plus := ok_plus (P := l.prog) (w := w) (base := base) T D_plus sm O_pair_of O_reckoned
  have O_times := ok_times (P := l.prog) (w := w) (base := base) T D_times sm O_pair_of O_reckoned
  have O_over := ok_over (P := l.prog) (w := w) (base := base) T D_over sm O_pair_of O_reckoned
  have O_need_numbers := ok_need_numbers (P := l.prog) (w := w) (base := base) T D_need_numbers sm E_NoNumber O_pair_of
  have C_rising_1 := okc_rising_1 (P := l.prog) (w := w) (base := base)  T D_rising sm O_common_part O_need_numbers O_pair_of TD_rising TB_rising
  have C_rising_0_down_numbers := okc_rising_0_down_numbers (P := l.prog) (w := w) (base := base)  T D_rising sm O_common_part O_need_numbers O_pair_of TD_rising TB_rising
  have C_rising_1_down := okc_rising_1_down (P := l.prog) (w := w) (base := base)  T D_rising sm O_common_part O_need_numbers O_pair_of TD_rising TB_rising
  have C_total_1 := okc_total_1 (P := l.prog) (w := w) (base := base)  T D_total sm O_need_numbers O_plus
  have C_total_0_start_numbers := okc_total_0_start_numbers (P := l.prog) (w := w) (base := base)  T D_total sm O_need_numbers O_plus
  have C_total_1_start := okc_total_1_start (P := l.prog) (w := w) (base := base)  T D_total sm O_need_numbers O_plus
  have O__law_cell := ok__law_cell (P := l.prog) (w := w) (base := base) T D__law_cell sm 
  have O__law_box := ok__law_box (P := l.prog) (w := w) (base := base) T D__law_box sm 
  have O__law_take := ok__law_take (P := l.prog) (w := w) (base := base) T D__law_take sm 
  have O__law_far := ok__law_far (P := l.prog) (w := w) (base := base) T D__law_far sm O__law_take
  have O__law_number := ok__law_number (P := l.prog) (w := w) (base := base) T D__law_number sm 
  have O__law_pair := ok__law_pair (P := l.prog) (w := w) (base := base) T D__law_pair sm 
  have O__law_is := ok__law_is (P := l.prog) (w := w) (base := base) T D__law_is sm 
  have O__law_drawn := ok__law_drawn (P := l.prog) (w := w) (base := base) T D__law_drawn sm O__law_far O__law_number O__law_take
  have O__law_some := ok__law_some (P := l.prog) (w := w) (base := base) T D__law_some sm O__law_drawn O__law_number O__law_pair O__law_take
  have O__law_put := ok__law_put (P := l.prog) (w := w) (base := base) T D__law_put sm O__law_pair
  have O__law_sum := ok__law_sum (P := l.prog) (w := w) (base := base) T D__law_sum sm O__law_number O__law_pair
  have O__law_lists_right := ok__law_lists_right (P := l.prog) (w := w) (base := base) T D__law_lists_right sm C_rising_0_down_numbers C_rising_1 C_rising_1_down C_total_0_start_numbers C_total_1 C_total_1_start O__law_is O__law_put O__law_sum
  exact fn_law T D_law sm C_rising_1 C_rising_1_down C_total_1 O__law_box O__law_cell O__law_drawn O__law_lists_right O__law_number O__law_pair O__law_some O__law_take O_over O_times
end L_k05
open PySem PySem.W PyProof.Rows
set_option maxHeartbeats 0 in
theorem PySem.Challenge.cw_hintedpoints_k05_numbers_in_order_holds : PySem.Challenge.rw_hintedpoints_k05_numbers_in_order.Holds := by
  w_on; o_law; k_head; (case hw => w_witness2)
  as_aux_lemma =>
  k_fill
  refine DL.walkT (l := PySem.Challenge.rw_hintedpoints_k05_numbers_in_order) (n := 63) (k := 9) (x := "_law_script") (sp := L_k05.sp_law) (tn := ["rising"]) rfl (by decide) rfl ⟨rfl, by decide, by decide⟩ (by decide +kernel) (fun w h Y => PySem.W.km_in_of Y) ?F L_k05.law_true
  case F =>
    intro w mg fa h Y KX G hmg
    refine' L_k05.all_mk KX G hmg ?a_is_plain ?l_is_plain ?c_is_plain ?k_is_plain ?a_common_part ?l_common_part ?c_common_part ?k_common_part ?a_is_part ?l_is_part ?c_is_part ?k_is_part ?a_reckoned ?l_reckoned ?c_reckoned ?k_reckoned ?a_pair_of ?l_pair_of ?c_pair_of ?k_pair_of ?a_plus ?l_plus ?c_plus ?k_plus ?a_times ?l_times ?c_times ?k_times ?a_over ?l_over ?c_over ?k_over ?a_need_numbers ?l_need_numbers ?c_need_numbers ?k_need_numbers ?a_rising ?l_rising ?c_rising ?k_rising ?j_rising_down ?a_total ?l_total ?c_total ?k_total ?j_total_start ?a__law_cell ?l__law_cell ?c__law_cell ?k__law_cell ?a__law_box ?l__law_box ?c__law_box ?k__law_box ?a__law_take ?l__law_take ?c__law_take ?k__law_take ?a__law_far ?l__law_far ?c__law_far ?k__law_far ?a__law_number ?l__law_number ?c__law_number ?k__law_number ?a__law_pair ?l__law_pair ?c__law_pair ?k__law_pair ?a__law_is ?l__law_is ?c__law_is ?k__law_is ?a__law_drawn ?l__law_drawn ?c__law_drawn ?k__law_drawn ?a__law_some ?l__law_some ?c__law_some ?k__law_some ?a__law_put ?l__law_put ?c__law_put ?k__law_put ?a__law_sum ?l__law_sum ?c__law_sum ?k__law_sum ?a__law_lists_right ?l__law_lists_right ?c__law_lists_right ?k__law_lists_right ?a_law ?l_law ?c_law ?k_law ?z_abs ?z_bool ?z_int ?z_isinstance ?z_len ?z_list ?z_max ?z_min ?z_range ?z_repr ?z_sorted ?z_tuple ?z_zip ?g_MOST_NUMBERS ?m_FontError ?m_NoNumber ?bg_FontError ?br_FontError ?bi_FontError ?xl_NoNumber ?xs_NoNumber ?xe_NoNumber ?xt_NoNumber ?xk_NoNumber ?yn ?yt ?ii_NoNumber ?il_NoNumber ?it_NoNumber ?ic_NoNumber ?ik_NoNumber ?if_NoNumber_found ?tcd_rising ?tlk_rising ?t11_rising ?thd_rising ?tno_rising ?ty_rising
    (case m_FontError => k_is)
    (case m_NoNumber => k_is)
    (case a_is_plain => k_is)
    (case l_is_plain => k_is)
    (case c_is_plain => k_is)
    (case k_is_plain => k_is)
    (case a_common_part => k_is)
    (case l_common_part => k_is)
    (case c_common_part => k_is)
    (case k_common_part => k_is)
    (case a_is_part => k_is)
    (case l_is_part => k_is)
    (case c_is_part => k_is)
    (case k_is_part => k_is)
    (case a_reckoned => k_is)
    (case l_reckoned => k_is)
    (case c_reckoned => k_is)
    (case k_reckoned => k_is)
    (case a_pair_of => k_is)
    (case l_pair_of => k_is)
    (case c_pair_of => k_is)
    (case k_pair_of => k_is)
    (case a_plus => k_is)
    (case l_plus => k_is)
    (case c_plus => k_is)
    (case k_plus => k_is)
    (case a_times => k_is)
    (case l_times => k_is)
    (case c_times => k_is)
    (case k_times => k_is)
    (case a_over => k_is)
    (case l_over => k_is)
    (case c_over => k_is)
    (case k_over => k_is)
    (case a_need_numbers => k_is)
    (case l_need_numbers => k_is)
    (case c_need_numbers => k_is)
    (case k_need_numbers => k_is)
    (case a_rising => k_is)
    (case l_rising => k_is)
    (case c_rising => k_is)
    (case k_rising => k_is)
    (case j_rising_down => k_is)
    (case a_total => k_is)
    (case l_total => k_is)
    (case c_total => k_is)
    (case k_total => k_is)
    (case j_total_start => k_is)
    (case a__law_cell => k_is)
    (case l__law_cell => k_is)
    (case c__law_cell => k_is)
    (case k__law_cell => k_is)
    (case a__law_box => k_is)
    (case l__law_box => k_is)
    (case c__law_box => k_is)
    (case k__law_box => k_is)
    (case a__law_take => k_is)
    (case l__law_take => k_is)
    (case c__law_take => k_is)
    (case k__law_take => k_is)
    (case a__law_far => k_is)
    (case l__law_far => k_is)
    (case c__law_far => k_is)
    (case k__law_far => k_is)
    (case a__law_number => k_is)
    (case l__law_number => k_is)
    (case c__law_number => k_is)
    (case k__law_number => k_is)
    (case a__law_pair => k_is)
    (case l__law_pair => k_is)
    (case c__law_pair => k_is)
    (case k__law_pair => k_is)
    (case a__law_is => k_is)
    (case l__law_is => k_is)
    (case c__law_is => k_is)
    (case k__law_is => k_is)
    (case a__law_drawn => k_is)
    (case l__law_drawn => k_is)
    (case c__law_drawn => k_is)
    (case k__law_drawn => k_is)
    (case a__law_some => k_is)
    (case l__law_some => k_is)
    (case c__law_some => k_is)
    (case k__law_some => k_is)
    (case a__law_put => k_is)
    (case l__law_put => k_is)
    (case c__law_put => k_is)
    (case k__law_put => k_is)
    (case a__law_sum => k_is)
    (case l__law_sum => k_is)
    (case c__law_sum => k_is)
    (case k__law_sum => k_is)
    (case a__law_lists_right => k_is)
    (case l__law_lists_right => k_is)
    (case c__law_lists_right => k_is)
    (case k__law_lists_right => k_is)
    (case a_law => k_is)
    (case l_law => k_is)
    (case c_law => k_is)
    (case k_law => k_is)
    (case z_abs => k_is)
    (case z_bool => k_is)
    (case z_int => k_is)
    (case z_isinstance => k_is)
    (case z_len => k_is)
    (case z_list => k_is)
    (case z_max => k_is)
    (case z_min => k_is)
    (case z_range => k_is)
    (case z_repr => k_is)
    (case z_sorted => k_is)
    (case z_tuple => k_is)
    (case z_zip => k_is)
    (case g_MOST_NUMBERS => k_is)
    (case bg_FontError => k_is)
    (case br_FontError => k_is)
    (case bi_FontError => k_is)
    (case xl_NoNumber => k_is)
    (case xs_NoNumber => k_is)
    (case xe_NoNumber => k_is)
    (case xt_NoNumber => k_is)
    (case xk_NoNumber => k_is)
    (case yn => k_is)
    (case yt => k_is)
    (case ii_NoNumber => k_is)
    (case il_NoNumber => k_is)
    (case it_NoNumber => k_is)
    (case ic_NoNumber => k_is)
    (case ik_NoNumber => k_is)
    (case if_NoNumber_found => k_is)
    (case tcd_rising => rfl)
    (case tlk_rising => k_is)
    (case t11_rising => rfl)
    (case thd_rising => first | kernel_rfl | rfl | k_is)
    (case tno_rising => first | kernel_rfl | rfl | k_is)
    (case ty_rising => exact PySem.W.km_tabs_of Y _ (by decide))
