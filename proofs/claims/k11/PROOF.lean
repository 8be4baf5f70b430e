import PyProof.Rows.All
import Wide.All
import OpenK.AllK
import Wide.FinOn
import HandS.ForMost
import HandS.ForExc
import HandS.Flow
import HandS.IsInst
import HandS.Lambda
import KE.KNestM
import HandS.Wide
import HandS.TryMany
import HandS.ExcInit
import HandS.RaiseMore
import HandS.ExcCtx
import HandS.SuiteRaise
import HandS.ExcInitHot
import HandS.Deep
import KE.KExcIs
import HandS.ExcIs
import HandS.Defaults
import HandS.MakeKw
import HandS.MakeKwOnly
import HandS.ExcField
import HandS.Small
import HandS.Style
import HandS.Conv
import HandS.CallLocal
import HandS.WrittenGet
import PyProof.ReprRoads
import HandS.HeadHook3
import PyProof.MaxThree
import HandS.Text
import HandS.StrMore
import HandS.FStr
import PyProof.StrBlock2
import KE.IntTextLaws
import PyProof.CollectIter
import PyProof.Walks
import HandS.Zip0
import HandS.SortInts
import HandS.OwnIter
import HandS.TupAny
import HandS.DictTup
import HandS.SortOrd
import HandS.SortRule
import HandS.SortKw
import HandS.ExcValue
import PyProof.LongRange
import PyProof.ListMulRoad
import PyProof.Rows.ListMul
import HandS.TupLe
import HandS.Nested
import HandS.EndTab
import KE.SortKeyHeap
import PySem.Challenge.RW_hintedpoints_k11_rounded_by_periods
set_option Elab.async false
set_option linter.all false
set_option maxRecDepth 100000
set_option maxHeartbeats 4000000
set_option exponentiation.threshold 10000
/-! DL: a layer of plain data trees over the hand layer: D (data without addresses), kept parts and cells, readings over D. -/
namespace DL
open PySem PySem.Spec PyProof.Rows L2
/-! ### data -/
inductive Kd where
  | lst | tup | klst
  | dct (ks : List Key)
  | obj (c : Str) (ns : List Str)
  | exc (c : Str) (ns : List Str)
  | exa (c : Str) (ns : List Str) (a : Addr)
  | cau (c : Str) (a C : Addr) (dd : Option Addr)
  | tbk (x : Str)
  | cod (q : Str)
  | clo (j : Nat) (a : Addr) (ws : List V)
  | fnk (x : Str) (fr : List Str)
  deriving DecidableEq
inductive D where
  | non | bl (b : Bool) | int (i : Int) | str (x : Str) | ty (n : String) | glb (x : Str) | cell (n : Nat)
  | node (k : Kd) (xs : List D)
abbrev D.lst (xs : List D) : D := .node .lst xs
abbrev D.tup (xs : List D) : D := .node .tup xs
inductive Cell where
  | live (k : Kd) (xs : List D)
  | dead
abbrev Kap := Nat → Option Cell
def kset (κ : Kap) (n : Nat) (c : Cell) : Kap := fun m => if m = n then some c else κ m
theorem kset_same {κ : Kap} {n : Nat} {c : Cell} : kset κ n c n = some c := if_pos rfl
theorem kset_ne {κ : Kap} {n m : Nat} {c : Cell} (h : m ≠ n) : kset κ n c m = κ m := if_neg h
theorem kne {κ : Kap} {n m : Nat} {c : Cell} (h : κ n = some c) (h' : κ m = none) : n ≠ m := by
  intro e; rw [e, h'] at h; cases h
abbrev DEnv := List (Option D)
abbrev DQ := D → Kap → Prop
abbrev DX := DEnv → Str → List D → Kap → Prop
structure DEnds where
  nx : DEnv → Kap → Prop
  rt : DQ
  bk : DEnv → Kap → Prop := fun _ _ => False
  ct : DEnv → Kap → Prop := fun _ _ => False
/-- readings over data: an expression's, a test's, an argument list's, a statement's -/
abbrev DE := DEnv → Kap → DX → DQ → Prop
abbrev DT := DEnv → Kap → DX → (Bool → Kap → Prop) → Prop
abbrev DA := DEnv → Kap → DX → (List D → Kap → Prop) → Prop
abbrev DS := DEnv → Kap → DX → DEnds → Prop
/-- what a def is worth, over data -/
abbrev DSp := List D → Kap → (Str → List D → Kap → Prop) → DQ → Prop
/-! ### how data lies in the abstract heap -/
structure Ctx where
  K : PySem.W.Frag
  mg : Str → Option Value
abbrev Loc0 := Nat → Option Addr
/-- names and values, in turn -/
def xflat : List (Str × V) → List V
  | [] => []
  | p :: r => V.str p.1 :: p.2 :: xflat r
/-- P: the table of code objects of the def that x names -/
def TabIs (C : Ctx) (x : Str) (P : Addr) : Prop := ∃ (f c : Addr) (oc : Value) (od : Option Addr) (fd : FuncData) (sl : Array (Option Value)), C.mg x = some (.ref f) ∧ C.K.lookup f = some ⟨oc, od, .func fd, sl⟩ ∧ fd.code = .ref c ∧ PySem.W.codeHdIn C.K c P = true
def TabH (C : Ctx) (H : Hp) (x : Str) (a : Addr) (vs : List V) : Prop := TabIs C x a ∧ ∃ ps : Array Value, H a = some (.tbl ps) ∧ TriplesOk ps.toList ∧ ∀ (pos : Pos) (cv : Value), codeAmong pos ps.toList = some cv → ∃ c, cv = .ref c ∧ V.ref c ∈ vs
/-- the object at a is o -/
def SameO (a : Addr) (o : Obj) : HO := .ext fun h => h.get? a = some o
/-- the lambda that a def returns at its end -/
def retLam (b : List Stmt) : Option (Arguments × Expr × Scope) := match b.getLast? with
  | some (.Return (some (.Lambda p e s _)) _) => some (p, e, s)
  | _ => none
def LamOf (C : Ctx) (x : Str) (p : Arguments) (e : Expr) (s : Scope) : Prop := ∃ (f : Addr) (oc : Value) (od : Option Addr) (fd : FuncData) (sl : Array (Option Value)) (b : List Stmt), C.mg x = some (.ref f) ∧ C.K.lookup f = some ⟨oc, od, .func fd, sl⟩ ∧ fd.body = .stmts b ∧ retLam b = some (p, e, s)
abbrev lamQ (x : Str) : Str := (x ++ ".<locals>.") ++ "<lambda>"
/-- the captured cells, as they lie -/
structure CapF (F : Hp) (cl : List (Str × Addr)) (fr : List Str) (ws : List V) : Prop where
  len : ws.length = fr.length
  all : ∀ y c, cl.lookup y = some c → ∃ o v, F c = some (SameO c o) ∧ o.data = .cell v
  inj : ∀ x y c, cl.lookup x = some c → cl.lookup y = some c → x = y
  has : ∀ (i : Nat) (y : Str), fr[i]? = some y → ∃ c, cl.lookup y = some c ∧ ∀ v, ws[i]? = some v → ∃ u o, L2.RelV v u ∧ F c = some (SameO c o) ∧ o.data = .cell (some u)
theorem CapF.ext {F F' : Hp} {cl : List (Str × Addr)} {fr : List Str} {ws : List V} (e : ∀ a o, F a = some o → F' a = some o) (h : CapF F cl fr ws) : CapF F' cl fr ws :=
  ⟨h.len, fun y c q => let ⟨o, v, h1, h2⟩ := h.all y c q; ⟨o, v, e _ _ h1, h2⟩, h.inj, fun i y q => let ⟨c, h1, h2⟩ := h.has i y q; ⟨c, h1, fun v z => let ⟨u, o, g1, g2, g3⟩ := h2 v z; ⟨u, o, g1, e _ _ g2, g3⟩⟩⟩
/-- a lambda that x has returned, and what it holds -/
def FnkH (C : Ctx) (F : Hp) (x : Str) (fr : List Str) (a : Addr) (vs : List V) : Prop := ∃ (p : Arguments) (e : Expr) (s : Scope) (cl : List (Str × Addr)) (pm ctv : Value) (c' : Addr) (ws : List V),
  LamOf C x p e s ∧ F a = some (SameO a (PySem.W.kla_obj "<lambda>" (lamQ x) p e s cl pm c' ctv)) ∧ vs = V.ref c' :: ws ∧ CapF F cl fr ws
def HoldK (C : Ctx) (F : Hp) (k : Kd) (a : Addr) (vs : List V) : Prop := match k with
  | .lst => F a = some (.lst vs)
  | .klst => SqL C.K F a vs
  | .tup => SqT C.K F a vs
  | .dct ks => ∃ kvs, F a = some (.dK kvs) ∧ kvs.map (·.1) = ks ∧ kvs.map (·.2) = vs
  | .obj c ns => ∃ (ca dx : Addr) (fs : List (Str × V)), C.mg c = some (.ref ca) ∧ F a = some (.ins ca dx fs) ∧ fs.map (·.1) = ns ∧ fs.map (·.2) = vs
  | .exc c ns => ∃ ca : Addr, C.mg c = some (.ref ca) ∧ ((ns = [] ∧ vs = [] ∧ F a = some (exo a ca none)) ∨ ∃ (d : Addr) (fs : List (Str × V)), F a = some (exo a ca (some d)) ∧ F d = some (exd d fs) ∧ fs.map (·.1) = ns ∧ fs.map (·.2) = vs)
  | .exa c ns a1 => a = a1 ∧ ∃ ca : Addr, C.mg c = some (.ref ca) ∧ ((ns = [] ∧ vs = [] ∧ F a = some (exo a ca none)) ∨ ∃ (d : Addr) (fs : List (Str × V)), F a = some (exo a ca (some d)) ∧ F d = some (exd d fs) ∧ fs.map (·.1) = ns ∧ fs.map (·.2) = vs)
  | .cau c a1 C1 dd => a = a1 ∧ C.mg c = some (.ref C1) ∧ ((dd = none ∧ vs = []) ∨ ∃ (d : Addr) (fs : List (Str × V)), dd = some d ∧ F d = some (.xd fs) ∧ vs = xflat fs)
  | .tbk x => TabH C F x a vs
  | .cod q => vs = [] ∧ F a = some (LamX.CodeO a q)
  | .clo _ a1 ws => a = a1 ∧ vs = ws
  | .fnk x fr => FnkH C F x fr a vs
mutual
inductive Rep (C : Ctx) (F : Hp) (ρ : Loc0) : D → V → Prop
  | non : Rep C F ρ .non .non
  | bl (b : Bool) : Rep C F ρ (.bl b) (.bl b)
  | int (i : Int) : Rep C F ρ (.int i) (.int i)
  | str (x : Str) : Rep C F ρ (.str x) (.str x)
  | ty (n : String) : Rep C F ρ (.ty n) (.ty n)
  | glb {x : Str} {a : Addr} (h : C.mg x = some (.ref a)) : Rep C F ρ (.glb x) (.ref a)
  | cell {n : Nat} {a : Addr} (h : ρ n = some a) : Rep C F ρ (.cell n) (.ref a)
  | node {k : Kd} {xs : List D} {a : Addr} {vs : List V} (h : HoldK C F k a vs) (r : RepL C F ρ xs vs) : Rep C F ρ (.node k xs) (.ref a)
inductive RepL (C : Ctx) (F : Hp) (ρ : Loc0) : List D → List V → Prop
  | nil : RepL C F ρ [] []
  | cons {d : D} {ds : List D} {v : V} {vs : List V} (h : Rep C F ρ d v) (t : RepL C F ρ ds vs) : RepL C F ρ (d :: ds) (v :: vs)
end
/-- the kept part and the cells' places only grow -/
structure Ext (F : Hp) (ρ : Loc0) (F' : Hp) (ρ' : Loc0) : Prop where
  f : ∀ a o, F a = some o → F' a = some o
  r : ∀ n a, ρ n = some a → ρ' n = some a
theorem Ext.refl (F : Hp) (ρ : Loc0) : Ext F ρ F ρ := ⟨fun _ _ h => h, fun _ _ h => h⟩
theorem Ext.trans {F F1 F2 : Hp} {ρ ρ1 ρ2 : Loc0} (a : Ext F ρ F1 ρ1) (b : Ext F1 ρ1 F2 ρ2) : Ext F ρ F2 ρ2 := ⟨fun x o h => b.f x o (a.f x o h), fun n x h => b.r n x (a.r n x h)⟩
section
variable {C : Ctx} {F F' : Hp} {ρ ρ' : Loc0}
theorem rd_ext (h : ∀ a o, F a = some o → F' a = some o) {a : Addr} {u : HO} (r : Rd F a u) : Rd F' a u := by
  rcases r with r | ⟨o, r⟩
  · exact .inl (h _ _ r)
  · exact .inr ⟨o, h _ _ r⟩
theorem sql_ext (h : ∀ a o, F a = some o → F' a = some o) {K : PySem.W.Frag} {a : Addr} {xs : List V} (r : SqL K F a xs) : SqL K F' a xs := by
  rcases r with r | r
  · exact .inl (rd_ext h r)
  · exact .inr r
theorem sqt_ext (h : ∀ a o, F a = some o → F' a = some o) {K : PySem.W.Frag} {a : Addr} {xs : List V} (r : SqT K F a xs) : SqT K F' a xs := by
  rcases r with r | r
  · exact .inl (rd_ext h r)
  · exact .inr r
theorem HoldK.ext (e : ∀ a o, F a = some o → F' a = some o) {k : Kd} {a : Addr} {vs : List V} (h : HoldK C F k a vs) : HoldK C F' k a vs := by
  cases k with
  | lst => exact e _ _ h
  | klst => exact sql_ext e h
  | tup => exact sqt_ext e h
  | dct ks => obtain ⟨kvs, h1, h2⟩ := h; exact ⟨kvs, e _ _ h1, h2⟩
  | obj c ns => obtain ⟨ca, dx, fs, h1, h2, h3⟩ := h; exact ⟨ca, dx, fs, h1, e _ _ h2, h3⟩
  | exc c ns =>
    obtain ⟨ca, h1, h2⟩ := h
    refine ⟨ca, h1, ?_⟩
    rcases h2 with ⟨h2, h3, h4⟩ | ⟨d, fs, h2, h3, h4⟩
    · exact .inl ⟨h2, h3, e _ _ h4⟩
    · exact .inr ⟨d, fs, e _ _ h2, e _ _ h3, h4⟩
  | exa c ns a1 =>
    obtain ⟨h0, ca, h1, h2⟩ := h
    refine ⟨h0, ca, h1, ?_⟩
    rcases h2 with ⟨h2, h3, h4⟩ | ⟨d, fs, h2, h3, h4⟩
    · exact .inl ⟨h2, h3, e _ _ h4⟩
    · exact .inr ⟨d, fs, e _ _ h2, e _ _ h3, h4⟩
  | cau c a1 C1 dd =>
    obtain ⟨h1, h2, h3⟩ := h
    refine ⟨h1, h2, ?_⟩
    rcases h3 with h3 | ⟨d, fs, h3, h4, h5⟩
    · exact .inl h3
    · exact .inr ⟨d, fs, h3, e _ _ h4, h5⟩
  | tbk x => obtain ⟨h1, ps, h2, h3⟩ := h; exact ⟨h1, ps, e _ _ h2, h3⟩
  | cod q => exact ⟨h.1, e _ _ h.2⟩
  | clo j a1 ws => exact h
  | fnk x fr => obtain ⟨p, f, s, cl, pm, ctv, c', ws, h1, h2, h3, h4⟩ := h; exact ⟨p, f, s, cl, pm, ctv, c', ws, h1, e _ _ h2, h3, h4.ext e⟩
mutual
theorem Rep.ext (e : Ext F ρ F' ρ') : ∀ {d : D} {v : V}, Rep C F ρ d v → Rep C F' ρ' d v
  | _, _, .non => .non
  | _, _, .bl b => .bl b
  | _, _, .int i => .int i
  | _, _, .str x => .str x
  | _, _, .ty n => .ty n
  | _, _, .glb h => .glb h
  | _, _, .cell h => .cell (e.r _ _ h)
  | _, _, .node h r => .node (h.ext e.f) (RepL.ext e r)
theorem RepL.ext (e : Ext F ρ F' ρ') : ∀ {d : List D} {v : List V}, RepL C F ρ d v → RepL C F' ρ' d v
  | _, _, .nil => .nil
  | _, _, .cons h t => .cons (Rep.ext e h) (RepL.ext e t)
end
theorem RepL.length : ∀ {ds : List D} {vs : List V}, RepL C F ρ ds vs → ds.length = vs.length
  | _, _, .nil => rfl
  | _, _, .cons _ t => congrArg (· + 1) (RepL.length t)
theorem RepL.get : ∀ {ds : List D} {vs : List V} {i : Nat} {d : D}, RepL C F ρ ds vs → ds[i]? = some d → ∃ v, vs[i]? = some v ∧ Rep C F ρ d v
  | _, _, _, _, .nil, e => by simp at e
  | _, _, 0, _, .cons h _, e => by simp at e; subst e; exact ⟨_, rfl, h⟩
  | _, _, i + 1, d, .cons _ t, e => by
    obtain ⟨v, h1, h2⟩ := RepL.get (i := i) (d := d) t (by simpa using e)
    exact ⟨v, by simpa using h1, h2⟩
theorem RepL.append : ∀ {xs ys : List D} {us ws : List V}, RepL C F ρ xs us → RepL C F ρ ys ws → RepL C F ρ (xs ++ ys) (us ++ ws)
  | _, _, _, _, .nil, s => s
  | _, _, _, _, .cons h t, s => .cons h (RepL.append t s)
theorem RepL.set {d : D} {v : V} (r : Rep C F ρ d v) : ∀ {xs : List D} {vs : List V} (i : Nat), RepL C F ρ xs vs → RepL C F ρ (xs.set i d) (vs.set i v)
  | _, _, _, .nil => .nil
  | _, _, 0, .cons _ t => .cons r t
  | _, _, i + 1, .cons q t => .cons q (RepL.set r i t)
theorem RepL.take : ∀ {xs : List D} {vs : List V} (n : Nat), RepL C F ρ xs vs → RepL C F ρ (xs.take n) (vs.take n)
  | _, _, 0, _ => .nil
  | _, _, _ + 1, .nil => .nil
  | _, _, n + 1, .cons h t => .cons h (RepL.take n t)
theorem RepL.drop : ∀ {xs : List D} {vs : List V} (n : Nat), RepL C F ρ xs vs → RepL C F ρ (xs.drop n) (vs.drop n)
  | _, _, 0, r => r
  | _, _, _ + 1, .nil => .nil
  | _, _, n + 1, .cons _ t => RepL.drop n t
theorem RepL.ofInts : ∀ {ns : List Int}, RepL C F ρ (ns.map D.int) (ns.map V.int)
  | [] => .nil
  | n :: ns => .cons (.int n) (RepL.ofInts (ns := ns))
end
/-- how a cell's content lies -/
def HoldM (C : Ctx) (H : Hp) (k : Kd) (a : Addr) (vs : List V) : Prop := match k with
  | .lst => H a = some (.lst vs)
  | .dct ks => ∃ kvs, H a = some (.dK kvs) ∧ kvs.map (·.1) = ks ∧ kvs.map (·.2) = vs
  | .obj c ns => ∃ (ca dx : Addr) (fs : List (Str × V)), C.mg c = some (.ref ca) ∧ H a = some (.ins ca dx fs) ∧ fs.map (·.1) = ns ∧ fs.map (·.2) = vs
  | .tbk x => TabH C H x a vs
  | _ => False
/-- the state: the kept part F, the cells' places ρ, the cells κ, the abstract heap H -/
structure StR (C : Ctx) (F : Hp) (ρ : Loc0) (κ : Kap) (H : Hp) : Prop where
  sub : ∀ a o, F a = some o → H a = some o
  live : ∀ n k xs, κ n = some (.live k xs) → ∃ a vs, ρ n = some a ∧ F a = none ∧ HoldM C H k a vs ∧ RepL C F ρ xs vs
  inj : ∀ n m a k xs k' xs', κ n = some (.live k xs) → κ m = some (.live k' xs') → ρ n = some a → ρ m = some a → n = m
  free : ∀ n, κ n = none → ρ n = none
  fin : ∃ N, ∀ n, N ≤ n → κ n = none
theorem HoldM.is {C : Ctx} {H : Hp} {k : Kd} {a : Addr} {vs : List V} (h : HoldM C H k a vs) : ∃ o, H a = some o := by
  cases k with
  | lst => exact ⟨_, h⟩
  | dct ks => obtain ⟨kvs, h1, _⟩ := h; exact ⟨_, h1⟩
  | obj c ns => obtain ⟨_, _, _, _, h1, _⟩ := h; exact ⟨_, h1⟩
  | tbk x => obtain ⟨_, ps, h1, _⟩ := h; exact ⟨_, h1⟩
  | _ => exact h.elim
theorem HoldM.same {C : Ctx} {H H' : Hp} {k : Kd} {a : Addr} {vs : List V} (h : HoldM C H k a vs) (e : H' a = H a) : HoldM C H' k a vs := by
  cases k with
  | lst => exact e.trans h
  | dct ks => obtain ⟨kvs, h1, h2⟩ := h; exact ⟨kvs, e.trans h1, h2⟩
  | obj c ns => obtain ⟨ca, dx, fs, h0, h1, h2⟩ := h; exact ⟨ca, dx, fs, h0, e.trans h1, h2⟩
  | tbk x => obtain ⟨h0, ps, h1, h2⟩ := h; exact ⟨h0, ps, e.trans h1, h2⟩
  | _ => exact h.elim
section
variable {C : Ctx} {F : Hp} {ρ : Loc0} {κ : Kap} {H : Hp}
/-- a new object, kept -/
theorem StR.laid (S : StR C F ρ κ H) {p : Addr} {o : HO} (h : H p = none) : Ext F ρ (upd F p o) ρ ∧ StR C (upd F p o) ρ κ (upd H p o) := by
  have fp : F p = none := by
    cases e : F p with
    | none => rfl
    | some u => rw [S.sub p u e] at h; cases h
  have ex : Ext F ρ (upd F p o) ρ := ⟨fun a u e => by rw [upd_ne (ne_of_none e fp)]; exact e, fun _ _ e => e⟩
  refine ⟨ex, ⟨fun a u e => ?_, fun n k xs e => ?_, S.inj, S.free, S.fin⟩⟩
  · by_cases ha : a = p
    · subst ha; rw [upd_same] at e; rw [upd_same]; exact e
    · rw [upd_ne ha] at e; rw [upd_ne ha]; exact S.sub a u e
  · obtain ⟨a, vs, h1, h2, h3, h4⟩ := S.live n k xs e
    obtain ⟨u, hu⟩ := h3.is
    have ne : a ≠ p := ne_of_none hu h
    exact ⟨a, vs, h1, by rw [upd_ne ne]; exact h2, h3.same (upd_ne ne), h4.ext ex⟩
/-- a new object, a cell -/
theorem StR.cell (S : StR C F ρ κ H) {p : Addr} {o : HO} {k : Kd} {vs : List V} {xs : List D} (h : H p = none) (hm : ∀ H', H' p = some o → HoldM C H' k p vs) (r : RepL C F ρ xs vs) {n : Nat} (hn : κ n = none) :
    ∃ ρ', Ext F ρ F ρ' ∧ ρ' n = some p ∧ StR C F ρ' (kset κ n (.live k xs)) (upd H p o) := by
  have ex : Ext F ρ F (fun m => if m = n then some p else ρ m) := ⟨fun _ _ e => e, fun m a e => by
    have : m ≠ n := fun z => by rw [z, S.free n hn] at e; cases e
    show (if m = n then some p else ρ m) = some a
    rw [if_neg this]; exact e⟩
  have fp : F p = none := by
    cases e : F p with
    | none => rfl
    | some u => rw [S.sub p u e] at h; cases h
  refine ⟨_, ex, if_pos rfl, ⟨fun a u e => ?_, fun m k' xs' e => ?_, fun m m' a k1 x1 k2 x2 e e' r1 r2 => ?_, fun m e => ?_, ?_⟩⟩
  · rw [upd_ne (ne_of_none (S.sub a u e) h)]; exact S.sub a u e
  · by_cases hm' : m = n
    · subst hm'
      rw [kset_same] at e
      cases e
      exact ⟨p, vs, if_pos rfl, fp, hm _ upd_same, r.ext ex⟩
    · rw [kset_ne hm'] at e
      obtain ⟨a, ws, h1, h2, h3, h4⟩ := S.live m k' xs' e
      obtain ⟨u, hu⟩ := h3.is
      have ne : a ≠ p := ne_of_none hu h
      exact ⟨a, ws, by rw [if_neg hm']; exact h1, h2, h3.same (upd_ne ne), h4.ext ex⟩
  · have key : ∀ {m a k1 x1}, m ≠ n → kset κ n (.live k xs) m = some (.live k1 x1) → (if m = n then some p else ρ m) = some a → a ≠ p := by
      intro m a k1 x1 hm' e r1
      rw [kset_ne hm'] at e
      obtain ⟨b, ws, h1, h2, h3, h4⟩ := S.live m k1 x1 e
      rw [if_neg hm', h1] at r1
      cases r1
      obtain ⟨u, hu⟩ := h3.is
      exact ne_of_none hu h
    by_cases h1 : m = n
    · by_cases h2 : m' = n
      · exact h1.trans h2.symm
      · have := key h2 e' r2
        rw [if_pos h1] at r1
        cases r1
        exact absurd rfl this
    · by_cases h2 : m' = n
      · have := key h1 e r1
        rw [if_pos h2] at r2
        cases r2
        exact absurd rfl this
      · rw [kset_ne h1] at e
        rw [kset_ne h2] at e'
        rw [if_neg h1] at r1
        rw [if_neg h2] at r2
        exact S.inj _ _ _ _ _ _ _ e e' r1 r2
  · have hm' : m ≠ n := fun z => by rw [z, kset_same] at e; cases e
    rw [kset_ne hm'] at e
    show (if m = n then some p else ρ m) = none
    rw [if_neg hm']
    exact S.free m e
  · obtain ⟨N, hN⟩ := S.fin
    refine ⟨max N (n + 1), fun m hm' => ?_⟩
    rw [kset_ne (by omega)]
    exact hN m (by omega)
theorem StR.fresh (S : StR C F ρ κ H) : ∃ n, κ n = none := let ⟨N, h⟩ := S.fin; ⟨N, h N (Nat.le_refl _)⟩
/-- a cell is written -/
theorem StR.write (S : StR C F ρ κ H) {n : Nat} {a : Addr} {o : HO} {k k' : Kd} {xs xs' : List D} {vs' : List V} (hn : κ n = some (.live k xs)) (ha : ρ n = some a) (hm : ∀ H', H' a = some o → HoldM C H' k' a vs') (r : RepL C F ρ xs' vs') :
    StR C F ρ (kset κ n (.live k' xs')) (upd H a o) := by
  have fa : F a = none := by
    obtain ⟨b, vs, h1, h2, _⟩ := S.live n k xs hn
    rw [ha] at h1
    cases h1
    exact h2
  refine ⟨fun b u e => ?_, fun m k1 x1 e => ?_, fun m m' b k1 x1 k2 x2 e e' r1 r2 => ?_, fun m e => ?_, ?_⟩
  · rw [upd_ne (ne_of_none e fa)]; exact S.sub b u e
  · by_cases hm' : m = n
    · subst hm'
      rw [kset_same] at e
      cases e
      exact ⟨a, vs', ha, fa, hm _ upd_same, r⟩
    · rw [kset_ne hm'] at e
      obtain ⟨b, ws, h1, h2, h3, h4⟩ := S.live m k1 x1 e
      have ne : b ≠ a := fun z => hm' (S.inj m n a k1 x1 k xs e hn (z ▸ h1) ha)
      exact ⟨b, ws, h1, h2, h3.same (upd_ne ne), h4⟩
  · have key : ∀ {m k1 x1}, kset κ n (.live k' xs') m = some (.live k1 x1) → ∃ k2 x2, κ m = some (.live k2 x2) := by
      intro m k1 x1 e
      by_cases z : m = n
      · exact ⟨k, xs, z ▸ hn⟩
      · rw [kset_ne z] at e
        exact ⟨_, _, e⟩
    obtain ⟨_, _, q1⟩ := key e
    obtain ⟨_, _, q2⟩ := key e'
    exact S.inj _ _ _ _ _ _ _ q1 q2 r1 r2
  · have hm' : m ≠ n := fun z => by rw [z, kset_same] at e; cases e
    rw [kset_ne hm'] at e
    exact S.free m e
  · obtain ⟨N, hN⟩ := S.fin
    refine ⟨max N (n + 1), fun m hm' => ?_⟩
    rw [kset_ne (by omega)]
    exact hN m (by omega)
theorem HoldM.toK {k : Kd} {a : Addr} {vs : List V} (h : HoldM C H k a vs) : ∃ o, H a = some o ∧ ∀ F : Hp, F a = some o → HoldK C F k a vs := by
  cases k with
  | lst => exact ⟨_, h, fun F e => e⟩
  | dct ks => obtain ⟨kvs, h1, h2⟩ := h; exact ⟨_, h1, fun F e => ⟨kvs, e, h2⟩⟩
  | obj c ns => obtain ⟨ca, dx, fs, h0, h1, h2⟩ := h; exact ⟨_, h1, fun F e => ⟨ca, dx, fs, h0, e, h2⟩⟩
  | tbk x => obtain ⟨h0, ps, h1, h2⟩ := h; exact ⟨_, h1, fun F e => ⟨h0, ps, e, h2⟩⟩
  | _ => exact h.elim
end
/-! ### slots -/
def RepS (C : Ctx) (F : Hp) (ρ : Loc0) (δ : DEnv) (σ : L2.St) : Prop := δ.length = σ.length ∧ ∀ (i : Nat) (d : D), δ[i]? = some (some d) → ∃ v : V, σ[i]? = some (some v) ∧ Rep C F ρ d v
section
variable {C : Ctx} {F F' : Hp} {ρ ρ' : Loc0} {δ : DEnv} {σ : L2.St}
theorem RepS.ext (e : Ext F ρ F' ρ') (h : RepS C F ρ δ σ) : RepS C F' ρ' δ σ := ⟨h.1, fun i d q => let ⟨v, a, b⟩ := h.2 i d q; ⟨v, a, b.ext e⟩⟩
theorem RepS.set (h : RepS C F ρ δ σ) {d : D} {v : V} (r : Rep C F ρ d v) (i : Nat) : RepS C F ρ (δ.set i (some d)) (σ.set i (some v)) := by
  refine ⟨by rw [List.length_set, List.length_set]; exact h.1, fun j e q => ?_⟩
  by_cases hj : i = j
  · subst hj
    by_cases hi : i < δ.length
    · rw [List.getElem?_set_self hi] at q
      cases q
      exact ⟨v, List.getElem?_set_self (h.1 ▸ hi), r⟩
    · rw [List.getElem?_eq_none (by simpa using hi)] at q; cases q
  · rw [List.getElem?_set_ne hj] at q ⊢
    exact h.2 j e q
def dwipe (δ : DEnv) : List Nat → DEnv
  | [] => δ
  | v :: vs => (dwipe δ vs).set v none
end
/-- an exception: its class by name, its fields -/
structure RepX (C : Ctx) (F : Hp) (ρ : Loc0) (c : Str) (fs : List D) (cls : Value) (dd : Option Addr) : Prop where
  cls : C.mg c = some cls ∧ ∃ a, cls = .ref a
  fs : ∃ vs, RepL C F ρ fs vs ∧ ((vs = [] ∧ dd = none) ∨ ∃ d ns, dd = some d ∧ F d = some (.xd ns) ∧ vs = xflat ns)
theorem RepX.ext {C : Ctx} {F F' : Hp} {ρ ρ' : Loc0} (e : Ext F ρ F' ρ') {c : Str} {fs : List D} {cls : Value} {dd : Option Addr} (h : RepX C F ρ c fs cls dd) : RepX C F' ρ' c fs cls dd := by
  obtain ⟨h1, vs, h2, h3⟩ := h
  refine ⟨h1, vs, h2.ext e, ?_⟩
  rcases h3 with h3 | ⟨d, ns, h3, h4, h5⟩
  · exact .inl h3
  · exact .inr ⟨d, ns, h3, e.f _ _ h4, h5⟩
/-! ### posts -/
def Post (C : Ctx) (F : Hp) (ρ : Loc0) (QD : DQ) (Q : VK) : Prop := ∀ F' ρ' κ' H' d v, Ext F ρ F' ρ' → StR C F' ρ' κ' H' → Rep C F' ρ' d v → QD d κ' → Q v H'
def PostT (C : Ctx) (F : Hp) (ρ : Loc0) (QD : Bool → Kap → Prop) (Q : Bool → Hp → Prop) : Prop := ∀ F' ρ' κ' H' b, Ext F ρ F' ρ' → StR C F' ρ' κ' H' → QD b κ' → Q b H'
def PostA (C : Ctx) (F : Hp) (ρ : Loc0) (QD : List D → Kap → Prop) (Q : List V → Hp → Prop) : Prop := ∀ F' ρ' κ' H' ds vs, Ext F ρ F' ρ' → StR C F' ρ' κ' H' → RepL C F' ρ' ds vs → QD ds κ' → Q vs H'
def PostN (C : Ctx) (F : Hp) (ρ : Loc0) (QD : DEnv → Kap → Prop) (Q : L2.St → Hp → Prop) : Prop := ∀ F' ρ' κ' H' δ σ, Ext F ρ F' ρ' → StR C F' ρ' κ' H' → RepS C F' ρ' δ σ → QD δ κ' → Q σ H'
def PostX (C : Ctx) (F : Hp) (ρ : Loc0) (XD : DX) (W : WX) : Prop := ∀ F' ρ' κ' H' δ σ c fs cls dd, Ext F ρ F' ρ' → StR C F' ρ' κ' H' → RepS C F' ρ' δ σ → RepX C F' ρ' c fs cls dd → XD δ c fs κ' → W cls dd σ H'
structure PostE (C : Ctx) (F : Hp) (ρ : Loc0) (DD : DEnds) (T : Ends) : Prop where
  nx : PostN C F ρ DD.nx T.nx
  rt : Post C F ρ DD.rt T.rt
  bk : PostN C F ρ DD.bk T.bk
  ct : PostN C F ρ DD.ct T.ct
section
variable {C : Ctx} {F F' : Hp} {ρ ρ' : Loc0}
theorem Post.ext (e : Ext F ρ F' ρ') {QD : DQ} {Q : VK} (h : Post C F ρ QD Q) : Post C F' ρ' QD Q := fun F2 ρ2 κ H d v e2 => h F2 ρ2 κ H d v (e.trans e2)
theorem PostT.ext (e : Ext F ρ F' ρ') {QD : Bool → Kap → Prop} {Q : Bool → Hp → Prop} (h : PostT C F ρ QD Q) : PostT C F' ρ' QD Q := fun F2 ρ2 κ H d e2 => h F2 ρ2 κ H d (e.trans e2)
theorem PostA.ext (e : Ext F ρ F' ρ') {QD : List D → Kap → Prop} {Q : List V → Hp → Prop} (h : PostA C F ρ QD Q) : PostA C F' ρ' QD Q := fun F2 ρ2 κ H d v e2 => h F2 ρ2 κ H d v (e.trans e2)
theorem PostN.ext (e : Ext F ρ F' ρ') {QD : DEnv → Kap → Prop} {Q : L2.St → Hp → Prop} (h : PostN C F ρ QD Q) : PostN C F' ρ' QD Q := fun F2 ρ2 κ H d v e2 => h F2 ρ2 κ H d v (e.trans e2)
theorem PostX.ext (e : Ext F ρ F' ρ') {XD : DX} {W : WX} (h : PostX C F ρ XD W) : PostX C F' ρ' XD W := fun F2 ρ2 κ H a b c d x y e2 => h F2 ρ2 κ H a b c d x y (e.trans e2)
theorem PostE.ext (e : Ext F ρ F' ρ') {DD : DEnds} {T : Ends} (h : PostE C F ρ DD T) : PostE C F' ρ' DD T := ⟨h.nx.ext e, h.rt.ext e, h.bk.ext e, h.ct.ext e⟩
end
/-! ### lifts -/
def liftE (C : Ctx) (W : WX) (de : DE) : TE := fun σ H Q => ∃ F ρ κ δ XD QD, StR C F ρ κ H ∧ RepS C F ρ δ σ ∧ de δ κ XD QD ∧ Post C F ρ QD Q ∧ PostX C F ρ XD W
def liftT (C : Ctx) (W : WX) (dt : DT) : TT := fun σ H Q => ∃ F ρ κ δ XD QD, StR C F ρ κ H ∧ RepS C F ρ δ σ ∧ dt δ κ XD QD ∧ PostT C F ρ QD Q ∧ PostX C F ρ XD W
def liftA (C : Ctx) (W : WX) (da : DA) : TA := fun σ H Q => ∃ F ρ κ δ XD QD, StR C F ρ κ H ∧ RepS C F ρ δ σ ∧ da δ κ XD QD ∧ PostA C F ρ QD Q ∧ PostX C F ρ XD W
def liftS (C : Ctx) (W : WX) (ds : DS) : TS := fun T σ H => ∃ F ρ κ δ XD DD, StR C F ρ κ H ∧ RepS C F ρ δ σ ∧ ds δ κ XD DD ∧ PostE C F ρ DD T ∧ PostX C F ρ XD W
abbrev CtxOf (X : Cx) : Ctx := ⟨X.K, X.mg⟩
abbrev PED (X : Cx) (W : WX) (e : Expr) (de : DE) : Prop := PE X e (liftE (CtxOf X) W de)
abbrev PTD (X : Cx) (W : WX) (e : Expr) (dt : DT) : Prop := PT X e (liftT (CtxOf X) W dt)
abbrev PAD (X : Cx) (W : WX) (es : List Expr) (da : DA) : Prop := PA X es (liftA (CtxOf X) W da)
abbrev PSD (X : Cx) (W : WX) (st : Stmt) (ds : DS) : Prop := PS X st (liftS (CtxOf X) W ds)
abbrev PSsD (X : Cx) (W : WX) (st : List Stmt) (ds : DS) : Prop := PSs X st (liftS (CtxOf X) W ds)
section
variable {X : Cx}
theorem pe_weak {e : Expr} {t t' : TE} (h : PE X e t) (w : ∀ σ H Q, t' σ H Q → t σ H Q) : PE X e t' := ⟨fun pins s σ H Q I q => h.run pins s σ H Q I (w σ H Q q)⟩
theorem pt_weak {e : Expr} {t t' : TT} (h : PT X e t) (w : ∀ σ H Q, t' σ H Q → t σ H Q) : PT X e t' := ⟨fun pins s σ H Q I q => h.run pins s σ H Q I (w σ H Q q)⟩
theorem pa_weak {e : List Expr} {t t' : TA} (h : PA X e t) (w : ∀ σ H Q, t' σ H Q → t σ H Q) : PA X e t' := ⟨fun pos pins s σ H Q I q => h.run pos pins s σ H Q I (w σ H Q q)⟩
theorem ps_weak {e : Stmt} {t t' : TS} (h : PS X e t) (w : ∀ T σ H, t' T σ H → t T σ H) : PS X e t' := ⟨fun pins s σ H T I q => h.run pins s σ H T I (w T σ H q)⟩
theorem pss_weak {e : List Stmt} {t t' : TS} (h : PSs X e t) (w : ∀ T σ H, t' T σ H → t T σ H) : PSs X e t' := ⟨fun pins s σ H T I q => h.run pins s σ H T I (w T σ H q)⟩
end
end DL
/-! DL: expressions. -/
namespace DL
open PySem PySem.Spec PyProof.Rows L2
abbrev D1 := D → Kap → DQ → Prop
abbrev D2 := D → D → Kap → DQ → Prop
abbrev DN := List D → Kap → DQ → Prop
abbrev D1N := D → List D → Kap → DQ → Prop
def Sim1 (C : Ctx) (f : D1) (r : V → Hp → VK → Prop) : Prop := ∀ F ρ κ H x v QD Q, StR C F ρ κ H → Rep C F ρ x v → f x κ QD → Post C F ρ QD Q → r v H Q
def Sim2 (C : Ctx) (f : D2) (r : R2) : Prop := ∀ F ρ κ H x y v u QD Q, StR C F ρ κ H → Rep C F ρ x v → Rep C F ρ y u → f x y κ QD → Post C F ρ QD Q → r v u H Q
def SimN (C : Ctx) (f : DN) (r : List V → Hp → VK → Prop) : Prop := ∀ F ρ κ H xs vs QD Q, StR C F ρ κ H → RepL C F ρ xs vs → f xs κ QD → Post C F ρ QD Q → r vs H Q
/-! ### combinators -/
def dVar (i : Nat) : DE := fun δ κ _ Q => match δ[i]? with
  | some (some d) => Q d κ
  | _ => False
def dC (d : D) : DE := fun _ κ _ Q => Q d κ
def dOp (f : D2) (a b : DE) : DE := fun δ κ X Q => a δ κ X fun x κ1 => b δ κ1 X fun y κ2 => f x y κ2 Q
def dUn (f : D1) (a : DE) : DE := fun δ κ X Q => a δ κ X fun x κ1 => f x κ1 Q
def dNil : DA := fun _ κ _ Q => Q [] κ
def dCons (a : DE) (r : DA) : DA := fun δ κ X Q => a δ κ X fun x κ1 => r δ κ1 X fun xs κ2 => Q (x :: xs) κ2
def dB (f : DN) (as : DA) : DE := fun δ κ X Q => as δ κ X fun xs κ1 => f xs κ1 Q
/-- what is new: kept (false), or a cell (true) -/
def fNew (m : Bool) (k : Kd) (xs : List D) (κ : Kap) (Q : DQ) : Prop := match m with
  | false => Q (.node k xs) κ
  | true => ∀ n, κ n = none → Q (.cell n) (kset κ n (.live k xs))
def dTup (as : DA) : DE := fun δ κ X Q => as δ κ X fun xs κ1 => xs.length ≤ sizeLine ∧ Q (.tup xs) κ1
def dLst (m : Bool) (as : DA) : DE := fun δ κ X Q => as δ κ X fun xs κ1 => xs.length ≤ sizeLine ∧ fNew m .lst xs κ1 Q
/-- what a thing holds -/
def view (x : D) (κ : Kap) : Option (Kd × List D) := match x with
  | .node k xs => some (k, xs)
  | .cell n => match κ n with
    | some (.live k xs) => some (k, xs)
    | _ => none
  | _ => none
def truth (x : D) (κ : Kap) : Option Bool := match x with
  | .non => some false
  | .bl b => some b
  | .int i => some (i != 0)
  | .str y => if y.length ≤ sizeLine then some ((y.length : Int) != 0) else none
  | x => match view x κ with
    | some (.lst, xs) => some (!xs.isEmpty)
    | some (.tup, xs) => some (!xs.isEmpty)
    | some (.dct ks, _) => some (!ks.isEmpty)
    | _ => none
def withTruth (x : D) (κ : Kap) (P : Bool → Prop) : Prop := match truth x κ with
  | some b => P b
  | none => False
def dAnd (a b : DE) : DE := fun δ κ X Q => a δ κ X fun x κ1 => withTruth x κ1 fun t => if t = true then b δ κ1 X Q else Q x κ1
def dOr (a b : DE) : DE := fun δ κ X Q => a δ κ X fun x κ1 => withTruth x κ1 fun t => if t = true then Q x κ1 else b δ κ1 X Q
def dNot (a : DE) : DE := fun δ κ X Q => a δ κ X fun x κ1 => withTruth x κ1 fun t => Q (.bl (!t)) κ1
def dIf (t : DT) (a b : DE) : DE := fun δ κ X Q => t δ κ X fun k κ1 => if k = true then a δ κ1 X Q else b δ κ1 X Q
def dChain (f g : D2) (a b c : DE) : DE := fun δ κ X Q => a δ κ X fun x κ1 => b δ κ1 X fun y κ2 => f x y κ2 fun z κ3 => ∃ k, z = .bl k ∧ if k = true then c δ κ3 X (fun w κ4 => g y w κ4 Q) else Q (.bl false) κ3
/-! tests -/
def tTru (a : DE) : DT := fun δ κ X Q => a δ κ X fun x κ1 => withTruth x κ1 fun t => Q t κ1
def tBl (a : DE) : DT := fun δ κ X Q => a δ κ X fun x κ1 => ∃ k, x = .bl k ∧ Q k κ1
def tAndD (a b : DT) : DT := fun δ κ X Q => a δ κ X fun t κ1 => if t = true then b δ κ1 X Q else Q false κ1
def tOrD (a b : DT) : DT := fun δ κ X Q => a δ κ X fun t κ1 => if t = true then Q true κ1 else b δ κ1 X Q
def tNotD (a : DT) : DT := fun δ κ X Q => a δ κ X fun t κ1 => Q (!t) κ1
/-! ### lifts of combinators -/
section
variable {C : Ctx} {W : WX} {σ : L2.St} {H : Hp} {Q : VK} {a b c : DE}
theorem lift_op {f : D2} {r : R2} (hs : Sim2 C f r) (h : liftE C W (dOp f a b) σ H Q) : tOp r (liftE C W a) (liftE C W b) σ H Q := by
  obtain ⟨F, ρ, κ, δ, XD, QD, S, R, h, P, PX⟩ := h
  exact ⟨F, ρ, κ, δ, XD, _, S, R, h, fun F1 ρ1 κ1 H1 x v e1 S1 R1 h1 => ⟨F1, ρ1, κ1, δ, XD, _, S1, R.ext e1, h1, fun F2 ρ2 κ2 H2 y u e2 S2 R2 h2 => hs _ _ _ _ _ _ _ _ _ _ S2 (R1.ext e2) R2 h2 (P.ext (e1.trans e2)), PX.ext e1⟩, PX⟩
theorem lift_un {f : D1} {r : V → Hp → VK → Prop} (hs : Sim1 C f r) (h : liftE C W (dUn f a) σ H Q) : tUn r (liftE C W a) σ H Q := by
  obtain ⟨F, ρ, κ, δ, XD, QD, S, R, h, P, PX⟩ := h
  exact ⟨F, ρ, κ, δ, XD, _, S, R, h, fun F1 ρ1 κ1 H1 x v e1 S1 R1 h1 => hs _ _ _ _ _ _ _ _ S1 R1 h1 (P.ext e1), PX⟩
theorem lift_nil {Q : List V → Hp → Prop} (h : liftA C W dNil σ H Q) : tNil σ H Q := by
  obtain ⟨F, ρ, κ, δ, XD, QD, S, R, h, P, PX⟩ := h
  exact P _ _ _ _ _ _ (Ext.refl _ _) S .nil h
theorem lift_cons {r : DA} {Q : List V → Hp → Prop} (h : liftA C W (dCons a r) σ H Q) : tCons (liftE C W a) (liftA C W r) σ H Q := by
  obtain ⟨F, ρ, κ, δ, XD, QD, S, R, h, P, PX⟩ := h
  exact ⟨F, ρ, κ, δ, XD, _, S, R, h, fun F1 ρ1 κ1 H1 x v e1 S1 R1 h1 => ⟨F1, ρ1, κ1, δ, XD, _, S1, R.ext e1, h1, fun F2 ρ2 κ2 H2 ys us e2 S2 R2 h2 => P _ _ _ _ _ _ (e1.trans e2) S2 (.cons (R1.ext e2) R2) h2, PX.ext e1⟩, PX⟩
theorem lift_B {f : DN} {r : List V → Hp → VK → Prop} {as : DA} (hs : SimN C f r) (h : liftE C W (dB f as) σ H Q) : tCB r (liftA C W as) σ H Q := by
  obtain ⟨F, ρ, κ, δ, XD, QD, S, R, h, P, PX⟩ := h
  exact ⟨F, ρ, κ, δ, XD, _, S, R, h, fun F1 ρ1 κ1 H1 x v e1 S1 R1 h1 => hs _ _ _ _ _ _ _ _ S1 R1 h1 (P.ext e1), PX⟩
end
/-! ### new things -/
section
variable {C : Ctx} {F : Hp} {ρ : Loc0} {κ : Kap} {H : Hp} {Q : VK} {QD : DQ}
/-- what is new: o is the object, by its content -/
theorem new_of {m : Bool} {k : Kd} {o : HO} {xs : List D} {vs : List V} (S : StR C F ρ κ H) (r : RepL C F ρ xs vs) (hk : ∀ (F : Hp) (p : Addr), F p = some o → HoldK C F k p vs) (hm : ∀ (F : Hp) (p : Addr), F p = some o → HoldM C F k p vs) (h : fNew m k xs κ QD) (P : Post C F ρ QD Q) :
    ∀ p, H p = none → Q (.ref p) (upd H p o) := fun p hp => by
  cases m with
  | false =>
    obtain ⟨e, S1⟩ := S.laid (o := o) hp
    exact P _ _ _ _ _ _ e S1 (.node (hk _ _ upd_same) (r.ext e)) h
  | true =>
    obtain ⟨n, hn⟩ := S.fresh
    obtain ⟨ρ', e, hr, S1⟩ := S.cell (o := o) hp (fun H' q => hm H' p q) r hn
    exact P _ _ _ _ _ _ e S1 (.cell hr) (h n hn)
theorem new_lst {m : Bool} {xs : List D} {vs : List V} (S : StR C F ρ κ H) (r : RepL C F ρ xs vs) (h : fNew m .lst xs κ QD) (P : Post C F ρ QD Q) : ∀ p, H p = none → Q (.ref p) (upd H p (.lst vs)) :=
  new_of (k := .lst) S r (fun _ _ e => e) (fun _ _ e => e) h P
theorem new_tup {xs : List D} {vs : List V} (S : StR C F ρ κ H) (r : RepL C F ρ xs vs) (h : QD (.tup xs) κ) (P : Post C F ρ QD Q) : ∀ p, H p = none → Q (.ref p) (upd H p (.tup vs)) := fun p hp => by
  obtain ⟨e, S1⟩ := S.laid (o := .tup vs) hp
  exact P _ _ _ _ _ _ e S1 (.node (k := .tup) (SqT.of upd_same) (r.ext e)) h
/-- a kept thing, or a cell, as it lies in the heap -/
theorem view_at {x : D} {v : V} {k : Kd} {xs : List D} (S : StR C F ρ κ H) (r : Rep C F ρ x v) (h : view x κ = some (k, xs)) : ∃ a vs, v = .ref a ∧ HoldK C H k a vs ∧ RepL C F ρ xs vs := by
  cases r with
  | node hh rr =>
    cases h
    exact ⟨_, _, rfl, hh.ext S.sub, rr⟩
  | @cell n a hr =>
    have h' : (match κ n with
      | some (.live k xs) => some (k, xs)
      | _ => none) = some (k, xs) := h
    cases e : κ n with
    | none => rw [e] at h'; cases h'
    | some c =>
      cases c with
      | dead => rw [e] at h'; cases h'
      | live k' xs' =>
        rw [e] at h'
        cases h'
        obtain ⟨b, vs, h1, h2, h3, h4⟩ := S.live n k xs e
        rw [hr] at h1
        cases h1
        obtain ⟨o, ho, hk⟩ := h3.toK
        exact ⟨a, vs, rfl, hk H ho, h4⟩
  | _ => cases h
/-- a cell, as it may be written -/
theorem cell_at {n : Nat} {v : V} {k : Kd} {xs : List D} (S : StR C F ρ κ H) (r : Rep C F ρ (.cell n) v) (h : κ n = some (.live k xs)) : ∃ a vs, v = .ref a ∧ ρ n = some a ∧ HoldM C H k a vs ∧ RepL C F ρ xs vs := by
  cases r with
  | @cell n a hr =>
    obtain ⟨b, vs, h1, h2, h3, h4⟩ := S.live n k xs h
    rw [hr] at h1
    cases h1
    exact ⟨a, vs, rfl, hr, h3, h4⟩
theorem truth_at {x : D} {v : V} {t : Bool} (S : StR C F ρ κ H) (r : Rep C F ρ x v) (h : truth x κ = some t) : TruV C.K v H t := by
  have key : ∀ {x : D} {v : V}, Rep C F ρ x v → (match view x κ with
    | some (.lst, xs) => some (!xs.isEmpty)
    | some (.tup, xs) => some (!xs.isEmpty)
    | some (.dct ks, _) => some (!ks.isEmpty)
    | _ => none) = some t → TruV C.K v H t := by
    intro x v r h
    cases e : view x κ with
    | none => rw [e] at h; cases h
    | some p =>
      obtain ⟨k, xs⟩ := p
      obtain ⟨a, vs, rfl, hk, rl⟩ := view_at S r e
      have el : xs.isEmpty = vs.isEmpty := by
        have := rl.length
        cases xs <;> cases vs <;> first | rfl | (simp at this)
      rw [e] at h
      cases k with
      | lst => cases h; exact .inl ⟨vs, SqL.of hk, by rw [el]⟩
      | tup => cases h; exact .inr (.inl ⟨vs, hk, by rw [el]⟩)
      | dct ks =>
        cases h
        obtain ⟨kvs, h1, rfl, h3⟩ := hk
        exact .inr (.inr ⟨kvs, h1, by cases kvs <;> rfl⟩)
      | _ => cases h
  cases x with
  | non => cases r; cases h; rfl
  | bl b => cases r; cases h; rfl
  | int i => cases r; cases h; rfl
  | str y =>
    cases r
    have h' : (if y.length ≤ sizeLine then some ((y.length : Int) != 0) else none) = some t := h
    by_cases hy : y.length ≤ sizeLine
    · rw [if_pos hy] at h'
      cases h'
      exact ⟨hy, rfl⟩
    · rw [if_neg hy] at h'; cases h'
  | node k xs => exact key r h
  | cell n => exact key r h
  | _ => cases h
theorem withTruth_at {x : D} {v : V} {P : Bool → Prop} (S : StR C F ρ κ H) (r : Rep C F ρ x v) (h : withTruth x κ P) : ∃ t, TruV C.K v H t ∧ P t := by
  unfold withTruth at h
  cases e : truth x κ with
  | none => rw [e] at h; exact h.elim
  | some t => rw [e] at h; exact ⟨t, truth_at S r e, h⟩
end
/-! ### expressions' rules -/
section
variable {X : Cx} {W : WX} {e e1 e2 e3 : Expr} {es : List Expr} {a b c : DE} {as : DA} {t u : DT} {pos : Pos}
theorem pd_var (i : Nat) {x : Str} {pos : Pos} (hN : X.N[i]? = some x := by rfl) (hv : Vis X.env.scope x := by first | exact Or.inl rfl | exact Or.inr (Or.inl rfl) | exact Or.inr (Or.inr rfl)) (hd : (x == ("__debug__" : Str)) = false := by decide)
    (hcd : (x == ("__classdict__" : Str)) = false := by decide) : PED X W (.Name x pos) (dVar i) := pe_weak (pe_var hN hv hd hcd) fun σ H Q ⟨F, ρ, κ, δ, XD, QD, S, R, h, P, PX⟩ => by
  unfold dVar at h
  cases e : δ[i]? with
  | none => rw [e] at h; exact h.elim
  | some o =>
    cases o with
    | none => rw [e] at h; exact h.elim
    | some d =>
      rw [e] at h
      obtain ⟨v, h1, h2⟩ := R.2 i d e
      exact ⟨v, h1, P _ _ _ _ _ _ (Ext.refl _ _) S h2 h⟩
theorem pd_c {d : D} {v : V} (h : PE X e (tC v)) (r : ∀ F ρ, Rep (CtxOf X) F ρ d v) : PED X W e (dC d) := pe_weak h fun σ H Q ⟨F, ρ, κ, δ, XD, QD, S, R, h, P, PX⟩ => P _ _ _ _ _ _ (Ext.refl _ _) S (r _ _) h
theorem pd_int {i j pos} : PED X W (.Constant (.int i) j pos) (dC (.int i)) := pd_c pe_int fun _ _ => .int i
theorem pd_bl {b j pos} : PED X W (.Constant (.bool b) j pos) (dC (.bl b)) := pd_c pe_bl fun _ _ => .bl b
theorem pd_non {j pos} : PED X W (.Constant .none j pos) (dC .non) := pd_c pe_non fun _ _ => .non
theorem pd_op {op : Operator} {f : D2} {r : R2} (ho : OpR X (binaryOp op) r) (hs : Sim2 (CtxOf X) f r) (ha : PED X W e1 a) (hb : PED X W e2 b) : PED X W (.BinOp e1 op e2 pos) (dOp f a b) := pe_weak (pe_op ho ha hb) fun _ _ _ => lift_op hs
theorem pd_un {op : UnaryOp} {f : D1} {r : V → Hp → VK → Prop} (ho : UnR X (unaryOp op) r) (hs : Sim1 (CtxOf X) f r) (ha : PED X W e1 a) : PED X W (.UnaryOp op e1 pos) (dUn f a) := pe_weak (pe_un ho ha) fun _ _ _ => lift_un hs
theorem pd_cmp {op : CmpOp} {f : D2} {r : R2} (ho : OpR X (compareOp op) r) (hs : Sim2 (CtxOf X) f r) (ha : PED X W e1 a) (hb : PED X W e2 b) (hm : behindInMarks op e2 = false := by first | exact nomark _ | rfl) : PED X W (.Compare e1 [op] [e2] pos) (dOp f a b) := pe_weak (pe_cmpR ho ha hb hm) fun _ _ _ => lift_op hs
theorem pa_nilD : PAD X W [] dNil := pa_weak pa_nil fun _ _ _ => lift_nil
theorem pa_consD (ha : PED X W e a) (hr : PAD X W es as) (hs : starEach (e :: es) X.env = (false, eval e X.env) :: starEach es X.env := by rfl) : PAD X W (e :: es) (dCons a as) := pa_weak (pa_cons ha hr hs) fun _ _ _ => lift_cons
theorem pd_tup {x1} (h : PAD X W es as) : PED X W (.Tuple es x1 pos) (dTup as) := pe_weak (pe_tup h) fun σ H Q ⟨F, ρ, κ, δ, XD, QD, S, R, h, P, PX⟩ =>
  ⟨F, ρ, κ, δ, XD, _, S, R, h, fun F1 ρ1 κ1 H1 xs vs e1 S1 R1 h1 => ⟨by rw [← R1.length]; exact h1.1, new_tup S1 R1 h1.2 (P.ext e1)⟩, PX⟩
theorem pd_lst (m : Bool) (h : PAD X W es as) : PED X W (.List es pos) (dLst m as) := pe_weak (pe_lst h) fun σ H Q ⟨F, ρ, κ, δ, XD, QD, S, R, h, P, PX⟩ =>
  ⟨F, ρ, κ, δ, XD, _, S, R, h, fun F1 ρ1 κ1 H1 xs vs e1 S1 R1 h1 => ⟨by rw [← R1.length]; exact h1.1, new_lst S1 R1 h1.2 (P.ext e1)⟩, PX⟩
theorem pd_one {op} (h : PED X W e a) : PED X W (.BoolOp op [e] pos) a := pe_one h
theorem pd_and (ha : PED X W e1 a) (hb : PED X W (.BoolOp .And (e2 :: es) pos) b) : PED X W (.BoolOp .And (e1 :: e2 :: es) pos) (dAnd a b) := pe_weak (pe_andT ha hb) fun σ H Q ⟨F, ρ, κ, δ, XD, QD, S, R, h, P, PX⟩ =>
  ⟨F, ρ, κ, δ, XD, _, S, R, h, fun F1 ρ1 κ1 H1 x v e1 S1 R1 h1 => by
    obtain ⟨t, ht, q⟩ := withTruth_at S1 R1 h1
    refine ⟨t, ht, ?_⟩
    cases t with
    | true => exact ⟨F1, ρ1, κ1, δ, XD, _, S1, R.ext e1, q, P.ext e1, PX.ext e1⟩
    | false => exact P _ _ _ _ _ _ e1 S1 R1 q, PX⟩
theorem pd_or (ha : PED X W e1 a) (hb : PED X W (.BoolOp .Or (e2 :: es) pos) b) : PED X W (.BoolOp .Or (e1 :: e2 :: es) pos) (dOr a b) := pe_weak (pe_orT ha hb) fun σ H Q ⟨F, ρ, κ, δ, XD, QD, S, R, h, P, PX⟩ =>
  ⟨F, ρ, κ, δ, XD, _, S, R, h, fun F1 ρ1 κ1 H1 x v e1 S1 R1 h1 => by
    obtain ⟨t, ht, q⟩ := withTruth_at S1 R1 h1
    refine ⟨t, ht, ?_⟩
    cases t with
    | false => exact ⟨F1, ρ1, κ1, δ, XD, _, S1, R.ext e1, q, P.ext e1, PX.ext e1⟩
    | true => exact P _ _ _ _ _ _ e1 S1 R1 q, PX⟩
theorem pd_not (ha : PED X W e1 a) : PED X W (.UnaryOp .Not e1 pos) (dNot a) := pe_weak (pe_notT ha) fun σ H Q ⟨F, ρ, κ, δ, XD, QD, S, R, h, P, PX⟩ =>
  ⟨F, ρ, κ, δ, XD, _, S, R, h, fun F1 ρ1 κ1 H1 x v e1 S1 R1 h1 => by
    obtain ⟨t, ht, q⟩ := withTruth_at S1 R1 h1
    exact ⟨t, ht, P _ _ _ _ _ _ e1 S1 (.bl _) q⟩, PX⟩
theorem pd_if (ht : PTD X W e1 t) (ha : PED X W e2 a) (hb : PED X W e3 b) : PED X W (.IfExp e1 e2 e3 pos) (dIf t a b) := pe_weak (pe_ifExp ht ha hb) fun σ H Q ⟨F, ρ, κ, δ, XD, QD, S, R, h, P, PX⟩ =>
  ⟨F, ρ, κ, δ, XD, _, S, R, h, fun F1 ρ1 κ1 H1 k e1 S1 h1 => by
    cases k with
    | true => exact ⟨F1, ρ1, κ1, δ, XD, _, S1, R.ext e1, h1, P.ext e1, PX.ext e1⟩
    | false => exact ⟨F1, ρ1, κ1, δ, XD, _, S1, R.ext e1, h1, P.ext e1, PX.ext e1⟩, PX⟩
/-! tests -/
theorem lift_tBl {C : Ctx} {te : TE} {de : DE} (hl : ∀ {σ H Q}, liftE C W de σ H Q → te σ H Q) {σ : L2.St} {H : Hp} {Q : Bool → Hp → Prop} (h : liftT C W (tBl de) σ H Q) : tTest te σ H Q := by
  obtain ⟨F, ρ, κ, δ, XD, QD, S, R, h, P, PX⟩ := h
  refine hl ⟨F, ρ, κ, δ, XD, _, S, R, h, fun F1 ρ1 κ1 H1 x v e1 S1 R1 h1 => ?_, PX⟩
  obtain ⟨k, rfl, q⟩ := h1
  cases R1
  exact ⟨k, rfl, P _ _ _ _ _ e1 S1 q⟩
theorem pt_cmpD {op : CmpOp} {f : D2} {r : R2} (ho : OpR X (compareOp op) r) (hs : Sim2 (CtxOf X) f r) (ha : PED X W e1 a) (hb : PED X W e2 b) (hm : behindInMarks op e2 = false := by first | exact nomark _ | rfl) : PTD X W (.Compare e1 [op] [e2] pos) (tBl (dOp f a b)) :=
  pt_weak (pt_cmpR ho ha hb hm) fun _ _ _ => lift_tBl (lift_op hs)
theorem pt_truD (ha : PED X W e a) (he : ∀ whole, isTrue e X.env whole = (do let v ← whole; standAt e.pos; holding [v] (truthy v)) := by intro _; rfl) : PTD X W e (tTru a) := pt_weak (pt_truth ha he) fun σ H Q ⟨F, ρ, κ, δ, XD, QD, S, R, h, P, PX⟩ =>
  ⟨F, ρ, κ, δ, XD, _, S, R, h, fun F1 ρ1 κ1 H1 x v e1 S1 R1 h1 => by
    obtain ⟨t, ht, q⟩ := withTruth_at S1 R1 h1
    exact ⟨t, ht, P _ _ _ _ _ e1 S1 q⟩, PX⟩
theorem pt_notD (ha : PTD X W e t) : PTD X W (.UnaryOp .Not e pos) (tNotD t) := pt_weak (pt_not ha) fun σ H Q ⟨F, ρ, κ, δ, XD, QD, S, R, h, P, PX⟩ =>
  ⟨F, ρ, κ, δ, XD, _, S, R, h, fun F1 ρ1 κ1 H1 x e1 S1 h1 => P _ _ _ _ _ e1 S1 h1, PX⟩
abbrev PWD (X : Cx) (W : WX) (e : Expr) (dt : DT) : Prop := PW X e (liftT (CtxOf X) W dt)
theorem pw_weak {e : Expr} {t t' : TT} (h : PW X e t) (w : ∀ σ H Q, t' σ H Q → t σ H Q) : PW X e t' := ⟨fun wh pins s σ H Q I q => h.run wh pins s σ H Q I (w σ H Q q)⟩
theorem pw_or1D (ha : PTD X W e t) : PWD X W (.BoolOp .Or [e] pos) t := pw_or1 ha
theorem pw_orD (ha : PTD X W e1 t) (hb : PWD X W (.BoolOp .Or (e2 :: es) pos) u) : PWD X W (.BoolOp .Or (e1 :: e2 :: es) pos) (tOrD t u) := pw_weak (pw_or ha hb) fun σ H Q ⟨F, ρ, κ, δ, XD, QD, S, R, h, P, PX⟩ =>
  ⟨F, ρ, κ, δ, XD, _, S, R, h, fun F1 ρ1 κ1 H1 k e1 S1 h1 => by
    cases k with
    | true => exact P _ _ _ _ _ e1 S1 h1
    | false => exact ⟨F1, ρ1, κ1, δ, XD, _, S1, R.ext e1, h1, P.ext e1, PX.ext e1⟩, PX⟩
/-! built-ins by name -/
theorem pd_callB {x : Str} {p : Pos} {id : String} {f : DN} {r : List V → Hp → VK → Prop} (hc : CallR X (.builtin id) r) (hs : SimN (CtxOf X) f r) (hm : X.mg x = none) (ha : PAD X W (e :: es) as) (hg : Gl X x := by rfl) (hv : bootBuiltins x = some (.builtin id) := by decide +kernel) (hn : x ≠ "__name__" := by decide) (hdb : (x == ("__debug__" : Str)) = false := by decide)
    (he : starEach (e :: es) X.env = (false, eval e X.env) :: starEach es X.env := by rfl) (hpl : (backTo pos (starEach es X.env)).any (·.1) = false := by rfl) : PED X W (.Call (.Name x p) (e :: es) [] pos) (dB f as) :=
  pe_weak (pe_callB hc hg hm hv ha hn hdb he hpl) fun _ _ _ => lift_B hs
theorem pd_callTy {x : Str} {p : Pos} {T : String} {f : DN} {r : List V → Hp → VK → Prop} (hc : CallR X (.type T) r) (hs : SimN (CtxOf X) f r) (hm : X.mg x = none) (ha : PAD X W (e :: es) as) (hg : Gl X x := by rfl) (hv : bootBuiltins x = some (.type T) := by decide +kernel) (hn : x ≠ "__name__" := by decide) (hdb : (x == ("__debug__" : Str)) = false := by decide)
    (he : starEach (e :: es) X.env = (false, eval e X.env) :: starEach es X.env := by rfl) (hpl : (backTo pos (starEach es X.env)).any (·.1) = false := by rfl) : PED X W (.Call (.Name x p) (e :: es) [] pos) (dB f as) :=
  pe_weak (pe_callTy hc hg hm hv ha hn hdb he hpl) fun _ _ _ => lift_B hs
theorem pd_tyName {x : Str} {p : Pos} {T : String} (hm : X.mg x = none) (hg : Gl X x := by rfl) (hv : bootBuiltins x = some (.type T) := by decide +kernel) (hn : x ≠ "__name__" := by decide) (hdb : (x == ("__debug__" : Str)) = false := by decide) : PED X W (.Name x p) (dC (.ty T)) :=
  pd_c (v := .ty T) (pe_bltn hg hm hv rfl hn hdb) fun _ _ => .ty T
end
/-! ### operators over data -/
theorem OpR.or {X : Cx} {f : Value → Value → Sem Value} {r r' : R2} (h : OpR X f r) (h' : OpR X f r') : OpR X f (fun x y H Q => r x y H Q ∨ r' x y H Q) := by
  intro pins s σ H x y v u Q I rx ry q
  rcases q with q | q
  · exact h pins s σ H x y v u Q I rx ry q
  · exact h' pins s σ H x y v u Q I rx ry q
/-- two whole numbers, under a condition -/
def fI (c : Int → Int → Prop) (g : Int → Int → D) : D2 := fun x y κ Q => match x, y with
  | .int i, .int j => c i j ∧ Q (g i j) κ
  | _, _ => False
theorem sim_I {C : Ctx} {c : Int → Int → Prop} {g : Int → Int → Int} : Sim2 C (fI c fun i j => .int (g i j)) (rI c fun i j => .int (g i j)) := by
  intro F ρ κ H x y v u QD Q S rx ry h P
  cases x <;> cases y <;> first | exact h.elim | skip
  cases rx; cases ry
  exact ⟨_, _, rfl, rfl, h.1, P _ _ _ _ _ _ (Ext.refl _ _) S (.int _) h.2⟩
theorem sim_I0 {C : Ctx} {g : Int → Int → Int} : Sim2 C (fI (fun _ _ => True) fun i j => .int (g i j)) (rI0 fun i j => .int (g i j)) := by
  intro F ρ κ H x y v u QD Q S rx ry h P
  cases x <;> cases y <;> first | exact h.elim | skip
  cases rx; cases ry
  exact ⟨_, _, rfl, rfl, P _ _ _ _ _ _ (Ext.refl _ _) S (.int _) h.2⟩
/-- a floor division's divisor -/
def CDivD (_ j : Int) : Prop := j ≠ 0 ∧ j.natAbs.log2 < 9000
theorem op_fdivD {X : Cx} : OpR X (binaryOp .FloorDiv) (rI CDivD fun i j => .int (i.fdiv j)) := opI fun _ _ _ _ _ _ _ hc q => floordiv_int hc.1 q (.inl (PyProof.noPylong_of_log2 hc.2))
def fSub : D2 := fI (fun _ _ => True) fun i j => .int (i - j)
def fDiv : D2 := fI CDivD fun i j => .int (i.fdiv j)
def fMod : D2 := fI (fun _ j => j ≠ 0) fun i j => .int (i.fmod j)
def fMulI : D2 := fI CMulW fun i j => .int (i * j)
def fPow : D2 := fI CPow fun i j => .int (i ^ j.toNat)
section
variable {X : Cx} {W : WX} {e1 e2 : Expr} {a b : DE} {pos : Pos}
theorem pd_sub (ha : PED X W e1 a) (hb : PED X W e2 b) : PED X W (.BinOp e1 .Sub e2 pos) (dOp fSub a b) := pd_op op_sub sim_I0 ha hb
theorem pd_fdiv (ha : PED X W e1 a) (hb : PED X W e2 b) : PED X W (.BinOp e1 .FloorDiv e2 pos) (dOp fDiv a b) := pd_op op_fdivD sim_I ha hb
theorem pd_mod (ha : PED X W e1 a) (hb : PED X W e2 b) : PED X W (.BinOp e1 .Mod e2 pos) (dOp fMod a b) := pd_op op_modN sim_I ha hb
theorem pd_mulI (ha : PED X W e1 a) (hb : PED X W e2 b) : PED X W (.BinOp e1 .Mult e2 pos) (dOp fMulI a b) := pd_op op_mulW sim_I ha hb
theorem pd_pow (ha : PED X W e1 a) (hb : PED X W e2 b) : PED X W (.BinOp e1 .Pow e2 pos) (dOp fPow a b) := pd_op op_pow sim_I ha hb
end
/-- a + b: numbers, texts, lists, tuples; what is new is kept, or a cell -/
def fAdd (m : Bool) : D2 := fun x y κ Q => match x, y with
  | .int i, .int j => Q (.int (i + j)) κ
  | .str i, .str j => i.length + j.length ≤ sizeLine ∧ Q (.str (i ++ j)) κ
  | x, y => match view x κ, view y κ with
    | some (.lst, xs), some (.lst, ys) => xs.length + ys.length ≤ sizeLine ∧ fNew m .lst (xs ++ ys) κ Q
    | some (.tup, xs), some (.tup, ys) => xs ≠ [] ∧ ys ≠ [] ∧ xs.length + ys.length ≤ sizeLine ∧ Q (.tup (xs ++ ys)) κ
    | _, _ => False
def rAddV (K : PySem.W.Frag) : R2 := fun x y H Q => (rI0 fun i j => .int (i + j)) x y H Q ∨ (∃ i j, x = .str i ∧ y = .str j ∧ i.length + j.length ≤ sizeLine ∧ Q (.str (i ++ j)) H) ∨ rCat x y H Q ∨ rCatT K x y H Q
theorem op_addV {X : Cx} : OpR X (binaryOp .Add) (rAddV X.K) := OpR.or op_add (OpR.or op_add_str (OpR.or op_cat op_catT))
theorem sim_add {C : Ctx} {m : Bool} : Sim2 C (fAdd m) (rAddV C.K) := by
  intro F ρ κ H x y v u QD Q S rx ry h P
  have key : (match view x κ, view y κ with
    | some (.lst, xs), some (.lst, ys) => xs.length + ys.length ≤ sizeLine ∧ fNew m .lst (xs ++ ys) κ QD
    | some (.tup, xs), some (.tup, ys) => xs ≠ [] ∧ ys ≠ [] ∧ xs.length + ys.length ≤ sizeLine ∧ QD (.tup (xs ++ ys)) κ
    | _, _ => False) → rAddV C.K v u H Q := by
    intro h
    cases ex : view x κ with
    | none => rw [ex] at h; exact h.elim
    | some p =>
      cases ey : view y κ with
      | none => rw [ex, ey] at h; exact (show False by obtain ⟨k, xs⟩ := p; cases k <;> exact h).elim
      | some q =>
        obtain ⟨k, xs⟩ := p
        obtain ⟨k', ys⟩ := q
        rw [ex, ey] at h
        obtain ⟨p, vs, rfl, hk, rl⟩ := view_at S rx ex
        obtain ⟨q, us, rfl, hk', rl'⟩ := view_at S ry ey
        have l1 := rl.length
        have l2 := rl'.length
        cases k <;> cases k' <;> first | exact h.elim | skip
        · exact .inr (.inr (.inl ⟨p, q, vs, us, rfl, rfl, hk, hk', by rw [← l1, ← l2]; exact h.1, new_lst S (rl.append rl') h.2 P⟩))
        · obtain ⟨h1, h2, h3, h4⟩ := h
          refine .inr (.inr (.inr ⟨p, q, vs, us, rfl, rfl, hk, hk', ?_, by rw [← l1, ← l2]; exact h3, fun z => ?_, fun _ => new_tup S (rl.append rl') h4 P⟩))
          · intro z
            rw [z] at l1
            cases xs with
            | nil => exact h1 rfl
            | cons => simp at l1
          · rw [z] at l2
            cases ys with
            | nil => exact absurd rfl h2
            | cons => simp at l2
  cases x with
  | int i =>
    cases y with
    | int j => cases rx; cases ry; exact .inl ⟨i, j, rfl, rfl, P _ _ _ _ _ _ (Ext.refl _ _) S (.int _) h⟩
    | _ => exact key h
  | str i =>
    cases y with
    | str j => cases rx; cases ry; exact .inr (.inl ⟨i, j, rfl, rfl, h.1, P _ _ _ _ _ _ (Ext.refl _ _) S (.str _) h.2⟩)
    | _ => exact key h
  | _ => exact key h
theorem pd_add {X : Cx} {W : WX} {e1 e2 : Expr} {a b : DE} {pos : Pos} (m : Bool) (ha : PED X W e1 a) (hb : PED X W e2 b) : PED X W (.BinOp e1 .Add e2 pos) (dOp (fAdd m) a b) := pd_op op_addV sim_add ha hb
end DL
/-! DL: built-ins, subscripts, comparisons of data. -/
namespace DL
open PySem PySem.Spec PyProof.Rows L2
/-! ### data as the library's own data -/
def keyP : Key → PyData
  | .inl i => .int i
  | .inr x => .str x
mutual
inductive Pd (κ : Kap) : D → PyData → Prop
  | non : Pd κ .non .none
  | bl (b : Bool) : Pd κ (.bl b) (.bool b)
  | int (i : Int) : Pd κ (.int i) (.int i)
  | str (x : Str) : Pd κ (.str x) (.str x)
  | lst {x : D} {xs : List D} {ps : List PyData} (h : view x κ = some (.lst, xs)) (t : PdL κ xs ps) : Pd κ x (.list ps)
  | tup {x : D} {xs : List D} {ps : List PyData} (h : view x κ = some (.tup, xs)) (t : PdL κ xs ps) : Pd κ x (.tuple ps)
  | dct {x : D} {ks : List Key} {xs : List D} {ps : List PyData} (h : view x κ = some (.dct ks, xs)) (t : PdL κ xs ps) : Pd κ x (.dict ((ks.map keyP).zip ps))
inductive PdL (κ : Kap) : List D → List PyData → Prop
  | nil : PdL κ [] []
  | cons {d : D} {ds : List D} {p : PyData} {ps : List PyData} (h : Pd κ d p) (t : PdL κ ds ps) : PdL κ (d :: ds) (p :: ps)
end
mutual
def pdata : D → Option PyData
  | .non => some .none
  | .bl b => some (.bool b)
  | .int i => some (.int i)
  | .str x => some (.str x)
  | .node .lst xs => match pdataL xs with
    | some ps => some (.list ps)
    | none => none
  | .node .tup xs => match pdataL xs with
    | some ps => some (.tuple ps)
    | none => none
  | .node (.dct ks) xs => match pdataL xs with
    | some ps => some (.dict ((ks.map keyP).zip ps))
    | none => none
  | _ => none
def pdataL : List D → Option (List PyData)
  | [] => some []
  | x :: xs => match pdata x, pdataL xs with
    | some p, some ps => some (p :: ps)
    | _, _ => none
end
mutual
theorem pd_of {κ : Kap} : ∀ {x : D} {p : PyData}, pdata x = some p → Pd κ x p
  | .non, _, h => by cases h; exact .non
  | .bl b, _, h => by cases h; exact .bl b
  | .int i, _, h => by cases h; exact .int i
  | .str x, _, h => by cases h; exact .str x
  | .node .lst xs, p, h => by
    unfold pdata at h
    cases e : pdataL xs with
    | none => rw [e] at h; cases h
    | some ps => rw [e] at h; cases h; exact .lst rfl (pdL_of e)
  | .node .tup xs, p, h => by
    unfold pdata at h
    cases e : pdataL xs with
    | none => rw [e] at h; cases h
    | some ps => rw [e] at h; cases h; exact .tup rfl (pdL_of e)
  | .node (.dct ks) xs, p, h => by
    unfold pdata at h
    cases e : pdataL xs with
    | none => rw [e] at h; cases h
    | some ps => rw [e] at h; cases h; exact .dct rfl (pdL_of e)
  | .node .klst xs, p, h => by cases h
  | .node (.obj _ _) xs, p, h => by cases h
  | .node (.exc _ _) xs, p, h => by cases h
  | .node (.exa _ _ _) xs, p, h => by cases h
  | .node (.cau ..) xs, p, h => by cases h
  | .node (.tbk _) xs, p, h => by cases h
  | .node (.cod _) xs, p, h => by cases h
  | .node (.clo ..) xs, p, h => by cases h
  | .node (.fnk ..) xs, p, h => by cases h
  | .ty _, _, h => by cases h
  | .glb _, _, h => by cases h
  | .cell _, _, h => by cases h
theorem pdL_of {κ : Kap} : ∀ {xs : List D} {ps : List PyData}, pdataL xs = some ps → PdL κ xs ps
  | [], _, h => by cases h; exact .nil
  | x :: xs, _, h => by
    unfold pdataL at h
    cases e1 : pdata x with
    | none => rw [e1] at h; cases h
    | some p =>
      cases e2 : pdataL xs with
      | none => rw [e1, e2] at h; cases h
      | some ps => rw [e1, e2] at h; cases h; exact .cons (pd_of e1) (pdL_of e2)
end
/-- what a rule may lean on where it stands -/
structure Good (k : Nat) (X : Cx) (W : WX) : Prop where
  tk : L2N.Takes X W
  po : PassesOwn (model X.prog X.w) X.A X.env X.xe
  rm : Room k X.A
  gd : X.A.guards = some []
  sm : ∃ o, X.base.get? sysModules = some o
  calm : X.calm = true
  nd : X.N.Nodup
theorem Good.mono {j k : Nat} {X : Cx} {W : WX} (g : Good k X W) (h : j ≤ k) : Good j X W := ⟨g.tk, g.po, g.rm.mono h, g.gd, g.sm, g.calm, g.nd⟩
section
variable {X : Cx} {pins : List (Addr × Obj)} {σ : L2.St} {H : Hp} {s : Shared} {F : Hp} {ρ : Loc0} {κ : Kap}
theorem pairs_read : ∀ {es : List DictEntry} {kvs : List (Key × Value)} {P : Program} {w : World}, Pairs (mixKind P w) es kvs → (∃ as, ReadsAll s.heap (es.map (·.key)) ((kvs.map (·.1)).map keyP) as ∧ as = []) ∧ es.map (·.val) = kvs.map (·.2)
  | _, _, _, _, .nil => ⟨⟨[], .nil, rfl⟩, rfl⟩
  | _, _, P, w, .cons (e := e) (kv := kv) h1 h2 t => by
    obtain ⟨⟨as, h3, h4⟩, h5⟩ := pairs_read t
    subst h4
    refine ⟨⟨[] ++ [], ?_, rfl⟩, ?_⟩
    · rw [List.map_cons, List.map_cons, List.map_cons]
      refine .cons ?_ h3
      have h1' : keyIs kv.1 e.key = true := h1
      rcases keyIs_shape h1' with ⟨i, t, e1, e2⟩ | ⟨x, t, e1, e2⟩
      · rw [e1, e2]; exact .int i t
      · rw [e1, e2]; exact .str x t
    · rw [List.map_cons, List.map_cons, h5, h2]
theorem kv_split : ∀ {kvs : List (Key × V)} {vs : List (Key × Value)}, KV kvs vs → vs.map (·.1) = kvs.map (·.1) ∧ Vals (kvs.map (·.2)) (vs.map (·.2))
  | _, _, .nil => ⟨rfl, .nil⟩
  | _, _, .cons r t => by
    obtain ⟨h1, h2⟩ := kv_split t
    exact ⟨by rw [List.map_cons, List.map_cons, h1, r.1], .cons r.2 h2⟩
theorem dk_zip {as : List PyData} {bs : List PyData} (h : as.length = bs.length) : (as.zip bs).map (·.1) = as ∧ (as.zip bs).map (·.2) = bs := ⟨List.map_fst_zip (Nat.le_of_eq h), List.map_snd_zip (Nat.le_of_eq h.symm)⟩
theorem PdL.length : ∀ {xs : List D} {ps : List PyData}, PdL κ xs ps → xs.length = ps.length
  | _, _, .nil => rfl
  | _, _, .cons _ t => congrArg (· + 1) (PdL.length t)
mutual
theorem Pd.reads (I : Inv X pins σ H s) (sm : H sysModules = none) (S : StR (CtxOf X) F ρ κ H) : ∀ {x : D} {p : PyData} {v : V} {u : Value}, Pd κ x p → Rep (CtxOf X) F ρ x v → RelV v u → ∃ as, Reads s.heap u p as ∧ sysModules ∉ as
  | _, _, _, _, .non, r, rv => by cases r; cases rv; exact ⟨_, .none, fun h => by cases h⟩
  | _, _, _, _, .bl b, r, rv => by cases r; cases rv; exact ⟨_, .bool b, fun h => by cases h⟩
  | _, _, _, _, .int i, r, rv => by cases r; obtain ⟨t, rfl⟩ := rv; exact ⟨_, .int i t, fun h => by cases h⟩
  | _, _, _, _, .str x, r, rv => by cases r; obtain ⟨t, rfl⟩ := rv; exact ⟨_, .str x t, fun h => by cases h⟩
  | _, _, _, _, .lst h t, r, rv => by
    obtain ⟨a, vs, rfl, hk, rl⟩ := view_at S r h
    cases rv
    obtain ⟨its, rv, ⟨o, n, ho, hc, hdd, hd⟩, _⟩ := I.list (SqL.of hk)
    obtain ⟨as, hr, hn⟩ := PdL.reads I sm S t rl rv
    refine ⟨_, .list ho hc hd hr, fun hm => ?_⟩
    rcases List.mem_cons.mp hm with e | e
    · have hk' : H a = some (.lst vs) := hk
      rw [← e, sm] at hk'; cases hk'
    · exact hn e
  | _, _, _, _, .tup h t, r, rv => by
    obtain ⟨a, vs, rfl, hk, rl⟩ := view_at S r h
    cases rv
    obtain ⟨its, rv, ⟨o, ho, hc, n, hd⟩, _⟩ := I.tuple hk
    obtain ⟨as, hr, hn⟩ := PdL.reads I sm S t rl rv
    exact ⟨_, .tuple ho hc hd hr, hn⟩
  | _, _, _, _, .dct (ks := ks) (ps := ps) h t, r, rv => by
    obtain ⟨a, vs, rfl, ⟨kvs, hk, hk1, hk2⟩, rl⟩ := view_at S r h
    cases rv
    obtain ⟨_, hsys, vals, rel, o, es, ep, ho, hx, hd, _, hp, _⟩ := dk_of I.hok hk
    obtain ⟨q1, q2⟩ := kv_split rel
    obtain ⟨⟨as, hr, h0⟩, hv⟩ := pairs_read (s := s) hp
    subst h0
    rw [hk2] at q2
    obtain ⟨bs, hr2, hn⟩ := PdL.reads I sm S t rl (hv ▸ q2)
    have hl : (ks.map keyP).length = ps.length := by
      rw [← t.length, rl.length, ← hk1, ← hk2]
      simp only [List.length_map]
    obtain ⟨z1, z2⟩ := dk_zip hl
    refine ⟨_, .dict (as := []) (bs := bs) ho hx.1 hd (by rw [z1, ← hk1, ← q1]; exact hr) (by rw [z2]; exact hr2), fun hm => ?_⟩
    have hm' : sysModules ∈ a :: bs := hm
    rcases List.mem_cons.mp hm' with e | e
    · rw [← e, sm] at hk; cases hk
    · exact hn e
theorem PdL.reads (I : Inv X pins σ H s) (sm : H sysModules = none) (S : StR (CtxOf X) F ρ κ H) : ∀ {xs : List D} {ps : List PyData} {vs : List V} {us : List Value}, PdL κ xs ps → RepL (CtxOf X) F ρ xs vs → Vals vs us → ∃ as, ReadsAll s.heap us ps as ∧ sysModules ∉ as
  | _, _, _, _, .nil, r, rv => by cases r; cases rv; exact ⟨_, .nil, fun h => by cases h⟩
  | _, _, _, _, .cons h t, r, rv => by
    cases r with
    | cons r1 r2 =>
      cases rv with
      | cons v1 v2 =>
        obtain ⟨as, q1, n1⟩ := Pd.reads I sm S h r1 v1
        obtain ⟨bs, q2, n2⟩ := PdL.reads I sm S t r2 v2
        exact ⟨_, .cons q1 q2, fun hm => (List.mem_append.mp hm).elim n1 n2⟩
end
theorem Inv.sysm (I : Inv X pins σ H s) (sm : ∃ o, X.base.get? sysModules = some o) : H sysModules = none := let ⟨o, h⟩ := sm; (I.bs _ _ h).2
end
/-- two data, a truth -/
def fDat (g : PyData → PyData → Bool) : D2 := fun x y κ Q => ∃ p q, Pd κ x p ∧ Pd κ y q ∧ SeqAt.shaped p = true ∧ SeqAt.shaped q = true ∧ Q (.bl (g p q)) κ
def rDat (C : Ctx) (g : PyData → PyData → Bool) : R2 := fun v u H Q => ∃ F ρ κ x y p q, StR C F ρ κ H ∧ Rep C F ρ x v ∧ Rep C F ρ y u ∧ Pd κ x p ∧ Pd κ y q ∧ SeqAt.shaped p = true ∧ SeqAt.shaped q = true ∧ Q (.bl (g p q)) H
theorem sim_dat {C : Ctx} {g : PyData → PyData → Bool} : Sim2 C (fDat g) (rDat C g) := fun F ρ κ H x y v u QD Q S rx ry ⟨p, q, h1, h2, h3, h4, h5⟩ P => ⟨F, ρ, κ, x, y, p, q, S, rx, ry, h1, h2, h3, h4, P _ _ _ _ _ _ (Ext.refl _ _) S (.bl _) h5⟩
/-- x in ys: data in a list or a tuple -/
def inP (d : PyData) : PyData → Bool
  | .list ds => ds.any fun z => PyData.eqv z d
  | .tuple ds => ds.any fun z => PyData.eqv z d
  | _ => false
section
variable {X : Cx} {W : WX} {k : Nat}
theorem op_eqDat (g : Good k X W) : OpR X (compareOp .Eq) (rDat (CtxOf X) PyData.eqv) := by
  intro pins s σ H x y v u Q I rx ry ⟨F, ρ, κ, dx, dy, p, q, S, r1, r2, h1, h2, h3, h4, h5⟩
  obtain ⟨as, q1, _⟩ := Pd.reads I (Inv.sysm I g.sm) S h1 r1 rx
  obtain ⟨bs, q2, _⟩ := Pd.reads I (Inv.sysm I g.sm) S h2 r2 ry
  exact SeqAt.compareEq_shaped q1 q2 h3 h4 g.rm.units ⟨.bl _, H, I, rfl, h5⟩
theorem op_neDat (g : Good k X W) : OpR X (compareOp .NotEq) (rDat (CtxOf X) fun p q => !PyData.eqv p q) := by
  intro pins s σ H x y v u Q I rx ry ⟨F, ρ, κ, dx, dy, p, q, S, r1, r2, h1, h2, h3, h4, h5⟩
  obtain ⟨as, q1, _⟩ := Pd.reads I (Inv.sysm I g.sm) S h1 r1 rx
  obtain ⟨bs, q2, _⟩ := Pd.reads I (Inv.sysm I g.sm) S h2 r2 ry
  exact SeqAt.compareNe_shaped q1 q2 h3 h4 g.rm.units ⟨.bl _, H, I, rfl, h5⟩
end
def fEq : D2 := fDat PyData.eqv
def fNe : D2 := fDat fun p q => !PyData.eqv p q
section
variable {X : Cx} {W : WX} {k : Nat} {e1 e2 : Expr} {a b : DE} {pos : Pos}
theorem pd_eq (g : Good k X W) (ha : PED X W e1 a) (hb : PED X W e2 b) : PED X W (.Compare e1 [.Eq] [e2] pos) (dOp fEq a b) := pd_cmp (op_eqDat g) sim_dat ha hb
theorem pt_eq (g : Good k X W) (ha : PED X W e1 a) (hb : PED X W e2 b) : PTD X W (.Compare e1 [.Eq] [e2] pos) (tBl (dOp fEq a b)) := pt_cmpD (op_eqDat g) sim_dat ha hb
theorem pt_ne (g : Good k X W) (ha : PED X W e1 a) (hb : PED X W e2 b) : PTD X W (.Compare e1 [.NotEq] [e2] pos) (tBl (dOp fNe a b)) := pt_cmpD (op_neDat g) sim_dat ha hb
end
/-! ### order: numbers, texts -/
def fOrd (gi : Int → Int → Bool) (gs : Str → Str → Bool) : D2 := fun x y κ Q => match x, y with
  | .int i, .int j => Q (.bl (gi i j)) κ
  | .str i, .str j => Q (.bl (gs i j)) κ
  | _, _ => False
def rOrd (gi : Int → Int → Bool) (gs : Str → Str → Bool) : R2 := fun x y H Q => (rI0 fun i j => .bl (gi i j)) x y H Q ∨ ∃ i j, x = .str i ∧ y = .str j ∧ Q (.bl (gs i j)) H
theorem sim_ord {C : Ctx} {gi : Int → Int → Bool} {gs : Str → Str → Bool} : Sim2 C (fOrd gi gs) (rOrd gi gs) := by
  intro F ρ κ H x y v u QD Q S rx ry h P
  cases x <;> cases y <;> first | exact h.elim | skip
  · cases rx; cases ry; exact .inl ⟨_, _, rfl, rfl, P _ _ _ _ _ _ (Ext.refl _ _) S (.bl _) h⟩
  · cases rx; cases ry; exact .inr ⟨_, _, rfl, rfl, P _ _ _ _ _ _ (Ext.refl _ _) S (.bl _) h⟩
def fLtS : D2 := fOrd (fun i j => decide (i < j)) fun i j => decide (i.cps.toList < j.cps.toList)
def fLeS : D2 := fOrd (fun i j => decide (i ≤ j)) fun i j => !decide (j.cps.toList < i.cps.toList)
def fGtS : D2 := fOrd (fun i j => decide (j < i)) fun i j => decide (j.cps.toList < i.cps.toList)
def fGeS : D2 := fOrd (fun i j => decide (j ≤ i)) fun i j => !decide (i.cps.toList < j.cps.toList)
section
variable {X : Cx} {W : WX} {k : Nat} {e1 e2 e3 : Expr} {a b c : DE} {pos : Pos}
theorem op_ltS : OpR X (compareOp .Lt) (rOrd (fun i j => decide (i < j)) fun i j => decide (i.cps.toList < j.cps.toList)) := OpR.or op_lt op_lt_str
theorem op_leS : OpR X (compareOp .LtE) (rOrd (fun i j => decide (i ≤ j)) fun i j => !decide (j.cps.toList < i.cps.toList)) := OpR.or op_le op_le_str
theorem op_gtS : OpR X (compareOp .Gt) (rOrd (fun i j => decide (j < i)) fun i j => decide (j.cps.toList < i.cps.toList)) := OpR.or op_gt op_gt_str
theorem pd_lt (ha : PED X W e1 a) (hb : PED X W e2 b) : PED X W (.Compare e1 [.Lt] [e2] pos) (dOp fLtS a b) := pd_cmp op_ltS sim_ord ha hb
theorem pd_gt (ha : PED X W e1 a) (hb : PED X W e2 b) : PED X W (.Compare e1 [.Gt] [e2] pos) (dOp fGtS a b) := pd_cmp op_gtS sim_ord ha hb
theorem pt_lt (ha : PED X W e1 a) (hb : PED X W e2 b) : PTD X W (.Compare e1 [.Lt] [e2] pos) (tBl (dOp fLtS a b)) := pt_cmpD op_ltS sim_ord ha hb
theorem pt_le (ha : PED X W e1 a) (hb : PED X W e2 b) : PTD X W (.Compare e1 [.LtE] [e2] pos) (tBl (dOp fLeS a b)) := pt_cmpD op_leS sim_ord ha hb
theorem pt_gt (ha : PED X W e1 a) (hb : PED X W e2 b) : PTD X W (.Compare e1 [.Gt] [e2] pos) (tBl (dOp fGtS a b)) := pt_cmpD op_gtS sim_ord ha hb
end
/-! ### is -/
def isNon : D → Bool
  | .non => true
  | _ => false
def fIs : D2 := fun x y κ Q => y = .non ∧ Q (.bl (isNon x)) κ
theorem isNon_at {C : Ctx} {F : Hp} {ρ : Loc0} {x : D} {v : V} (r : Rep C F ρ x v) : decide (v = .non) = isNon x := by
  cases r <;> rfl
section
variable {X : Cx} {W : WX} {k : Nat} {e1 e2 : Expr} {a b : DE} {pos : Pos}
theorem sim_is {C : Ctx} : Sim2 C fIs (fun x y H Q => y = .non ∧ Q (.bl (decide (x = .non))) H) := fun F ρ κ H x y v u QD Q S rx ry ⟨h1, h2⟩ P => by
  subst h1; cases ry
  exact ⟨rfl, P _ _ _ _ _ _ (Ext.refl _ _) S (.bl _) (by rw [isNon_at rx]; exact h2)⟩
theorem pt_is (ha : PED X W e1 a) (hb : PED X W e2 b) : PTD X W (.Compare e1 [.Is] [e2] pos) (tBl (dOp fIs a b)) := pt_cmpD op_isN sim_is ha hb
end
/-! ### in -/
def strIn (i j : Str) : Bool := !(Builtin.Str.occurrences j i 0 j.length 1).isEmpty
def fIn (neg : Bool) : D2 := fun x y κ Q => match x, y with
  | .str i, .str j => Q (.bl (if neg then !strIn i j else strIn i j)) κ
  | x, y => ∃ p q, Pd κ x p ∧ Pd κ y q ∧ SeqAt.shaped p = true ∧ SeqAt.shaped q = true ∧ (∃ ds, q = .list ds ∨ q = .tuple ds) ∧ Q (.bl (if neg then !inP p q else inP p q)) κ
/-! ### subscripts -/
def fIx : D2 := fun x y κ Q => match x, y with
  | .str z, .int i => z.length ≤ sizeLine ∧ ∃ c, atI z.cps.toList i = some c ∧ Q (.str ⟨#[c]⟩) κ
  | x, .int i => match view x κ with
    | some (.lst, xs) => ∃ d, atI xs i = some d ∧ Q d κ
    | some (.tup, xs) => ∃ d, atI xs i = some d ∧ Q d κ
    | some (.klst, xs) => ∃ d, atI xs i = some d ∧ Q d κ
    | _ => False
  | _, _ => False
theorem atI_at {C : Ctx} {F : Hp} {ρ : Loc0} {xs : List D} {vs : List V} {i : Int} {d : D} (r : RepL C F ρ xs vs) (h : atI xs i = some d) : ∃ v, atI vs i = some v ∧ Rep C F ρ d v := by
  unfold atI at h ⊢
  rw [← r.length]
  cases e : ixN xs.length i with
  | none => rw [e] at h; cases h
  | some j =>
    rw [e] at h
    exact r.get h
theorem sim_ix {C : Ctx} : Sim2 C fIx (rIx C.K) := by
  intro F ρ κ H x y v u QD Q S rx ry h P
  have hy : ∃ i, y = .int i := by
    cases y <;> first | exact ⟨_, rfl⟩ | (exfalso; cases x <;> exact h)
  obtain ⟨i, rfl⟩ := hy
  cases ry
  have key : (match view x κ with
    | some (.lst, xs) => ∃ d, atI xs i = some d ∧ QD d κ
    | some (.tup, xs) => ∃ d, atI xs i = some d ∧ QD d κ
    | some (.klst, xs) => ∃ d, atI xs i = some d ∧ QD d κ
    | _ => False) → rIx C.K v (.int i) H Q := by
    intro h
    cases ex : view x κ with
    | none => rw [ex] at h; exact h.elim
    | some p =>
      obtain ⟨k, xs⟩ := p
      rw [ex] at h
      obtain ⟨p, vs, rfl, hk, rl⟩ := view_at S rx ex
      cases k <;> first | exact h.elim | skip
      · obtain ⟨d, h1, h2⟩ := h
        obtain ⟨v, h3, h4⟩ := atI_at rl h1
        exact .inl ⟨p, vs, i, v, rfl, rfl, SqL.of hk, h3, P _ _ _ _ _ _ (Ext.refl _ _) S h4 h2⟩
      · obtain ⟨d, h1, h2⟩ := h
        obtain ⟨v, h3, h4⟩ := atI_at rl h1
        exact .inr (.inl ⟨p, vs, i, v, rfl, rfl, hk, h3, P _ _ _ _ _ _ (Ext.refl _ _) S h4 h2⟩)
      · obtain ⟨d, h1, h2⟩ := h
        obtain ⟨v, h3, h4⟩ := atI_at rl h1
        exact .inl ⟨p, vs, i, v, rfl, rfl, hk, h3, P _ _ _ _ _ _ (Ext.refl _ _) S h4 h2⟩
  cases x with
  | str z =>
    cases rx
    obtain ⟨h1, c, h2, h3⟩ := h
    exact .inr (.inr ⟨z, i, c, rfl, rfl, h1, h2, P _ _ _ _ _ _ (Ext.refl _ _) S (.str _) h3⟩)
  | _ => exact key h
section
variable {X : Cx} {W : WX} {k : Nat} {e1 e2 : Expr} {a b : DE} {pos p2 : Pos}
theorem pd_ix (ha : PED X W e1 a) (hb : PED X W e2 b) (hs : PlainIx e2 := by exact fun _ _ => rfl) : PED X W (.Subscript e1 e2 pos) (dOp fIx a b) := pe_weak (pe_ix ix_seq ha hb hs) fun _ _ _ => lift_op sim_ix
end
/-! slices -/
abbrev DO := DEnv → Kap → DX → (Option Int → Kap → Prop) → Prop
def dNo : DO := fun _ κ _ Q => Q none κ
def dPart (a : DE) : DO := fun δ κ X Q => a δ κ X fun x κ1 => ∃ i, x = .int i ∧ Q (some i) κ1
def cutD (xs : List D) (lo hi : Option Int) : List D := (xs.drop (HT.sIx xs.length 0 lo)).take (HT.sIx xs.length xs.length hi - HT.sIx xs.length 0 lo)
def fSl (m : Bool) (x : D) (lo hi : Option Int) (κ : Kap) (Q : DQ) : Prop := match x with
  | .str z => z.length ≤ sizeLine ∧ Q (.str (cutS z lo hi)) κ
  | x => match view x κ with
    | some (.lst, xs) => fNew m .lst (cutD xs lo hi) κ Q
    | _ => False
def dSl (m : Bool) (a : DE) (lo hi : DO) : DE := fun δ κ X Q => a δ κ X fun x κ1 => lo δ κ1 X fun i κ2 => hi δ κ2 X fun j κ3 => fSl m x i j κ3 Q
/-! ### built-ins -/
def fLen : DN := fun xs κ Q => match xs with
  | [.str y] => y.length ≤ sizeLine ∧ Q (.int (y.length : Nat)) κ
  | [x] => match view x κ with
    | some (.lst, xs) => Q (.int (xs.length : Nat)) κ
    | some (.tup, xs) => Q (.int (xs.length : Nat)) κ
    | some (.klst, xs) => Q (.int (xs.length : Nat)) κ
    | _ => False
  | _ => False
theorem repL1 {C : Ctx} {F : Hp} {ρ : Loc0} {x : D} {vs : List V} (r : RepL C F ρ [x] vs) : ∃ v, vs = [v] ∧ Rep C F ρ x v := by
  cases r with
  | cons h t => cases t; exact ⟨_, rfl, h⟩
theorem repL2 {C : Ctx} {F : Hp} {ρ : Loc0} {x y : D} {vs : List V} (r : RepL C F ρ [x, y] vs) : ∃ v u, vs = [v, u] ∧ Rep C F ρ x v ∧ Rep C F ρ y u := by
  cases r with
  | cons h t =>
    obtain ⟨u, rfl, hu⟩ := repL1 t
    exact ⟨_, _, rfl, h, hu⟩
theorem sim_len {C : Ctx} : SimN C fLen (fun xs H Q => ∃ x n, xs = [x] ∧ LenV C.K x H n ∧ Q (.int n) H) := by
  intro F ρ κ H xs vs QD Q S r h P
  match xs, h with
  | [x], h =>
    obtain ⟨v, rfl, rx⟩ := repL1 r
    have key : (match view x κ with
      | some (.lst, xs) => QD (.int (xs.length : Nat)) κ
      | some (.tup, xs) => QD (.int (xs.length : Nat)) κ
      | some (.klst, xs) => QD (.int (xs.length : Nat)) κ
      | _ => False) → ∃ x n, [v] = [x] ∧ LenV C.K x H n ∧ Q (.int n) H := by
      intro h
      cases ex : view x κ with
      | none => rw [ex] at h; exact h.elim
      | some p =>
        obtain ⟨k, xs⟩ := p
        rw [ex] at h
        obtain ⟨p, vs, rfl, hk, rl⟩ := view_at S rx ex
        have l := rl.length
        cases k <;> first | exact h.elim | skip
        · exact ⟨_, _, rfl, .inl ⟨vs, SqL.of hk, rfl⟩, P _ _ _ _ _ _ (Ext.refl _ _) S (.int _) (by rw [← l]; exact h)⟩
        · exact ⟨_, _, rfl, .inr ⟨vs, hk, rfl⟩, P _ _ _ _ _ _ (Ext.refl _ _) S (.int _) (by rw [← l]; exact h)⟩
        · exact ⟨_, _, rfl, .inl ⟨vs, hk, rfl⟩, P _ _ _ _ _ _ (Ext.refl _ _) S (.int _) (by rw [← l]; exact h)⟩
    cases x with
    | str y => cases rx; exact ⟨_, _, rfl, ⟨h.1, rfl⟩, P _ _ _ _ _ _ (Ext.refl _ _) S (.int _) h.2⟩
    | _ => exact key h
  | x :: y :: r, h => exfalso; cases x <;> exact h
def fAbs : DN := fun xs κ Q => match xs with
  | [.int i] => Q (.int (if i < 0 then -i else i)) κ
  | _ => False
theorem sim_abs {C : Ctx} : SimN C fAbs (fun xs H Q => ∃ i, xs = [.int i] ∧ Q (.int (if i < 0 then -i else i)) H) := by
  intro F ρ κ H xs vs QD Q S r h P
  match xs, h with
  | [.int i], h =>
    obtain ⟨v, rfl, rx⟩ := repL1 r
    cases rx
    exact ⟨i, rfl, P _ _ _ _ _ _ (Ext.refl _ _) S (.int _) h⟩
def fMax2 : DN := fun xs κ Q => match xs with
  | [.int i, .int j] => Q (.int (if j > i then j else i)) κ
  | _ => False
def fMin2 : DN := fun xs κ Q => match xs with
  | [.int i, .int j] => Q (.int (if j < i then j else i)) κ
  | _ => False
theorem sim_max2 {C : Ctx} : SimN C fMax2 (fun xs H Q => ∃ i j, xs = [.int i, .int j] ∧ Q (.int (if j > i then j else i)) H) := by
  intro F ρ κ H xs vs QD Q S r h P
  match xs, h with
  | [.int i, .int j], h =>
    obtain ⟨v, u, rfl, rx, ry⟩ := repL2 r
    cases rx; cases ry
    exact ⟨i, j, rfl, P _ _ _ _ _ _ (Ext.refl _ _) S (.int _) h⟩
theorem sim_min2 {C : Ctx} : SimN C fMin2 (fun xs H Q => ∃ i j, xs = [.int i, .int j] ∧ Q (.int (if j < i then j else i)) H) := by
  intro F ρ κ H xs vs QD Q S r h P
  match xs, h with
  | [.int i, .int j], h =>
    obtain ⟨v, u, rfl, rx, ry⟩ := repL2 r
    cases rx; cases ry
    exact ⟨i, j, rfl, P _ _ _ _ _ _ (Ext.refl _ _) S (.int _) h⟩
/-- str(x): of a number, of a text -/
def fStr : DN := fun xs κ Q => match xs with
  | [.int i] => i.natAbs.log2 < 1920 ∧ Q (.str (toString i)) κ
  | [.str y] => Q (.str y) κ
  | _ => False
/-- int(x): of a number, of a truth -/
def fInt : DN := fun xs κ Q => match xs with
  | [.int i] => Q (.int i) κ
  | [.bl b] => Q (.int (if b then 1 else 0)) κ
  | _ => False
theorem sim_int {C : Ctx} : SimN C fInt (fun xs H Q => (∃ i, xs = [.int i] ∧ Q (.int i) H) ∨ ∃ k, xs = [.bl k] ∧ Q (.int (if k then 1 else 0)) H) := by
  intro F ρ κ H xs vs QD Q S r h P
  match xs, h with
  | [.int i], h =>
    obtain ⟨v, rfl, rx⟩ := repL1 r
    cases rx
    exact .inl ⟨i, rfl, P _ _ _ _ _ _ (Ext.refl _ _) S (.int _) h⟩
  | [.bl i], h =>
    obtain ⟨v, rfl, rx⟩ := repL1 r
    cases rx
    exact .inr ⟨i, rfl, P _ _ _ _ _ _ (Ext.refl _ _) S (.int _) h⟩
end DL
/-! DL: statements, loops, comprehensions. -/
namespace DL
open PySem PySem.Spec PyProof.Rows L2
/-! ### targets -/
abbrev DG := D → DEnv → Kap → DX → (DEnv → Kap → Prop) → Prop
abbrev DGs := List D → DEnv → Kap → DX → (DEnv → Kap → Prop) → Prop
def liftG (C : Ctx) (W : WX) (g : DG) : TG := fun v σ H Q => ∃ F ρ κ δ d XD QD, StR C F ρ κ H ∧ RepS C F ρ δ σ ∧ Rep C F ρ d v ∧ g d δ κ XD QD ∧ PostN C F ρ QD Q ∧ PostX C F ρ XD W
def liftGs (C : Ctx) (W : WX) (g : DGs) : TGs := fun vs σ H Q => ∃ F ρ κ δ ds XD QD, StR C F ρ κ H ∧ RepS C F ρ δ σ ∧ RepL C F ρ ds vs ∧ g ds δ κ XD QD ∧ PostN C F ρ QD Q ∧ PostX C F ρ XD W
abbrev PGD (X : Cx) (W : WX) (e : Expr) (g : DG) : Prop := PG X e (liftG (CtxOf X) W g)
abbrev PGsD (X : Cx) (W : WX) (es : List Expr) (g : DGs) : Prop := PGs X es (liftGs (CtxOf X) W g)
def gN (i : Nat) : DG := fun d δ κ _ Q => Q (δ.set i (some d)) κ
def gNilD : DGs := fun ds δ κ _ Q => ds = [] ∧ Q δ κ
def gConsD (g : DG) (r : DGs) : DGs := fun ds δ κ X Q => match ds with
  | d :: ds => g d δ κ X fun δ1 κ1 => r ds δ1 κ1 X Q
  | [] => False
def gTupD (n : Nat) (g : DGs) : DG := fun d δ κ X Q => ∃ xs, view d κ = some (.tup, xs) ∧ xs.length = n ∧ g xs δ κ X Q
section
variable {X : Cx} {W : WX} {e : Expr} {es : List Expr} {g : DG} {r : DGs} {pos : Pos}
theorem pg_weak {t t' : TG} (h : PG X e t) (w : ∀ v σ H Q, t' v σ H Q → t v σ H Q) : PG X e t' := ⟨fun pins s σ H x u Q I rx q => h.run pins s σ H x u Q I rx (w _ _ _ _ q)⟩
theorem pgs_weak {t t' : TGs} (h : PGs X es t) (w : ∀ v σ H Q, t' v σ H Q → t v σ H Q) : PGs X es t' := ⟨fun pins s σ H x u Q I rx q => h.run pins s σ H x u Q I rx (w _ _ _ _ q)⟩
theorem pg_nameD {i : Nat} {x : Str} (hN : X.N.Nodup) (hi : X.N[i]? = some x := by rfl) (hx : L2.Loc X.env.scope x := by first | exact Or.inl rfl | exact Or.inr rfl) (hf : X.fn x = true ∨ X.env.scope.names.lookup x = some .local := by first | exact .inl rfl | exact .inr rfl | assumption) : PGD X W (.Name x pos) (gN i) :=
  pg_weak (pg_name hN hi hx hf) fun v σ H Q ⟨F, ρ, κ, δ, d, XD, QD, S, R, r, h, P, PX⟩ => P _ _ _ _ _ _ (Ext.refl _ _) S (R.set r i) h
theorem pgs_nilD : PGsD X W [] gNilD := pgs_weak pgs_nil fun v σ H Q ⟨F, ρ, κ, δ, d, XD, QD, S, R, r, h, P, PX⟩ => by
  obtain ⟨rfl, h⟩ := h
  cases r
  exact ⟨rfl, P _ _ _ _ _ _ (Ext.refl _ _) S R h⟩
theorem pgs_consD (h1 : PGD X W e g) (h2 : PGsD X W es r) (hs : (assignEach (e :: es) X.env).map (·.2) = assign e X.env :: (assignEach es X.env).map (·.2) := by rfl) : PGsD X W (e :: es) (gConsD g r) := pgs_weak (pgs_cons h1 h2 hs) fun v σ H Q ⟨F, ρ, κ, δ, ds, XD, QD, S, R, rr, h, P, PX⟩ => by
  cases rr with
  | nil => exact h.elim
  | cons r1 r2 => exact ⟨_, _, rfl, F, ρ, κ, δ, _, XD, _, S, R, r1, h, fun F1 ρ1 κ1 H1 δ1 σ1 e1 S1 R1 h1 => ⟨F1, ρ1, κ1, δ1, _, XD, _, S1, R1, r2.ext e1, h1, P.ext e1, PX.ext e1⟩, PX⟩
theorem pg_tupD {n : Nat} {kk : Nat} (hc : X.calm = true) (h : PGsD X W es r) (hn : (assignEach es X.env).length = n := by rfl) (hst : (assignEach es X.env).findIdx? (·.1) = none := by rfl) : PGD X W (.Tuple es kk pos) (gTupD n r) :=
  pg_weak (pg_tup (k := kk) hc h hn hst) fun v σ H Q ⟨F, ρ, κ, δ, d, XD, QD, S, R, rr, ⟨xs, h1, h2, h3⟩, P, PX⟩ => by
  obtain ⟨a, vs, rfl, hk, rl⟩ := view_at S rr h1
  exact ⟨a, vs, rfl, hk, by rw [← rl.length]; exact h2, F, ρ, κ, δ, xs, XD, _, S, R, rl, h3, P, PX⟩
end
/-! o[i] = e : a cell's list | dict -/
def fSet : D → D → D → Kap → (Kap → Prop) → Prop := fun o i d κ Q => match o, i with
  | .cell n, .int j => match κ n with
    | some (.live .lst xs) => ∃ m, ixN xs.length j = some m ∧ Q (kset κ n (.live .lst (xs.set m d)))
    | _ => False
  | _, _ => False
def gSubD (o i : DE) (f : D → D → D → Kap → (Kap → Prop) → Prop) : DG := fun d δ κ X Q => o δ κ X fun x κ1 => i δ κ1 X fun y κ2 => f x y d κ2 fun κ3 => Q δ κ3
section
variable {X : Cx} {W : WX} {e1 e2 : Expr} {a b : DE} {pos : Pos}
theorem pg_subD (ho : PED X W e1 a) (hi : PED X W e2 b)
    (ha : ∀ v, assign (.Subscript e1 e2 pos) X.env v = (do
      let ov ← holding [v] (eval e1 X.env)
      let iv ← holding [v, ov] (eval e2 X.env)
      standAt pos
      holding [v, ov, iv] (setItem ov iv v)
      release [v, ov, iv] []) := by intro _; rfl) : PGD X W (.Subscript e1 e2 pos) (gSubD a b fSet) :=
  pg_weak (pg_sub ho hi set_list ha) fun v σ H Q ⟨F, ρ, κ, δ, d, XD, QD, S, R, rr, h, P, PX⟩ =>
  ⟨F, ρ, κ, δ, XD, _, S, R, h, fun F1 ρ1 κ1 H1 x u e1 S1 R1 h1 => ⟨F1, ρ1, κ1, δ, XD, _, S1, R.ext e1, h1, fun F2 ρ2 κ2 H2 y w e2 S2 R2 h2 => by
    have e12 := e1.trans e2
    have R1' := R1.ext e2
    cases x <;> first | (exfalso; cases y <;> exact h2) | skip
    rename_i n
    cases y <;> first | (exfalso; exact h2) | skip
    rename_i j
    cases R2
    have h2' : (match κ2 n with
      | some (.live .lst xs) => ∃ m, ixN xs.length j = some m ∧ QD δ (kset κ2 n (.live .lst (xs.set m d)))
      | _ => False) := h2
    cases ek : κ2 n with
    | none => rw [ek] at h2'; exact h2'.elim
    | some c =>
      cases c with
      | dead => rw [ek] at h2'; exact h2'.elim
      | live k xs =>
        rw [ek] at h2'
        cases k <;> first | exact h2'.elim | skip
        obtain ⟨m, h3, h4⟩ := h2'
        obtain ⟨p, vs, rfl, hr, hm, rl⟩ := cell_at S2 R1' ek
        refine ⟨p, vs, j, m, rfl, rfl, hm, by rw [← rl.length]; exact h3, ?_⟩
        exact P _ _ _ _ _ _ e12 (S2.write (k' := .lst) ek hr (fun H' q => q) (RepL.set (rr.ext e12) m rl)) (R.ext e12) h4, PX.ext e1⟩, PX⟩
end
/-! ### statements -/
def sSeq (a b : DS) : DS := fun δ κ X T => a δ κ X { T with nx := fun δ1 κ1 => b δ1 κ1 X T }
def sNil : DS := fun δ κ _ T => T.nx δ κ
def sAsg (e : DE) (g : DG) : DS := fun δ κ X T => e δ κ X fun d κ1 => g d δ κ1 X T.nx
def sExp (e : DE) : DS := fun δ κ X T => e δ κ X fun _ κ1 => T.nx δ κ1
def sRet (e : DE) : DS := fun δ κ X T => e δ κ X T.rt
def sRetN : DS := fun _ κ _ T => T.rt .non κ
def sIf (t : DT) (a b : DS) : DS := fun δ κ X T => t δ κ X fun k κ1 => if k = true then a δ κ1 X T else b δ κ1 X T
def sBrk : DS := fun δ κ _ T => T.bk δ κ
def sCon : DS := fun δ κ _ T => T.ct δ κ
def sNever : DS := fun _ _ _ _ => False
def sPar (i j : Nat) (as : DA) : DS := fun δ κ X T => as δ κ X fun ds κ1 => ∃ x y, ds = [x, y] ∧ T.nx ((δ.set i (some x)).set j (some y)) κ1
def sAug (i : Nat) (f : D2) (e : DE) : DS := fun δ κ X T => ∃ x, δ[i]? = some (some x) ∧ e δ κ X fun y κ1 => f x y κ1 fun z κ2 => T.nx (δ.set i (some z)) κ2
def sWhile (t : DT) (b : DS) : DS := fun δ κ X T => ∃ I : Nat → DEnv → Kap → Prop, (∃ m, I m δ κ) ∧ ∀ m δ κ, I m δ κ → t δ κ X fun k κ1 => if k = true then
    b δ κ1 X { nx := fun δ2 κ2 => ∃ m', m' < m ∧ I m' δ2 κ2, ct := fun δ2 κ2 => ∃ m', m' < m ∧ I m' δ2 κ2, bk := T.nx, rt := T.rt } else T.nx δ κ1
section
variable {X : Cx} {W : WX} {e e1 e2 e3 : Expr} {st : Stmt} {sts sts2 : List Stmt} {a b : DE} {as : DA} {t : DT} {u v : DS} {g : DG} {pos : Pos}
theorem sd_nil : PSsD X W [] sNil := pss_weak pss_nil fun T σ H ⟨F, ρ, κ, δ, XD, DD, S, R, h, P, PX⟩ => P.nx _ _ _ _ _ _ (Ext.refl _ _) S R h
theorem sd_cons (h1 : PSD X W st u) (h2 : PSsD X W sts v) : PSsD X W (st :: sts) (sSeq u v) := pss_weak (pss_cons h1 h2) fun T σ H ⟨F, ρ, κ, δ, XD, DD, S, R, h, P, PX⟩ =>
  ⟨F, ρ, κ, δ, XD, _, S, R, h, ⟨fun F1 ρ1 κ1 H1 δ1 σ1 e1 S1 R1 h1 => ⟨F1, ρ1, κ1, δ1, XD, DD, S1, R1, h1, P.ext e1, PX.ext e1⟩, P.rt, P.bk, P.ct⟩, PX⟩
theorem sd_one (h1 : PSD X W st u) : PSsD X W [st] u := pss_one h1
theorem sd_never {st : Stmt} : PSD X W st sNever := ps_weak ps_never fun T σ H ⟨F, ρ, κ, δ, XD, DD, S, R, h, P, PX⟩ => h.elim
theorem sd_con : PSD X W (.Continue pos) sCon := ps_weak ps_continue fun T σ H ⟨F, ρ, κ, δ, XD, DD, S, R, h, P, PX⟩ => P.ct _ _ _ _ _ _ (Ext.refl _ _) S R h
theorem sd_ret (ha : PED X W e a) : PSD X W (.Return (some e) pos) (sRet a) := ps_weak (ps_ret ha) fun T σ H ⟨F, ρ, κ, δ, XD, DD, S, R, h, P, PX⟩ => ⟨F, ρ, κ, δ, XD, _, S, R, h, P.rt, PX⟩
theorem sd_if (ht : PTD X W e t) (h1 : PSsD X W sts u) (h2 : PSsD X W sts2 v) : PSD X W (.If e sts sts2 pos) (sIf t u v) := ps_weak (ps_if ht h1 h2) fun T σ H ⟨F, ρ, κ, δ, XD, DD, S, R, h, P, PX⟩ =>
  ⟨F, ρ, κ, δ, XD, _, S, R, h, fun F1 ρ1 κ1 H1 k e1 S1 h1 => by
    cases k with
    | true => exact ⟨F1, ρ1, κ1, δ, XD, DD, S1, R.ext e1, h1, P.ext e1, PX.ext e1⟩
    | false => exact ⟨F1, ρ1, κ1, δ, XD, DD, S1, R.ext e1, h1, P.ext e1, PX.ext e1⟩, PX⟩
theorem sd_asg {tg : Expr} (ha : PED X W e a) (hg : PGD X W tg g) (hs : swapsWithSole [tg] e pos.line X.env = pure false := by rfl) (hw : swappedStores [tg] e X.env = pure none := by rfl)
    (h1 : (assignEach [tg] X.env).map (·.2) = [assign tg X.env] := by rfl) : PSD X W (.Assign [tg] e pos) (sAsg a g) := ps_weak (ps_asg ha hg hs hw h1) fun T σ H ⟨F, ρ, κ, δ, XD, DD, S, R, h, P, PX⟩ =>
  ⟨F, ρ, κ, δ, XD, _, S, R, h, fun F1 ρ1 κ1 H1 x v e1 S1 R1 h1 => ⟨F1, ρ1, κ1, δ, x, XD, _, S1, R.ext e1, R1, h1, P.nx.ext e1, PX.ext e1⟩, PX⟩
theorem sd_set (i : Nat) {x : Str} {pos' : Pos} (hN : X.N.Nodup) (ha : PED X W e a) (hi : X.N[i]? = some x := by rfl) (hx : L2.Loc X.env.scope x := by first | exact Or.inl rfl | exact Or.inr rfl) (hs : swapsWith e (some (.Name x pos')) pos.line X.env = pure false := by rfl)
    (hf : X.fn x = true ∨ X.env.scope.names.lookup x = some .local := by first | exact .inl rfl | exact .inr rfl | assumption) : PSD X W (.Assign [.Name x pos'] e pos) (sAsg a (gN i)) := ps_weak (ps_set hN hi hx ha hs hf) fun T σ H ⟨F, ρ, κ, δ, XD, DD, S, R, h, P, PX⟩ =>
  ⟨F, ρ, κ, δ, XD, _, S, R, h, fun F1 ρ1 κ1 H1 x v e1 S1 R1 h1 => P.nx _ _ _ _ _ _ e1 S1 ((R.ext e1).set R1 i) h1, PX⟩
theorem sd_par (i j : Nat) (hp : ∀ ta, PA X [e1, e2] ta → PS X st (tPar i j ta)) (ha : PAD X W [e1, e2] as) : PSD X W st (sPar i j as) := ps_weak (hp _ ha) fun T σ H ⟨F, ρ, κ, δ, XD, DD, S, R, h, P, PX⟩ =>
  ⟨F, ρ, κ, δ, XD, _, S, R, h, fun F1 ρ1 κ1 H1 ds vs e1 S1 R1 ⟨x, y, h0, h1⟩ => by
    subst h0
    obtain ⟨v, u, rfl, rx, ry⟩ := repL2 R1
    exact ⟨v, u, rfl, P.nx _ _ _ _ _ _ e1 S1 (((R.ext e1).set rx i).set ry j) h1⟩, PX⟩
theorem sd_while {k : Nat} (G : Good k X W) (ht : PTD X W e t) (hb : PSsD X W sts u) : PSD X W (.While e sts [] pos) (sWhile t u) := ps_weak (ps_while G.po ht hb) fun T σ H ⟨F, ρ, κ, δ, XD, DD, S, R, ⟨I, ⟨m0, h0⟩, h⟩, P, PX⟩ => by
  refine ⟨fun m σ H => ∃ F1 ρ1 κ1 δ1, Ext F ρ F1 ρ1 ∧ StR (CtxOf X) F1 ρ1 κ1 H ∧ RepS (CtxOf X) F1 ρ1 δ1 σ ∧ I m δ1 κ1, ⟨m0, F, ρ, κ, δ, Ext.refl _ _, S, R, h0⟩, ?_⟩
  rintro m σ H ⟨F1, ρ1, κ1, δ1, e1, S1, R1, h1⟩
  refine ⟨F1, ρ1, κ1, δ1, XD, _, S1, R1, h m δ1 κ1 h1, fun F2 ρ2 κ2 H2 k e2 S2 h2 => ?_, PX.ext e1⟩
  have e12 := e1.trans e2
  cases k with
  | true =>
    have again : PostN (CtxOf X) F2 ρ2 (fun δ2 κ2 => ∃ m', m' < m ∧ I m' δ2 κ2) (fun σ' H' => ∃ m', m' < m ∧ ∃ F1 ρ1 κ1 δ1, Ext F ρ F1 ρ1 ∧ StR (CtxOf X) F1 ρ1 κ1 H' ∧ RepS (CtxOf X) F1 ρ1 δ1 σ' ∧ I m' δ1 κ1) :=
      fun F3 ρ3 κ3 H3 δ3 σ3 e3 S3 R3 ⟨m', hm, h3⟩ => ⟨m', hm, F3, ρ3, κ3, δ3, e12.trans e3, S3, R3, h3⟩
    exact ⟨_, fun _ _ h => h, F2, ρ2, κ2, δ1, XD, _, S2, R1.ext e2, h2, ⟨again, P.rt.ext e12, P.nx.ext e12, again⟩, PX.ext e12⟩
  | false => exact P.nx _ _ _ _ _ _ e12 S2 (R1.ext e2) h2
end
/-! ### what is walked -/
/-- an iterator J of the hand layer goes through the data items while g holds of the cells -/
def ItOk (C : Ctx) (F : Hp) (ρ : Loc0) (J : It) (items : List D) (g : Kap → Prop) : Prop := ∀ F' ρ' κ' H' (i : Nat), Ext F ρ F' ρ' → StR C F' ρ' κ' H' → g κ' →
  (i = items.length → J.stop i H') ∧ ∀ d, items[i]? = some d → J.go i H' ∧ ∀ x H2, J.yld i H' x H2 → ∃ F2, Ext F' ρ' F2 ρ' ∧ StR C F2 ρ' κ' H2 ∧ Rep C F2 ρ' d x
abbrev DI := DEnv → Kap → DX → (List D → (Kap → Prop) → Kap → Prop) → Prop
def liftI (C : Ctx) (W : WX) (di : DI) : TI := fun σ H R => ∃ F ρ κ δ XD QD, StR C F ρ κ H ∧ RepS C F ρ δ σ ∧ di δ κ XD QD ∧
  (∀ F' ρ' κ' H' J items g, Ext F ρ F' ρ' → StR C F' ρ' κ' H' → ItOk C F' ρ' J items g → QD items g κ' → R J H') ∧ PostX C F ρ XD W
abbrev PID (X : Cx) (W : WX) (tg e : Expr) (di : DI) : Prop := PI X tg e (liftI (CtxOf X) W di)
theorem pi_weak {X : Cx} {tg e : Expr} {t t' : TI} (h : PI X tg e t) (w : ∀ σ H Q, t' σ H Q → t σ H Q) : PI X tg e t' := ⟨fun pins s σ H Q I q => h.run pins s σ H Q I (w σ H Q q)⟩
def gTrue : Kap → Prop := fun _ => True
/-- a list, a tuple, a text, a cell's list (that stays as it is) -/
def charsD (x : Str) : List D := x.cps.toList.map fun c => .str ⟨#[c]⟩
def iSeq (a : DE) : DI := fun δ κ X Q => a δ κ X fun d κ1 => match d with
  | .str x => Q (charsD x) gTrue κ1
  | .cell n => match κ1 n with
    | some (.live .lst xs) => Q xs (fun κ => κ n = some (.live .lst xs)) κ1
    | _ => False
  | d => match view d κ1 with
    | some (.lst, xs) => Q xs gTrue κ1
    | some (.klst, xs) => Q xs gTrue κ1
    | some (.tup, xs) => Q xs gTrue κ1
    | _ => False
theorem itOk_l {C : Ctx} {F : Hp} {ρ : Loc0} {k : PySem.W.Frag} {a : Addr} {vs : List V} {xs : List D} {g : Kap → Prop} (hk : ∀ F' ρ' κ' H', Ext F ρ F' ρ' → StR C F' ρ' κ' H' → g κ' → SqL C.K H' a vs) (hu : ∀ F' ρ' κ' H' ws, Ext F ρ F' ρ' → StR C F' ρ' κ' H' → g κ' → SqL C.K H' a ws → True)
    (r : RepL C F ρ xs vs) : ItOk C F ρ (Itl C.K a) xs g := fun F' ρ' κ' H' i e S hg => ⟨fun hi => ⟨vs, hk _ _ _ _ e S hg, by rw [← r.length]; omega⟩, fun d hd => by
    obtain ⟨v, hv, rv⟩ := (r.ext e).get hd
    refine ⟨⟨vs, v, hk _ _ _ _ e S hg, hv⟩, fun x H2 ⟨h1, h2⟩ => ?_⟩
    subst h1
    have ev : v = x := Option.some.inj (hv.symm.trans (h2 vs (hk _ _ _ _ e S hg)))
    subst ev
    exact ⟨F', Ext.refl _ _, S, rv⟩⟩
theorem itOk_t {C : Ctx} {F : Hp} {ρ : Loc0} {a : Addr} {vs : List V} {xs : List D} {g : Kap → Prop} (hk : ∀ F' ρ' κ' H', Ext F ρ F' ρ' → StR C F' ρ' κ' H' → g κ' → SqT C.K H' a vs)
    (r : RepL C F ρ xs vs) : ItOk C F ρ (Itt C.K a) xs g := fun F' ρ' κ' H' i e S hg => ⟨fun hi => ⟨vs, hk _ _ _ _ e S hg, by rw [← r.length]; omega⟩, fun d hd => by
    obtain ⟨v, hv, rv⟩ := (r.ext e).get hd
    refine ⟨⟨vs, v, hk _ _ _ _ e S hg, hv⟩, fun x H2 ⟨h1, h2⟩ => ?_⟩
    subst h1
    have ev : v = x := Option.some.inj (hv.symm.trans (h2 vs (hk _ _ _ _ e S hg)))
    subst ev
    exact ⟨F', Ext.refl _ _, S, rv⟩⟩
theorem itOk_s {C : Ctx} {F : Hp} {ρ : Loc0} {x : Str} : ItOk C F ρ (Its x) (charsD x) gTrue := fun F' ρ' κ' H' i e S hg => ⟨fun hi => by
    show x.cps.size ≤ i
    rw [hi]; unfold charsD; rw [List.length_map, Array.length_toList]; exact Nat.le_refl _, fun d hd => by
    unfold charsD at hd
    rw [List.getElem?_map, Option.map_eq_some_iff] at hd
    obtain ⟨c, hc, rfl⟩ := hd
    rw [Array.getElem?_toList] at hc
    have hlt : i < x.cps.size := by
      obtain ⟨h, _⟩ := Array.getElem?_eq_some_iff.mp hc
      exact h
    refine ⟨hlt, fun y H2 ⟨h1, c', h2, h3⟩ => ?_⟩
    subst h1 h3
    rw [hc] at h2
    cases h2
    exact ⟨F', Ext.refl _ _, S, .str _⟩⟩
section
variable {X : Cx} {pins : List (Addr × Obj)} {σ : L2.St} {H : Hp} {s : Shared} {R : It → Hp → Prop} {tg : Expr} {E : Value → Shared → Prop}
theorem iter_l (I : L2.Inv X pins σ H s) {p : Addr} {xs : List V} (hq : SqL X.K H p xs) (q : R (Itl X.K p) H) : wpAny (model X.prog X.w) X.A (pyIter (.ref p)) (PIE X pins σ tg R) E s := by
  obtain ⟨its, rv, pl, hz⟩ := I.list hq
  exact wpAny_pyIter_list pl.isList (pi_one (tk := s.toks) I _ (turn_list p _) ⟨_, Heap.get?_push_size _ rfl, rfl, rfl⟩ q)
theorem iter_t (I : L2.Inv X pins σ H s) {p : Addr} {xs : List V} (hq : SqT X.K H p xs) (q : R (Itt X.K p) H) : wpAny (model X.prog X.w) X.A (pyIter (.ref p)) (PIE X pins σ tg R) E s := by
  obtain ⟨its, rv, pl, hz⟩ := I.tuple hq
  exact wpAny_pyIter_tuple (show s.heap.IsTuple p its.toArray from pl) (pi_one (tk := s.toks) I _ (turn_tuple p _) ⟨_, Heap.get?_push_size _ rfl, rfl, rfl⟩ q)
theorem iter_s (I : L2.Inv X pins σ H s) {x : Str} {t : Tok} (q : R (Its x) H) : wpAny (model X.prog X.w) X.A (pyIter (.str x t)) (PIE X pins σ tg R) E s := by
  cases ha : x.cps.all (· < 128)
  · exact wpAny_pyIter_wide ha (pi_one (tk := s.toks) I _ (turn_str _ x t "str_iterator" (.inr rfl)) ⟨_, Heap.get?_push_size _ rfl, rfl, rfl⟩ q)
  · exact wpAny_pyIter_ascii ha (pi_one (tk := s.toks) I _ (turn_str _ x t "str_ascii_iterator" (.inl rfl)) ⟨_, Heap.get?_push_size _ rfl, rfl, rfl⟩ q)
end
/-- a value that can be walked, as an iterator -/
def ItV (K : PySem.W.Frag) (v : V) (H : Hp) (R : It → Hp → Prop) : Prop := (∃ x, v = .str x ∧ R (Its x) H) ∨ (∃ p xs, v = .ref p ∧ SqL K H p xs ∧ R (Itl K p) H) ∨ ∃ p xs, v = .ref p ∧ SqT K H p xs ∧ R (Itt K p) H
theorem pi_val {X : Cx} {tg e : Expr} {te : TE} (he : PE X e te) : PI X tg e (fun σ H R => te σ H fun v H1 => ItV X.K v H1 R) := by
  refine ⟨fun pins s σ H R I h => thn (he.run pins s σ H _ I h) fun u s1 ⟨v, H1, I1, r1, q⟩ => ?_⟩
  rcases q with ⟨x, rfl, q⟩ | ⟨p, xs, rfl, hq, q⟩ | ⟨p, xs, rfl, hq, q⟩
  · obtain ⟨t, rfl⟩ := r1
    exact iter_s I1 q
  · cases r1
    exact iter_l I1 hq q
  · cases r1
    exact iter_t I1 hq q
theorem pi_seqD {X : Cx} {W : WX} {tg e : Expr} {a : DE} (ha : PED X W e a) : PID X W tg e (iSeq a) := by
  refine pi_weak (pi_val ha) fun σ H Q ⟨F, ρ, κ, δ, XD, QD, S, R, h, P, PX⟩ => ⟨F, ρ, κ, δ, XD, _, S, R, h, fun F1 ρ1 κ1 H1 d v e1 S1 R1 h1 => ?_, PX⟩
  cases d with
  | str x => cases R1; exact .inl ⟨x, rfl, P _ _ _ _ _ _ _ e1 S1 itOk_s h1⟩
  | cell n =>
    have h1' : (match κ1 n with
      | some (.live .lst xs) => QD xs (fun κ => κ n = some (.live .lst xs)) κ1
      | _ => False) := h1
    cases ek : κ1 n with
    | none => rw [ek] at h1'; exact h1'.elim
    | some c =>
      cases c with
      | dead => rw [ek] at h1'; exact h1'.elim
      | live k xs =>
        rw [ek] at h1'
        cases k <;> first | exact h1'.elim | skip
        obtain ⟨p, vs, rfl, hr, hm, rl⟩ := cell_at S1 R1 ek
        refine .inr (.inl ⟨p, vs, rfl, SqL.of hm, P _ _ _ _ _ _ _ e1 S1 ?_ h1'⟩)
        intro F2 ρ2 κ2 H2 i e2 S2 hg
        obtain ⟨p2, vs2, r2, _, hm2, rl2⟩ := S2.live n _ _ hg
        rw [e2.r _ _ hr] at r2
        cases r2
        refine ⟨fun hi => ⟨vs2, SqL.of hm2, by rw [← rl2.length]; omega⟩, fun d hd => ?_⟩
        obtain ⟨w, hv, rv⟩ := rl2.get hd
        refine ⟨⟨vs2, w, SqL.of hm2, hv⟩, fun x H3 ⟨h3, h4⟩ => ?_⟩
        subst h3
        have ev : w = x := Option.some.inj (hv.symm.trans (h4 vs2 (SqL.of hm2)))
        subst ev
        exact ⟨F2, Ext.refl _ _, S2, rv⟩
  | node k xs =>
    cases R1 with
    | @node _ _ a vs hh rr =>
      cases k <;> first | exact h1.elim | skip
      · exact .inr (.inl ⟨a, vs, rfl, SqL.of (S1.sub _ _ hh), P _ _ _ _ _ _ _ e1 S1 (itOk_l (k := X.K) (fun F' ρ' κ' H' e S _ => SqL.of (S.sub _ _ (e.f _ _ hh))) (fun _ _ _ _ _ _ _ _ _ => trivial) rr) h1⟩)
      · exact .inr (.inr ⟨a, vs, rfl, sqt_ext S1.sub hh, P _ _ _ _ _ _ _ e1 S1 (itOk_t (fun F' ρ' κ' H' e S _ => sqt_ext S.sub (sqt_ext e.f hh)) rr) h1⟩)
      · exact .inr (.inl ⟨a, vs, rfl, sql_ext S1.sub hh, P _ _ _ _ _ _ _ e1 S1 (itOk_l (k := X.K) (fun F' ρ' κ' H' e S _ => sql_ext S.sub (sql_ext e.f hh)) (fun _ _ _ _ _ _ _ _ _ => trivial) rr) h1⟩)
  | _ => exact h1.elim
/-- range(n), range(a, b) -/
def rangeD (lo : Int) (n : Nat) : List D := (List.range n).map fun i => D.int (lo + (i : Nat))
def iRange1 (as : DA) : DI := fun δ κ X Q => as δ κ X fun xs κ1 => match xs with
  | [.int j] => -(2 ^ 62) ≤ j ∧ j < 2 ^ 62 ∧ Q (rangeD 0 j.toNat) gTrue κ1
  | _ => False
theorem itOk_r {C : Ctx} {F : Hp} {ρ : Loc0} {lo : Int} {n : Nat} : ItOk C F ρ (Itr lo n) (rangeD lo n) gTrue := fun F' ρ' κ' H' i e S hg => by
  unfold rangeD
  refine ⟨fun hi => by show n ≤ i; rw [hi, List.length_map, List.length_range]; exact Nat.le_refl _, fun d hd => ?_⟩
  rw [List.getElem?_map, Option.map_eq_some_iff] at hd
  obtain ⟨j, hj, rfl⟩ := hd
  obtain ⟨h1, h2⟩ := List.getElem?_eq_some_iff.mp hj
  rw [List.length_range] at h1
  rw [List.getElem_range] at h2
  subst h2
  refine ⟨h1, fun x H2 ⟨h3, h4⟩ => ?_⟩
  subst h3 h4
  exact ⟨F', Ext.refl _ _, S, .int _⟩
section
variable {X : Cx} {W : WX} {tg e1 e2 : Expr} {as : DA} {p pos : Pos}
theorem pi_range1D (hm : X.mg "range" = none) (ha : PAD X W [e1] as) (hg : Gl X "range" := by rfl) (hs : starEach [e1] X.env = [(false, eval e1 X.env)] := by rfl) : PID X W tg (.Call (.Name "range" p) [e1] [] pos) (iRange1 as) :=
  pi_weak (pi_range1 hg hm ha hs) fun σ H Q ⟨F, ρ, κ, δ, XD, QD, S, R, h, P, PX⟩ => ⟨F, ρ, κ, δ, XD, _, S, R, h, fun F1 ρ1 κ1 H1 xs vs e1 S1 R1 h1 => by
    match xs, h1 with
    | [.int j], h1 =>
      obtain ⟨v, rfl, r⟩ := repL1 R1
      cases r
      exact ⟨j, rfl, h1.1, h1.2.1, P _ _ _ _ _ _ _ e1 S1 itOk_r h1.2.2⟩, PX⟩
end
/-! ### for -/
def dLoop (g : DG) (b : DS) (gd : Kap → Prop) (X : DX) (T : DEnds) : List D → DEnv → Kap → Prop
  | [], δ, κ => gd κ ∧ T.nx δ κ
  | d :: ds, δ, κ => gd κ ∧ g d δ κ X fun δ1 κ1 => b δ1 κ1 X { nx := dLoop g b gd X T ds, ct := dLoop g b gd X T ds, bk := T.nx, rt := T.rt }
def sFor (it : DI) (g : DG) (b : DS) : DS := fun δ κ X T => it δ κ X fun items gd κ1 => dLoop g b gd X T items δ κ1
theorem dLoop_gd {g : DG} {b : DS} {gd : Kap → Prop} {X : DX} {T : DEnds} {ds : List D} {δ : DEnv} {κ : Kap} (h : dLoop g b gd X T ds δ κ) : gd κ := by
  cases ds with
  | nil => exact h.1
  | cons d ds => exact h.1
section
variable {X : Cx} {W : WX} {e : Expr} {tg : Expr} {sts : List Stmt} {it : DI} {g : DG} {b : DS} {pos : Pos} {k : Nat}
theorem sd_for (G : Good k X W) (hi : PID X W tg e it) (hg : PGD X W tg g) (hb : PSsD X W sts b) (hs : ∀ x, foldedSetIterable e X.env x = pure x := by intro _; rfl) : PSD X W (.For tg e sts [] pos) (sFor it g b) :=
  ps_weak (ps_for G.po G.calm hi hg hb hs) fun T σ H ⟨F, ρ, κ, δ, XD, DD, S, R, h, P, PX⟩ => by
  refine ⟨F, ρ, κ, δ, XD, _, S, R, h, fun F1 ρ1 κ1 H1 J items gd e1 S1 hJ h1 => ?_, PX⟩
  refine ⟨fun i m σ H => ∃ F2 ρ2 κ2 δ2, Ext F1 ρ1 F2 ρ2 ∧ StR (CtxOf X) F2 ρ2 κ2 H ∧ RepS (CtxOf X) F2 ρ2 δ2 σ ∧ i ≤ items.length ∧ m = items.length - i ∧ dLoop g b gd XD DD (items.drop i) δ2 κ2, ⟨_, F1, ρ1, κ1, δ, Ext.refl _ _, S1, R.ext e1, Nat.zero_le _, rfl, h1⟩, ?_⟩
  rintro i m σ H ⟨F2, ρ2, κ2, δ2, e2, S2, R2, hi, rfl, h2⟩
  obtain ⟨q1, q2⟩ := hJ F2 ρ2 κ2 H i e2 S2 (dLoop_gd h2)
  have e12 := e1.trans e2
  by_cases hlt : i < items.length
  · have hd : items[i]? = some items[i] := List.getElem?_eq_getElem hlt
    obtain ⟨q3, q4⟩ := q2 _ hd
    rw [List.drop_eq_getElem_cons hlt] at h2
    refine .inr ⟨q3, _, fun _ _ h => h, fun x H3 hy => ?_⟩
    obtain ⟨F3, e3, S3, R3⟩ := q4 x H3 hy
    have again : PostN (CtxOf X) F3 ρ2 (dLoop g b gd XD DD (items.drop (i + 1))) (fun σ' H' => ∃ m', m' < items.length - i ∧ ∃ F2 ρ2 κ2 δ2, Ext F1 ρ1 F2 ρ2 ∧ StR (CtxOf X) F2 ρ2 κ2 H' ∧ RepS (CtxOf X) F2 ρ2 δ2 σ' ∧ i + 1 ≤ items.length ∧ m' = items.length - (i + 1) ∧ dLoop g b gd XD DD (items.drop (i + 1)) δ2 κ2) :=
      fun F4 ρ4 κ4 H4 δ4 σ4 e4 S4 R4 h4 => ⟨_, by omega, F4, ρ4, κ4, δ4, e2.trans (e3.trans e4), S4, R4, hlt, rfl, h4⟩
    exact ⟨F3, ρ2, κ2, δ2, _, XD, _, S3, R2.ext e3, R3, h2.2, fun F4 ρ4 κ4 H4 δ4 σ4 e4 S4 R4 h4 => ⟨F4, ρ4, κ4, δ4, XD, _, S4, R4, h4, ⟨again.ext e4, P.rt.ext (e12.trans (e3.trans e4)), P.nx.ext (e12.trans (e3.trans e4)), again.ext e4⟩, PX.ext (e12.trans (e3.trans e4))⟩, PX.ext (e12.trans e3)⟩
  · have e : i = items.length := by omega
    subst e
    rw [List.drop_length] at h2
    exact .inl ⟨q1 rfl, P.nx _ _ _ _ _ _ e12 S2 R2 h2.2⟩
end
/-! ### list comprehensions -/
/-- the names that a comprehension's target binds: one (inl), or those of a tuple -/
abbrev TN := Sum Nat (List Nat)
def bindL : List Nat → List D → DEnv → Option DEnv
  | [], [], δ => some δ
  | i :: is, d :: ds, δ => bindL is ds (δ.set i (some d))
  | _, _, _ => none
def bindT (t : TN) (d : D) (δ : DEnv) (κ : Kap) : Option DEnv := match t with
  | .inl i => some (δ.set i (some d))
  | .inr is => match view d κ with
    | some (.tup, xs) => bindL is xs δ
    | _ => none
abbrev XF : DX := fun _ _ _ _ => False
def lcLoop (n : Nat) (t : TN) (tt : DT) (e : DE) (gd : Kap → Prop) (vs : List Nat) (δ : DEnv) (fin : List D → Kap → Prop) : List D → List D → Kap → Prop
  | [], acc, κ => gd κ ∧ fin acc κ
  | d :: ds, acc, κ => gd κ ∧ ∃ δ1, bindT t d (dwipe δ vs) κ = some δ1 ∧ tt δ1 κ XF fun b κ2 => if b = true then e δ1 κ2 XF fun y κ3 => κ3 n = some (.live .lst acc) ∧ acc.length < sizeLine ∧ lcLoop n t tt e gd vs δ fin ds (acc ++ [y]) (kset κ3 n (.live .lst (acc ++ [y])))
      else lcLoop n t tt e gd vs δ fin ds acc κ2
def dLc (m : Bool) (it : DI) (t : TN) (tt : DT) (e : DE) (vs : List Nat) : DE := fun δ κ X Q => it δ κ X fun items gd κ1 => ∀ n, κ1 n = none →
  lcLoop n t tt e gd vs δ (fun acc κ' => κ' n = some (.live .lst acc) ∧ if m = true then Q (.cell n) κ' else Q (.lst acc) (kset κ' n .dead)) items [] (kset κ1 n (.live .lst []))
def tYesD : DT := fun _ κ _ Q => Q true κ
end DL
/-! DL: defs, calls, the law's end. -/
namespace DL
open PySem PySem.Spec PyProof.Rows L2
def PostXE (C : Ctx) (F : Hp) (ρ : Loc0) (XD : Str → List D → Kap → Prop) (E : XK) : Prop := ∀ F' ρ' κ' H' c fs cls dd, Ext F ρ F' ρ' → StR C F' ρ' κ' H' → RepX C F' ρ' c fs cls dd → XD c fs κ' → E cls dd H'
/-- a def keeps a promise over data -/
structure FnG (P : Program) (w : World) (K : PySem.W.Frag) (mg : Str → Option Value) (base : Heap) (k : Nat) (f : Addr) (fd : FuncData) (ps : List Str) (sp : DSp) : Prop where
  len : ∀ ds κ XD Q, sp ds κ XD Q → ds.length = ps.length
  run : ∀ (A : Around) (outer : List Env) (s : Shared) (H : Hp) (args : Args) (us : List Value) (vs : List V) (ds : List D) (F : Hp) (ρ : Loc0) (κ : Kap) (XD : Str → List D → Kap → Prop) (QD : DQ) (Q : VK) (E : XK), Room k A → A.guards = some [] →
    Env0 P w K mg base A outer s H → BindsTo s fd args (ps.zip us) → Vals vs us → StR ⟨K, mg⟩ F ρ κ H → RepL ⟨K, mg⟩ F ρ ds vs → sp ds κ XD QD → Post ⟨K, mg⟩ F ρ QD Q → PostXE ⟨K, mg⟩ F ρ XD E →
    codeAny (model P w) A (.call (.ref f) args) (CR (L2N.CX P w) outer P w H s Q E) s
theorem FnG.mono {P : Program} {w : World} {K : PySem.W.Frag} {mg : Str → Option Value} {base : Heap} {j k : Nat} {f : Addr} {fd : FuncData} {ps : List Str} {sp : DSp} (F : FnG P w K mg base j f fd ps sp) (h : j ≤ k) : FnG P w K mg base k f fd ps sp :=
  ⟨F.len, fun A outer s H args us vs ds F0 ρ κ XD QD Q E hr => F.run A outer s H args us vs ds F0 ρ κ XD QD Q E (hr.mono h)⟩
/-- a def's promise, by its body -/
def startD (n : Nat) (ds : List D) : DEnv := ds.map some ++ List.replicate (n - ds.length) none
def spOf (n m : Nat) (b : DS) : DSp := fun ds κ XD Q => ds.length = m ∧ b (startD n ds) κ (fun _ c fs κ' => XD c fs κ') { nx := fun _ κ' => Q .non κ', rt := Q }
theorem repS_start {C : Ctx} {F : Hp} {ρ : Loc0} {N : List Str} {ds : List D} {vs : List V} (r : RepL C F ρ ds vs) : RepS C F ρ (startD N.length ds) (L2.start N vs) := by
  unfold startD L2.start
  refine ⟨by simp only [List.length_append, List.length_map, List.length_replicate, r.length], fun i d h => ?_⟩
  by_cases hi : i < ds.length
  · rw [List.getElem?_append_left (by rw [List.length_map]; exact hi), List.getElem?_map] at h
    rw [List.getElem?_append_left (by rw [List.length_map, ← r.length]; exact hi), List.getElem?_map]
    cases e : ds[i]? with
    | none => rw [e] at h; cases h
    | some d' =>
      rw [e] at h
      cases h
      obtain ⟨v, h1, h2⟩ := r.get e
      exact ⟨v, by rw [h1]; rfl, h2⟩
  · rw [List.getElem?_append_right (by rw [List.length_map]; omega), List.getElem?_replicate] at h
    split at h <;> cases h
abbrev cxD (P : Program) (w : World) (K : PySem.W.Frag) (mg : Str → Option Value) (base : Heap) (N : List Str) (qual : Str) (scope : Scope) (f : Addr) (cd : Value) (A : Around) (outer : List Env) (s : Shared) (H : Hp) (E : XK) : Cx :=
  cxOf (L2N.CX P w) P w K mg base N qual scope f cd A outer s H E
abbrev wxE (E : XK) : WX := fun cls d _ H => E cls d H
section
variable {P : Program} {w : World} {K : PySem.W.Frag} {mg : Str → Option Value} {base : Heap}
/-- THE RULE for a def -/
theorem Fn_ok {x qual : Str} {st : Stmt} {f : Addr} {fd : FuncData} {N ps : List Str} {k : Nat} {b : DS} (F : Fun K x qual st f fd) (S : FnScope N ps (defScope st)) (sm : ∃ o, base.get? sysModules = some o)
    (hbody : ∀ (cdv : Value) (A : Around) (outer : List Env) (s : Shared) (H : Hp) (E : XK), Good k (cxD P w K mg base N qual (defScope st) f cdv A outer s H E) (wxE E) → PSsD (cxD P w K mg base N qual (defScope st) f cdv A outer s H E) (wxE E) (defBody st) b) :
    FnG P w K mg base (k + 1) f fd ps (spOf N.length ps.length b) := by
  refine ⟨fun ds κ XD Q h => h.1, fun A outer s H args us vs ds F0 ρ κ XD QD Q E hr hg e0 hb rv S0 R0 hsp PQ PE => ?_⟩
  obtain ⟨oc, od, kV, doc, pm, an, cdv, ct, osl, rfl, lk, hcd⟩ := F.ex
  have hl : vs.length = ps.length := by rw [← R0.length, hsp.1]
  have KX : K.In s.heap := e0.mod.kin.keeps fun b o e => (e0.bs b o e).1
  have lim : s.heap.NoLimit := e0.mod.nolimit.keeps fun b o e => (e0.bs b o e).1
  have kinds : ∀ y ∈ ps.zip us, (defScope st).names.lookup y.1 = some .local ∨ ((defScope st).names.lookup y.1 = some .cell ∧ ((cellsFrom (s.heap.objs.size + 1) (defScope st).names []).lookup y.1).isSome = true) := fun y hy => by
    rcases S.par y.1 (List.of_mem_zip (a := y.1) (b := y.2) hy).1 with q | q
    · exact .inl q
    · exact .inr ⟨q, PySem.W.cellsFrom_some _ _ _ (.inl q)⟩
  refine codeAny_call_function hr.depth (KX _ _ lk) rfl S.co S.gen rfl (PySem.W.codeRec_of KX hcd) (hb _ _ _ _ (wpAny_newFunctionEnv_cells S.kind kinds fun env he s1 x => ?_))
  subst he
  refine ⟨lim.keeps x.toInCall.keep, codeAny_func ?_⟩
  have I := inv_start (CX := L2N.CX P w) (N := N) (qual := qual) (E := E) (f := f) (cd := cdv) S hr.hd e0 hl rv x
  have g : Good k (cxD P w K mg base N qual (defScope st) f cdv A outer s H E) (wxE E) :=
    ⟨L2N.takes_of rfl rfl rfl rfl, passes_of rfl, hr.deeper _, hg, sm, rfl, S.nd⟩
  refine wpAny_mono ((hbody cdv A outer s H E g).run [] s1 _ H ⟨fun _ H' => Q .non H', Q, fun _ _ => False, fun _ _ => False⟩ I
    ⟨F0, ρ, κ, startD N.length ds, _, _, S0, repS_start R0, hsp.2, ⟨fun F' ρ' κ' H' δ σ e S R q => PQ _ _ _ _ _ _ e S .non q, PQ, fun _ _ _ _ _ _ _ _ _ z => z.elim, fun _ _ _ _ _ _ _ _ _ z => z.elim⟩,
      fun F' ρ' κ' H' δ σ c fs cls dd e S R rx q => PE _ _ _ _ _ _ _ _ e S rx q⟩) (fun fl s' hs => ?_) fun e s' hs => hs
  cases fl with
  | ret u =>
    obtain ⟨v, σ', H', J, rv', q⟩ := hs
    exact ⟨v, H', J.os, J.bare, J.base, J.hok, rv', q⟩
  | next =>
    obtain ⟨σ', H', J, q⟩ := hs
    exact ⟨.non, H', J.os, J.bare, J.base, J.hok, rfl, q⟩
  | brk => obtain ⟨_, _, _, q⟩ := hs; exact q.elim
  | cont => obtain ⟨_, _, _, q⟩ := hs; exact q.elim
end
/-! ### calls -/
def dCall (sp : DSp) (dvs : List D) (as : DA) : DE := fun δ κ X Q => as δ κ X fun xs κ1 => sp (xs ++ dvs) κ1 (X δ) Q
section
variable {X : Cx} {W : WX} {k : Nat} {f : Addr} {fd : FuncData} {ps : List Str} {sp : DSp} {dvs : List D} {ds : List Value} {x : Str} {e : Expr} {es : List Expr} {as : DA} {p pos : Pos}
theorem run_fnG {pins : List (Addr × Obj)} {σ : L2.St} {δ : DEnv} {H : Hp} {s : Shared} {Q : VK} {us : List Value} {vs : List V} {args : Args} {xs : List D} {F : Hp} {ρ : Loc0} {κ : Kap} {XD : DX} {QD : DQ} (G : Good k X W) (F1 : FnG X.prog X.w X.K X.mg X.base k f fd ps sp) (I : L2.Inv X pins σ H s) (hb : BindsTo s fd args (ps.zip us)) (r : Vals vs us)
    (S : StR (CtxOf X) F ρ κ H) (R : RepS (CtxOf X) F ρ δ σ) (rr : RepL (CtxOf X) F ρ xs vs) (h : sp xs κ (XD δ) QD) (P : Post (CtxOf X) F ρ QD Q) (PX : PostX (CtxOf X) F ρ XD W) : wpAny (model X.prog X.w) X.A (call (.ref f) args.pos args.kw) (EP X pins σ Q) X.xe s := by
  refine wpAny_call (codeAny_mono (F1.run X.A X.stack s H args us vs xs F ρ κ _ _ Q (fun cls dd H' => W cls dd σ H') G.rm G.gd I.env0 hb r S rr h P fun F' ρ' κ' H' c fs cls dd e S' rx q => PX _ _ _ _ _ _ _ _ _ _ e S' (R.ext e) rx q) fun rs s' hq => ?_)
  cases rs with
  | error er => exact G.tk er s' (L2N.XE.of_call I (fun _ _ _ h => h) hq)
  | ok fl =>
    cases fl with
    | ret u => exact I.after hq
    | next => exact False.elim hq
    | brk => exact False.elim hq
    | cont => exact False.elim hq
theorem pd_call (G : Good k X W) (F1 : FnG X.prog X.w X.K X.mg X.base k f fd ps sp) (hm : X.mg x = some (.ref f)) (hk : PySem.W.keepIn X.K (.ref f) = true) (hb : Binds X.K fd ps ds) (hd : ∃ dv, Vals dv ds ∧ ∀ F ρ, RepL (CtxOf X) F ρ dvs dv)
    (ha : PAD X W (e :: es) as) (hg : Gl X x := by rfl) (hdb : (x == ("__debug__" : Str)) = false := by decide) (he : starEach (e :: es) X.env = (false, eval e X.env) :: starEach es X.env := by rfl) (hpl : (backTo pos (starEach es X.env)).any (·.1) = false := by rfl) :
    PED X W (.Call (.Name x p) (e :: es) [] pos) (dCall sp dvs as) := by
  refine ⟨fun pins s σ H Q I ⟨F, ρ, κ, δ, XD, QD, S, R, h, P, PX⟩ => ?_⟩
  refine wpAny_Call_Name_kw (ld_glob I hg hm ?_ hdb)
  refine PySem.W.callWith_K (h₀ := X.base) I.ok.mod.kin hk (thn (ha.run pos pins s σ H (fun vs H1 => ∃ F1 ρ1 κ1 xs, Ext F ρ F1 ρ1 ∧ StR (CtxOf X) F1 ρ1 κ1 H1 ∧ RepL (CtxOf X) F1 ρ1 xs vs ∧ sp (xs ++ dvs) κ1 (XD δ) QD) I
    ⟨F, ρ, κ, δ, XD, _, S, R, h, fun F1 ρ1 κ1 H1 xs vs e1 S1 R1 h1 => ⟨F1, ρ1, κ1, xs, e1, S1, R1, h1⟩, PX⟩) fun us s1 ⟨vs, H1, I1, r1, F2, ρ1, κ1, xs, e1, S1, R1, h1⟩ => ⟨I1.kIn, ?_⟩) he hpl
  obtain ⟨dv, v1, v2⟩ := hd
  have hl : (us ++ ds).length = ps.length := by
    rw [← F1.len _ _ _ _ h1, List.length_append, List.length_append, R1.length, Paired.length r1, (v2 F2 ρ1).length, Paired.length v1]
  exact run_fnG G F1 (args := ⟨us, []⟩) I1 (hb s1 us I1.kIn hl) (r1.append v1) S1 (R.ext e1) (R1.append (v2 _ _)) h1 (P.ext e1) (PX.ext e1)
end
/-- no defaults -/
theorem nodef {X : Cx} : ∃ dv, Vals dv ([] : List Value) ∧ ∀ F ρ, RepL (CtxOf X) F ρ [] dv := ⟨[], .nil, fun _ _ => .nil⟩
/-! ### the law's end -/
theorem repL_script {C : Ctx} {F : Hp} {ρ : Loc0} {a : Addr} {ns : List Int} (h : SqL C.K F a (ns.map V.int)) : RepL C F ρ [.node .klst (ns.map D.int)] [.ref a] :=
  .cons (.node (k := .klst) h RepL.ofInts) .nil
theorem seer_sys {h : Heap} (x : h.NoSeer) : ∃ mm, h.Ns sysModules mm := let ⟨mm, e, _⟩ := x.mods; ⟨mm, e⟩
end DL
/-! DL: isinstance, methods of texts and lists, own exceptions made and raised. -/
namespace DL
open PySem PySem.Spec PyProof.Rows L2
/-! ### types -/
/-- a thing's type: built-in, a class of objects, a class of exceptions -/
inductive TyK where
  | b (n : String)
  | o (c : Str)
  | e (c : Str)
  deriving DecidableEq
/-- a class asked for: built-in, own -/
inductive CK where
  | b (n : String)
  | c (c : Str)
  deriving DecidableEq
def kdTy : Kd → Option TyK
  | .lst => some (.b "list")
  | .klst => some (.b "list")
  | .tup => some (.b "tuple")
  | .dct _ => some (.b "dict")
  | .obj c _ => some (.o c)
  | .exc c _ => some (.e c)
  | .exa c _ _ => some (.e c)
  | .cau .. => none
  | .tbk _ => none
  | .cod _ => none
  | .clo .. => none
  | .fnk .. => none
def tyK (x : D) (κ : Kap) : Option TyK := match x with
  | .non => some (.b "NoneType")
  | .bl _ => some (.b "bool")
  | .int _ => some (.b "int")
  | .str _ => some (.b "str")
  | x => (view x κ).bind fun p => kdTy p.1
def clsK : D → Option CK
  | .ty n => some (.b n)
  | .glb c => some (.c c)
  | _ => none
def TyVal (mg : Str → Option Value) : TyK → Value → Prop
  | .b n, v => v = .type n
  | .o c, v => ∃ ca, mg c = some (.ref ca) ∧ v = .ref ca
  | .e c, v => ∃ ca, mg c = some (.ref ca) ∧ v = .ref ca
def CkVal (mg : Str → Option Value) : CK → Value → Prop
  | .b n, v => v = .type n
  | .c c, v => ∃ ca, mg c = some (.ref ca) ∧ v = .ref ca
/-- what the written part says of an instance's class, for isinstance -/
structure InsT (K : PySem.W.Frag) (C : Addr) : Prop where
  cl : Cls K C
  ha : PySem.W.findIn K (.ref C) "__class__" = some (some (.builtin "object.__class__"))
  hn : PySem.W.specialIn K (.builtin "object.__class__") "__get__" = some (some (.builtin "getset_descriptor.__get__"))
  ht : PySem.W.takesIn K (.builtin "object.__class__") = some true
  hm : PySem.W.mroIn K C (.type "object") = some true
abbrev KTab := TyK → CK → Option Bool
/-- a table of answers of isinstance, told rightly -/
structure KitT (K : PySem.W.Frag) (mg : Str → Option Value) (kt : KTab) : Prop where
  ok : ∀ t u b, kt t u = some b → ∀ tv uv, TyVal mg t tv → CkVal mg u uv → PySem.W.kitOne K tv uv = some b
  obj : ∀ c u b, kt (.o c) u = some b → ∀ ca, mg c = some (.ref ca) → InsT K ca
  exc : ∀ c u b, kt (.e c) u = some b → ∀ ca, mg c = some (.ref ca) → L2.ExcC K ca
def ktAny (kt : KTab) (t : TyK) : List D → Option Bool
  | [] => some false
  | d :: ds => match clsK d with
    | none => none
    | some u => match kt t u with
      | some true => some true
      | some false => ktAny kt t ds
      | none => none
def fIsi (kt : KTab) : DN := fun xs κ Q => match xs with
  | [x, .node .tup (c :: cs)] => ∃ t b, tyK x κ = some t ∧ ktAny kt t (c :: cs) = some b ∧ Q (.bl b) κ
  | [x, .ty n] => ∃ t b, tyK x κ = some t ∧ kt t (.b n) = some b ∧ Q (.bl b) κ
  | [x, .glb c] => ∃ t b, tyK x κ = some t ∧ kt t (.c c) = some b ∧ Q (.bl b) κ
  | _ => False
def rIsiD (C : Ctx) (kt : KTab) : List V → Hp → VK → Prop := fun vs H Q => ∃ F ρ κ xs QD, StR C F ρ κ H ∧ RepL C F ρ xs vs ∧ fIsi kt xs κ QD ∧ Post C F ρ QD Q
theorem sim_isi {C : Ctx} {kt : KTab} : SimN C (fIsi kt) (rIsiD C kt) := fun F ρ κ H xs vs QD Q S r h P => ⟨F, ρ, κ, xs, QD, S, r, h, P⟩
section
variable {X : Cx} {W : WX} {k : Nat} {kt : KTab} {pins : List (Addr × Obj)} {σ : L2.St} {H : Hp} {s : Shared} {F : Hp} {ρ : Loc0} {κ : Kap}
theorem excK {K : PySem.W.Frag} {ca a : Addr} {o : Obj} {od : Option Obj} (E : L2.ExcC K ca) : PySem.W.KitX K (.ref a) (.ref ca) (fun h => PySem.W.InstAt h a o ca od) :=
  PySem.W.kitx_exc (by obtain ⟨cd, h, _⟩ := PySem.W.any_some E.hd; rw [h]; rfl) E.hg E.hk E.hs E.ha E.hn E.ht E.hm
/-- what isinstance wants to know of a value -/
theorem kitD (T : KitT X.K X.mg kt) (I : L2.Inv X pins σ H s) (S : StR (CtxOf X) F ρ κ H) {x : D} {v : V} {u : Value} {t : TyK} (r : Rep (CtxOf X) F ρ x v) (rv : RelV v u) (ht : tyK x κ = some t) (hk : ∃ w b, kt t w = some b) :
    ∃ tv P, TyVal X.mg t tv ∧ PySem.W.KitX X.K u tv P ∧ P s.heap ∧ u ≠ .builtin "__main__.__loader__#opaque" := by
  have base : ∀ {tv : Value}, TyX X.K H v tv → TyVal X.mg t tv → ∃ tv P, TyVal X.mg t tv ∧ PySem.W.KitX X.K u tv P ∧ P s.heap ∧ u ≠ .builtin "__main__.__loader__#opaque" := fun {tv} tx h => by
    obtain ⟨P, Z, p, hx⟩ := kit_of I rv tx
    exact ⟨tv, P, h, Z, p, hx⟩
  have key : (view x κ).bind (fun p => kdTy p.1) = some t → ∃ tv P, TyVal X.mg t tv ∧ PySem.W.KitX X.K u tv P ∧ P s.heap ∧ u ≠ .builtin "__main__.__loader__#opaque" := by
    intro h
    cases ev : view x κ with
    | none => rw [ev] at h; cases h
    | some p =>
      obtain ⟨kd, xs⟩ := p
      rw [ev] at h
      obtain ⟨a, vs, rfl, hk', rl⟩ := view_at S r ev
      cases kd with
      | lst => cases h; exact base (.base (.lst hk')) rfl
      | klst =>
        cases h
        rcases hk' with (h1 | ⟨o, h1⟩) | ⟨o, its, n, h1, h2, _⟩
        · exact base (.base (.lst h1)) rfl
        · exact base (.base (.frz h1)) rfl
        · exact base (.kList h1 h2) rfl
      | tup =>
        cases h
        rcases hk' with (h1 | ⟨o, h1⟩) | ⟨o, its, n, h1, h2, _⟩
        · exact base (.base (.tup h1)) rfl
        · exact base (.fTuple h1) rfl
        · exact base (.kTuple h1 h2) rfl
      | dct ks =>
        cases h
        obtain ⟨kvs, h1, _⟩ := hk'
        exact base (.base (.dK h1)) rfl
      | cau c a1 C1 dd => cases h
      | tbk x => cases h
      | cod q => cases h
      | clo j a1 ws => cases h
      | fnk x fr => cases h
      | obj c ns =>
        cases h
        obtain ⟨ca, dx, fs, h0, h1, _⟩ := hk'
        obtain ⟨w, b, hw⟩ := hk
        have q := T.obj c w b hw ca h0
        exact base (.base (.ins h1 q.cl q.ha q.hn q.ht q.hm)) ⟨ca, h0, rfl⟩
      | exc c ns =>
        cases h
        obtain ⟨ca, h0, h1⟩ := hk'
        obtain ⟨w, b, hw⟩ := hk
        have q := T.exc c w b hw ca h0
        cases rv
        rcases h1 with ⟨_, _, h1⟩ | ⟨d, fs, h1, h2, _⟩
        · obtain ⟨t1, ho⟩ := exo_at I.hok h1
          exact ⟨.ref ca, _, ⟨ca, h0, rfl⟩, excK (od := none) q, ⟨ho, rfl, rfl, trivial⟩, fun z => nomatch z⟩
        · obtain ⟨t1, ho⟩ := exo_at I.hok h1
          obtain ⟨mA, ⟨od, _, _, hd, _⟩, _⟩ := exd_at I.hok h2
          exact ⟨.ref ca, _, ⟨ca, h0, rfl⟩, excK (od := some od) q, ⟨ho, rfl, rfl, hd⟩, fun z => nomatch z⟩
      | exa c ns a1 =>
        cases h
        obtain ⟨_, ca, h0, h1⟩ := hk'
        obtain ⟨w, b, hw⟩ := hk
        have q := T.exc c w b hw ca h0
        cases rv
        rcases h1 with ⟨_, _, h1⟩ | ⟨d, fs, h1, h2, _⟩
        · obtain ⟨t1, ho⟩ := exo_at I.hok h1
          exact ⟨.ref ca, _, ⟨ca, h0, rfl⟩, excK (od := none) q, ⟨ho, rfl, rfl, trivial⟩, fun z => nomatch z⟩
        · obtain ⟨t1, ho⟩ := exo_at I.hok h1
          obtain ⟨mA, ⟨od, _, _, hd, _⟩, _⟩ := exd_at I.hok h2
          exact ⟨.ref ca, _, ⟨ca, h0, rfl⟩, excK (od := some od) q, ⟨ho, rfl, rfl, hd⟩, fun z => nomatch z⟩
  cases x with
  | non => cases r; cases ht; exact base (.base .non) rfl
  | bl b => cases r; cases ht; exact base (.base (.bl b)) rfl
  | int i => cases r; cases ht; exact base (.base (.int i)) rfl
  | str y => cases r; cases ht; exact base (.base (.str y)) rfl
  | _ => exact key ht
theorem ktAny_first {t : TyK} {c : D} {cs : List D} {b : Bool} (h : ktAny kt t (c :: cs) = some b) : ∃ w b, kt t w = some b := by
  unfold ktAny at h
  cases e : clsK c with
  | none => rw [e] at h; cases h
  | some u =>
    rw [e] at h
    cases e2 : kt t u with
    | none => simp only [e2] at h; cases h
    | some b' => exact ⟨u, b', e2⟩
theorem clsK_val {c : D} {v : V} {w : Value} {u : CK} (r : Rep (CtxOf X) F ρ c v) (rv : RelV v w) (e : clsK c = some u) : CkVal X.mg u w := by
  cases c <;> first | (cases e; done) | skip
  · cases e; cases r; exact rv
  · cases e
    cases r with
    | glb h => exact ⟨_, h, rv⟩
theorem kitAny_of (T : KitT X.K X.mg kt) {t : TyK} {tv : Value} (htv : TyVal X.mg t tv) : ∀ {cs : List D} {vs : List V} {us : List Value} {b : Bool}, RepL (CtxOf X) F ρ cs vs → Vals vs us → ktAny kt t cs = some b → PySem.W.kitAny X.K tv us = some b
  | _, _, _, _, .nil, .nil, h => by cases h; rfl
  | _, _, _, b, .cons (d := d) r rs, .cons rv rvs, h => by
    unfold ktAny at h
    cases e : clsK d with
    | none => rw [e] at h; cases h
    | some u =>
      rw [e] at h
      cases e2 : kt t u with
      | none => simp only [e2] at h; cases h
      | some b' =>
        simp only [e2] at h
        have q := T.ok t u b' e2 tv _ htv (clsK_val r rv e)
        cases b' with
        | true => cases h; exact kitAny_cons q (fun z => nomatch z) fun _ => rfl
        | false => exact kitAny_cons q (fun _ => kitAny_of T htv rs rvs h) fun z => nomatch z
theorem call_isiD (T : KitT X.K X.mg kt) : CallR X (.builtin "isinstance") (rIsiD (CtxOf X) kt) := by
  intro pins s σ H vs us Q I rv ⟨F, ρ, κ, xs, QD, S, r, h, P⟩
  have one : ∀ {x c : D} {t : TyK} {u : CK} {b : Bool}, RepL (CtxOf X) F ρ [x, c] vs → tyK x κ = some t → clsK c = some u → kt t u = some b → QD (.bl b) κ → wpAny (model X.prog X.w) X.A (call (.builtin "isinstance") us) (EP X pins σ Q) X.xe s := by
    intro x c t u b r h1 h2 h3 q
    obtain ⟨v, w, rfl, rx, rc⟩ := repL2 r
    obtain ⟨u1, u2, rfl, r1, r2⟩ := vals2 rv
    obtain ⟨tv, Pr, htv, Z, p, hx⟩ := kitD T I S rx r1 h1 ⟨u, b, h3⟩
    exact PySem.W.kia_one Z I.kIn p (T.ok t u b h3 tv u2 htv (clsK_val rc r2 h2)) hx fun tk => ⟨.bl b, H, I.tok tk, rfl, P _ _ _ _ _ _ (Ext.refl _ _) S (.bl b) q⟩
  unfold fIsi at h
  split at h
  · rename_i x c cs
    obtain ⟨t, b, h1, h2, q⟩ := h
    obtain ⟨v, w, rfl, rx, rc⟩ := repL2 r
    obtain ⟨u1, u2, rfl, r1, r2⟩ := vals2 rv
    obtain ⟨a, vs, rfl, hk, rl⟩ := view_at (k := .tup) (xs := c :: cs) S rc rfl
    cases r2
    obtain ⟨its, rvs, ⟨o, ho, hc, n, hd⟩, _⟩ := I.tuple hk
    obtain ⟨tv, Pr, htv, Z, p, hx⟩ := kitD T I S rx r1 h1 (ktAny_first h2)
    obtain ⟨oc, od, dt, sl⟩ := o
    simp only at hc hd
    subst hc hd
    exact PySem.W.kia_tup Z I.kIn p ho (kitAny_of T htv rl rvs h2) hx fun tk => ⟨.bl b, H, I.tok tk, rfl, P _ _ _ _ _ _ (Ext.refl _ _) S (.bl b) q⟩
  · obtain ⟨t, b, h1, h2, q⟩ := h
    exact one r h1 rfl h2 q
  · obtain ⟨t, b, h1, h2, q⟩ := h
    exact one r h1 rfl h2 q
  · exact h.elim
end
/-! ### methods of texts -/
def dM1 (f : D → D → Kap → DQ → Prop) (a b : DE) : DE := fun δ κ X Q => a δ κ X fun x κ1 => (∃ y, x = .str y) ∧ b δ κ1 X fun z κ2 => f x z κ2 Q
def dM0 (f : D → Kap → DQ → Prop) (a : DE) : DE := fun δ κ X Q => a δ κ X fun x κ1 => (∃ y, x = .str y) ∧ f x κ1 Q
/-! ### methods of lists -/
def isSeq (T : String) (x : D) (κ : Kap) : Prop := match T with
  | "list" => ∃ xs, view x κ = some (.lst, xs)
  | _ => False
def dBM (T : String) (f : D1N) (a : DE) (as : DA) : DE := fun δ κ X Q => a δ κ X fun x κ1 => isSeq T x κ1 ∧ as δ κ1 X fun xs κ2 => f x xs κ2 Q
end DL
/-! DL: own exceptions over ValueError, made and raised. -/
namespace DL
open PySem PySem.Spec PyProof.Rows L2
/-! ### made as a value -/
section
variable {X : Cx} {W : WX} {k : Nat} {c : Str} {ca fI : Addr} {fd : FuncData} {ps : List Str} {sp : Sp} {ns : List Str} {e : Expr} {es : List Expr} {as : DA} {p pos : Pos}
theorem RepL.reverse {C : Ctx} {F : Hp} {ρ : Loc0} : ∀ {xs : List D} {vs : List V}, RepL C F ρ xs vs → RepL C F ρ xs.reverse vs.reverse
  | _, _, .nil => .nil
  | _, _, .cons h t => by
    rw [List.reverse_cons, List.reverse_cons]
    exact (RepL.reverse t).append (.cons h .nil)
end
end DL
/-! DL: displays of dicts, defs by name. -/
namespace DL
open PySem PySem.Spec PyProof.Rows L2
def fNeg : D1 := fun x κ Q => match x with
  | .int i => Q (.int (-i)) κ
  | _ => False
theorem sim_neg {C : Ctx} : Sim1 C fNeg (rU fun i => .int (-i)) := by
  intro F ρ κ H x v QD Q S r h P
  cases x <;> first | exact h.elim | skip
  cases r
  exact ⟨_, rfl, P _ _ _ _ _ _ (Ext.refl _ _) S (.int _) h⟩
theorem pd_neg {X : Cx} {W : WX} {e : Expr} {a : DE} {pos : Pos} (ha : PED X W e a) : PED X W (.UnaryOp .USub e pos) (dUn fNeg a) := pd_un un_neg sim_neg ha
/-! ### dicts written out -/
def dDct0 (m : Bool) : DE := fun _ κ _ Q => fNew m (.dct []) [] κ Q
def dPairs : List (DE × DE) → DEnv → Kap → DX → (List (D × D) → Kap → Prop) → Prop
  | [], _, κ, _, Q => Q [] κ
  | (a, b) :: r, δ, κ, X, Q => a δ κ X fun x κ1 => b δ κ1 X fun y κ2 => dPairs r δ κ2 X fun ps κ3 => Q ((x, y) :: ps) κ3
inductive RepP (C : Ctx) (F : Hp) (ρ : Loc0) : List (D × D) → List (V × V) → Prop
  | nil : RepP C F ρ [] []
  | cons {x y : D} {v u : V} {ps : List (D × D)} {qs : List (V × V)} (h1 : Rep C F ρ x v) (h2 : Rep C F ρ y u) (t : RepP C F ρ ps qs) : RepP C F ρ ((x, y) :: ps) ((v, u) :: qs)
theorem RepP.ext {C : Ctx} {F F' : Hp} {ρ ρ' : Loc0} (e : Ext F ρ F' ρ') : ∀ {ps : List (D × D)} {qs : List (V × V)}, RepP C F ρ ps qs → RepP C F' ρ' ps qs
  | _, _, .nil => .nil
  | _, _, .cons h1 h2 t => .cons (h1.ext e) (h2.ext e) (RepP.ext e t)
/-! ### defs by name -/
/-- a def of the text stands under its name and keeps a promise -/
structure OkD (P : Program) (w : World) (K : PySem.W.Frag) (mg : Str → Option Value) (base : Heap) (k : Nat) (x : Str) (f : Addr) (fd : FuncData) (ps : List Str) (sp : DSp) : Prop where
  m : mg x = some (.ref f)
  kp : PySem.W.keepIn K (.ref f) = true
  fn : FnG P w K mg base k f fd ps sp
  bd : Binds K fd ps []
def Ok (P : Program) (w : World) (K : PySem.W.Frag) (mg : Str → Option Value) (base : Heap) (k : Nat) (x : Str) (ps : List Str) (sp : DSp) : Prop := ∃ f fd, OkD P w K mg base k x f fd ps sp
theorem Ok.mono {P : Program} {w : World} {K : PySem.W.Frag} {mg : Str → Option Value} {base : Heap} {j k : Nat} {x : Str} {ps : List Str} {sp : DSp} (O : Ok P w K mg base j x ps sp) (h : j ≤ k) : Ok P w K mg base k x ps sp :=
  let ⟨f, fd, o⟩ := O; ⟨f, fd, o.m, o.kp, o.fn.mono h, o.bd⟩
section
variable {X : Cx} {W : WX} {j k : Nat} {ps : List Str} {sp : DSp} {x : Str} {e : Expr} {es : List Expr} {as : DA} {p pos : Pos}
theorem pd_callN (G : Good k X W) (O : Ok X.prog X.w X.K X.mg X.base k x ps sp) (ha : PAD X W (e :: es) as) (hg : Gl X x := by rfl) (hdb : (x == ("__debug__" : Str)) = false := by decide)
    (he : starEach (e :: es) X.env = (false, eval e X.env) :: starEach es X.env := by rfl) (hpl : (backTo pos (starEach es X.env)).any (·.1) = false := by rfl) : PED X W (.Call (.Name x p) (e :: es) [] pos) (dCall sp [] as) := by
  obtain ⟨f, fd, o⟩ := O
  exact pd_call G o.fn o.m o.kp o.bd nodef ha hg hdb he hpl
end
/-- what is known of a def ahead of its proof -/
structure DefAt (K : PySem.W.Frag) (mg : Str → Option Value) (x : Str) (st : Stmt) (f : Addr) (fd : FuncData) : Prop where
  m : mg x = some (.ref f)
  F : Fun K x x st f fd
/-! ### exceptions by name -/
end DL
/-! DL: from what the top has left to what the defs lean on. -/
namespace DL
open PySem PySem.Spec PyProof.Rows L2
section
variable {K : PySem.W.Frag} {mg : Str → Option Value} {h : Heap}
theorem defAt_of {x : Str} {st : Stmt} {f : Addr} {oc : Value} {od an : Option Addr} {osl : Array (Option Value)} {kV doc pm cdv ct : Value} (X : K.In h) (G : h.Ns mainGlobals mg) (a : PySem.W.nsIn K mainGlobals x = some (some (.ref f)))
    (l : K.lookup f = some ⟨oc, od, .func (PySem.W.fnOf x x (defArgs st) (defBody st) (defScope st) .none kV doc pm an cdv ct), osl⟩) (c : PySem.W.codeIn K cdv x = true) (k : PySem.W.keepIn K (.ref f) = true) :
    DefAt K mg x st f (PySem.W.fnOf x x (defArgs st) (defBody st) (defScope st) .none kV doc pm an cdv ct) := ⟨PySem.W.mg_of X G a, fun_mk l c k⟩
theorem glb_of {x : Str} {v : Value} (X : K.In h) (G : h.Ns mainGlobals mg) (a : PySem.W.nsIn K mainGlobals x = some (some v)) : mg x = some v := PySem.W.mg_of X G a
theorem bltn_of {x : Str} (X : K.In h) (G : h.Ns mainGlobals mg) (a : PySem.W.nsIn K mainGlobals x = some none) : mg x = none := PySem.W.mg_none_of X G a
end
/-! tables of isinstance -/
abbrev KRow := TyK × CK × Bool
def ktOf (tab : List KRow) : KTab := fun t u => match t, u with
  | .b m, .b n => kitB m n
  | t, u => (tab.find? fun p => decide (p.1 = t ∧ p.2.1 = u)).map (·.2.2)
def KFact (K : PySem.W.Frag) (mg : Str → Option Value) (p : KRow) : Prop := (∃ tv uv, TyVal mg p.1 tv ∧ CkVal mg p.2.1 uv ∧ PySem.W.kitOne K tv uv = some p.2.2) ∧ match p.1 with
  | .b _ => True
  | .o c => ∃ ca, mg c = some (.ref ca) ∧ InsT K ca
  | .e c => ∃ ca, mg c = some (.ref ca) ∧ L2.ExcC K ca
theorem tyVal_inj {mg : Str → Option Value} {t : TyK} {a b : Value} (h : TyVal mg t a) (h' : TyVal mg t b) : a = b := by
  cases t with
  | b n => exact (show a = .type n from h).trans (show b = .type n from h').symm
  | o c =>
    obtain ⟨x, hx, rfl⟩ := h
    obtain ⟨y, hy, rfl⟩ := h'
    rw [hx] at hy
    cases hy
    rfl
  | e c =>
    obtain ⟨x, hx, rfl⟩ := h
    obtain ⟨y, hy, rfl⟩ := h'
    rw [hx] at hy
    cases hy
    rfl
theorem ckVal_inj {mg : Str → Option Value} {t : CK} {a b : Value} (h : CkVal mg t a) (h' : CkVal mg t b) : a = b := by
  cases t with
  | b n => exact (show a = .type n from h).trans (show b = .type n from h').symm
  | c c =>
    obtain ⟨x, hx, rfl⟩ := h
    obtain ⟨y, hy, rfl⟩ := h'
    rw [hx] at hy
    cases hy
    rfl
theorem kitT_of {K : PySem.W.Frag} {mg : Str → Option Value} {tab : List KRow} (h : ∀ p ∈ tab, KFact K mg p) : KitT K mg (ktOf tab) := by
  have look : ∀ {t : TyK} {u : CK} {b : Bool}, (tab.find? fun p => decide (p.1 = t ∧ p.2.1 = u)).map (·.2.2) = some b → KFact K mg (t, u, b) := fun {t u b} e => by
    obtain ⟨p, hp, rfl⟩ := Option.map_eq_some_iff.mp e
    have h1 := List.mem_of_find?_eq_some hp
    have h2 := List.find?_some hp
    obtain ⟨rfl, rfl⟩ := of_decide_eq_true h2
    exact h p h1
  have use : ∀ {t : TyK} {u : CK} {b : Bool}, KFact K mg (t, u, b) → ∀ tv uv, TyVal mg t tv → CkVal mg u uv → PySem.W.kitOne K tv uv = some b := fun {t u b} ⟨⟨tv, uv, h1, h2, h3⟩, _⟩ tv' uv' q1 q2 => by
    rw [← tyVal_inj h1 q1, ← ckVal_inj h2 q2]
    exact h3
  refine ⟨fun t u b e tv uv h1 h2 => ?_, fun c u b e ca hc => ?_, fun c u b e ca hc => ?_⟩
  · cases t with
    | b m =>
      cases u with
      | b n =>
        cases (show tv = .type m from h1)
        cases (show uv = .type n from h2)
        exact kit_ty e
      | c c => exact use (look e) tv uv h1 h2
    | o c => exact use (look e) tv uv h1 h2
    | e c => exact use (look e) tv uv h1 h2
  · obtain ⟨_, ca', h1, h2⟩ := look (t := .o c) e
    rw [hc] at h1
    cases h1
    exact h2
  · obtain ⟨_, ca', h1, h2⟩ := look (t := .e c) e
    rw [hc] at h1
    cases h1
    exact h2
/-! kitB, told -/
end DL
/-! DL: calls with keywords, defaults; defs that call themselves. -/
namespace DL
open PySem PySem.Spec PyProof.Rows L2
/-- items by their places -/
def pick {α : Type} : List Nat → List α → List α
  | [], _ => []
  | i :: is, l => match l[i]? with
    | some a => a :: pick is l
    | none => pick is l
section
variable {C : Ctx} {F : Hp} {ρ : Loc0}
theorem RepL.getN : ∀ {ds : List D} {vs : List V} {i : Nat}, RepL C F ρ ds vs → ds[i]? = none → vs[i]? = none
  | _, _, i, r, h => by
    rw [List.getElem?_eq_none_iff] at h ⊢
    rw [← r.length]
    exact h
theorem RepL.pick : ∀ {is : List Nat} {ds : List D} {vs : List V}, RepL C F ρ ds vs → RepL C F ρ (pick is ds) (pick is vs)
  | [], _, _, _ => .nil
  | i :: is, ds, vs, r => by
    unfold DL.pick
    cases e : ds[i]? with
    | none => rw [r.getN e]; exact RepL.pick r
    | some d =>
      obtain ⟨v, h1, h2⟩ := r.get e
      rw [h1]
      exact .cons h2 (RepL.pick r)
end
theorem vals_get : ∀ {vs : List V} {us : List Value} {i : Nat}, Vals vs us → (∃ v u, vs[i]? = some v ∧ us[i]? = some u ∧ RelV v u) ∨ (vs[i]? = none ∧ us[i]? = none)
  | [], _, i, .nil => .inr ⟨rfl, rfl⟩
  | v :: vs, _, 0, .cons h t => .inl ⟨v, _, rfl, rfl, h⟩
  | v :: vs, _, i + 1, .cons h t => by
    rw [List.getElem?_cons_succ, List.getElem?_cons_succ]
    exact vals_get t
theorem vals_pick : ∀ {is : List Nat} {vs : List V} {us : List Value}, Vals vs us → Vals (pick is vs) (pick is us)
  | [], _, _, _ => .nil
  | i :: is, vs, us, r => by
    unfold pick
    rcases vals_get (i := i) r with ⟨v, u, h1, h2, h3⟩ | ⟨h1, h2⟩
    · rw [h1, h2]
      exact .cons h3 (vals_pick r)
    · rw [h1, h2]
      exact vals_pick r
/-- a def that may be called with n values by place and the keywords ks; is tells where each parameter's value stands among the values by place, the keywords' values and the defaults dds -/
def OkC (P : Program) (w : World) (K : PySem.W.Frag) (mg : Str → Option Value) (base : Heap) (k : Nat) (x : Str) (n : Nat) (ks : List Str) (is : List Nat) (dds : List D) (sp : DSp) : Prop :=
  ∃ f fd ps, ∃ dvs : List V, ∃ its : List Value, mg x = some (.ref f) ∧ PySem.W.keepIn K (.ref f) = true ∧ FnG P w K mg base k f fd ps sp ∧ KBn K fd ps n ks (fun us ws => pick is (us ++ (ws ++ its))) (fun vs zs => pick is (vs ++ (zs ++ dvs))) ∧ ∀ F ρ, RepL ⟨K, mg⟩ F ρ dds dvs
theorem OkC.mono {P : Program} {w : World} {K : PySem.W.Frag} {mg : Str → Option Value} {base : Heap} {j k : Nat} {x : Str} {n : Nat} {ks : List Str} {is : List Nat} {dds : List D} {sp : DSp} (O : OkC P w K mg base j x n ks is dds sp) (h : j ≤ k) : OkC P w K mg base k x n ks is dds sp :=
  let ⟨f, fd, ps, dvs, its, h1, h2, h3, h4⟩ := O; ⟨f, fd, ps, dvs, its, h1, h2, h3.mono h, h4⟩
def cC (sp : DSp) (n m : Nat) (is : List Nat) (dds xs ys : List D) (κ : Kap) (X : Str → List D → Kap → Prop) (Q : DQ) : Prop := xs.length = n ∧ ys.length = m ∧ sp (pick is (xs ++ (ys ++ dds))) κ X Q
def dCallC (sp : DSp) (n m : Nat) (is : List Nat) (dds : List D) (as kw : DA) : DE := fun δ κ X Q => as δ κ X fun xs κ1 => kw δ κ1 X fun ys κ2 => cC sp n m is dds xs ys κ2 (X δ) Q
abbrev PKD (X : Cx) (W : WX) (kws : List Keyword) (d : DA) : Prop := PK X kws (liftA (CtxOf X) W d)
section
variable {X : Cx} {W : WX} {k n m : Nat} {f : Addr} {fd : FuncData} {ps ks : List Str} {is : List Nat} {sp : DSp} {dds : List D} {x : Str} {e : Expr} {es : List Expr} {kws : List Keyword} {as kw : DA} {a : DE} {p pos kpos : Pos} {nm : Option Str}
theorem pk_weak {t t' : TA} (h : PK X kws t) (w : ∀ σ H Q, t' σ H Q → t σ H Q) : PK X kws t' := ⟨fun pos pins s σ H Q I q => h.run pos pins s σ H Q I (w σ H Q q)⟩
theorem pk_nilD : PKD X W [] dNil := pk_weak pk_nil fun _ _ _ h => lift_nil h
theorem pk_consD (ha : PED X W e a) (hr : PKD X W kws kw) : PKD X W (⟨nm, e, kpos⟩ :: kws) (dCons a kw) := pk_weak (pk_cons ha hr) fun _ _ _ h => lift_cons h
theorem run_fnC {pins : List (Addr × Obj)} {σ : L2.St} {δ : DEnv} {H : Hp} {s : Shared} {Q : VK} {us ws its : List Value} {vs zs dvs : List V} {xs ys : List D} {F : Hp} {ρ : Loc0} {κ : Kap} {XD : DX} {QD : DQ} (G : Good k X W) (F1 : FnG X.prog X.w X.K X.mg X.base k f fd ps sp) (I : L2.Inv X pins σ H s)
    (hb : KBn X.K fd ps n ks (fun us ws => pick is (us ++ (ws ++ its))) (fun vs zs => pick is (vs ++ (zs ++ dvs)))) (hd : ∀ F ρ, RepL (CtxOf X) F ρ dds dvs) (r : Vals vs us) (rz : Vals zs ws)
    (S : StR (CtxOf X) F ρ κ H) (R : RepS (CtxOf X) F ρ δ σ) (rr : RepL (CtxOf X) F ρ xs vs) (rq : RepL (CtxOf X) F ρ ys zs) (h : cC sp n m is dds xs ys κ (XD δ) QD) (hm : ks.length = m) (P : Post (CtxOf X) F ρ QD Q) (PX : PostX (CtxOf X) F ρ XD W) : wpAny (model X.prog X.w) X.A (call (.ref f) us (ks.zip ws)) (EP X pins σ Q) X.xe s := by
  obtain ⟨h1, h2, h3⟩ := h
  have l1 : us.length = n := by rw [← Paired.length r, ← rr.length, h1]
  have l2 : ws.length = ks.length := by rw [← Paired.length rz, ← rq.length, h2, hm]
  have rep : RepL (CtxOf X) F ρ (pick is (xs ++ (ys ++ dds))) (pick is (vs ++ (zs ++ dvs))) := RepL.pick (rr.append (rq.append (hd F ρ)))
  refine wpAny_call (codeAny_mono (F1.run X.A X.stack s H ⟨us, ks.zip ws⟩ _ _ _ F ρ κ _ _ Q (fun cls dd H' => W cls dd σ H') G.rm G.gd I.env0 (hb.to s us ws I.kIn l1 l2) (hb.rel r rz) S rep h3 P fun F' ρ' κ' H' c fs cls dd e S' rx q => PX _ _ _ _ _ _ _ _ _ _ e S' (R.ext e) rx q) fun rs s' hq => ?_)
  cases rs with
  | error er => exact G.tk er s' (L2N.XE.of_call I (fun _ _ _ h => h) hq)
  | ok fl =>
    cases fl with
    | ret u => exact I.after hq
    | next => exact False.elim hq
    | brk => exact False.elim hq
    | cont => exact False.elim hq
theorem pd_callC (G : Good k X W) (O : OkC X.prog X.w X.K X.mg X.base k x n [] is dds sp) (ha : PAD X W (e :: es) as) (hg : Gl X x := by rfl) (hdb : (x == ("__debug__" : Str)) = false := by decide) (he : starEach (e :: es) X.env = (false, eval e X.env) :: starEach es X.env := by rfl)
    (hpl : (backTo pos (starEach es X.env)).any (·.1) = false := by rfl) : PED X W (.Call (.Name x p) (e :: es) [] pos) (dCallC sp n 0 is dds as dNil) := by
  obtain ⟨f, fd, ps, dvs, its, hm, hk, F1, hb, hd⟩ := O
  refine ⟨fun pins s σ H Q I ⟨F, ρ, κ, δ, XD, QD, S, R, h, P, PX⟩ => ?_⟩
  refine wpAny_Call_Name_kw (ld_glob I hg hm ?_ hdb)
  refine PySem.W.callWith_K (h₀ := X.base) I.ok.mod.kin hk (thn (ha.run pos pins s σ H (fun vs H1 => ∃ F1 ρ1 κ1 xs, Ext F ρ F1 ρ1 ∧ StR (CtxOf X) F1 ρ1 κ1 H1 ∧ RepL (CtxOf X) F1 ρ1 xs vs ∧ cC sp n 0 is dds xs [] κ1 (XD δ) QD) I
    ⟨F, ρ, κ, δ, XD, _, S, R, h, fun F1 ρ1 κ1 H1 xs vs e1 S1 R1 h1 => ⟨F1, ρ1, κ1, xs, e1, S1, R1, h1⟩, PX⟩) fun us s1 ⟨vs, H1, I1, r1, F2, ρ1, κ1, xs, e1, S1, R1, h1⟩ => ⟨I1.kIn, ?_⟩) he hpl
  exact run_fnC G F1 I1 hb hd r1 .nil S1 (R.ext e1) R1 .nil h1 rfl (P.ext e1) (PX.ext e1)
theorem pd_callCK0 (G : Good k X W) (O : OkC X.prog X.w X.K X.mg X.base k x 0 ks is dds sp) (hkw : PKD X W kws kw) (hg : Gl X x := by rfl) (hdb : (x == ("__debug__" : Str)) = false := by decide)
    (hall : (backToKw pos (keywordEach kws X.env)).all (·.1.isSome) = true := by rfl) (hks : (backToKw pos (keywordEach kws X.env)).filterMap (·.1) = ks := by rfl)
    (hpl : ((backTo pos (starEach [] X.env)).any (·.1) || (backToKw pos (keywordEach kws X.env)).any (·.1.isNone)) = false := by rfl) : PED X W (.Call (.Name x p) [] kws pos) (dCallC sp 0 ks.length is dds dNil kw) := by
  obtain ⟨f, fd, ps, dvs, its, hm, hk, F1, hb, hd⟩ := O
  refine ⟨fun pins s σ H Q I ⟨F, ρ, κ, δ, XD, QD, S, R, h, P, PX⟩ => ?_⟩
  refine wpAny_Call_Name_kw (ld_glob I hg hm ?_ hdb)
  refine PySem.W.callWith_KW0 (h₀ := X.base) I.ok.mod.kin hk hall (thn (hkw.run pos pins s σ H (fun zs H2 => ∃ F3 ρ3 κ3 ys, Ext F ρ F3 ρ3 ∧ StR (CtxOf X) F3 ρ3 κ3 H2 ∧ RepL (CtxOf X) F3 ρ3 ys zs ∧ cC sp 0 ks.length is dds [] ys κ3 (XD δ) QD) I
    ⟨F, ρ, κ, δ, XD, _, S, R, h, fun F3 ρ3 κ3 H3 ys zs e3 S3 R3 h3 => ⟨F3, ρ3, κ3, ys, e3, S3, R3, h3⟩, PX⟩) fun ws s2 ⟨zs, H2, I2, rz, F3, ρ3, κ3, ys, e3, S3, R3, h3⟩ => ⟨I2.kIn, ?_⟩) hpl
  rw [hks]
  exact run_fnC G F1 I2 hb hd .nil rz S3 (R.ext e3) .nil R3 h3 rfl (P.ext e3) (PX.ext e3)
end
/-! a def without defaults, called with keywords -/
section
variable {P : Program} {w : World} {K : PySem.W.Frag} {mg : Str → Option Value} {base : Heap}
theorem fnG_no {f : Addr} {fd : FuncData} {ps : List Str} {k : Nat} : FnG P w K mg base k f fd ps (fun _ _ _ _ => False) :=
  ⟨fun _ _ _ _ h => h.elim, fun _ _ _ _ _ _ _ _ _ _ _ _ _ _ _ _ _ _ _ _ _ _ h => h.elim⟩
theorem ok_mk {x : Str} {st : Stmt} {f : Addr} {fd : FuncData} {ps : List Str} {k : Nat} {sp : DSp} (D : DefAt K mg x st f fd) (F1 : FnG P w K mg base k f fd ps sp)
    (hbind : ∀ (kV doc pm : Value) (an : Option Addr) (cdv ct : Value) (us : List Value), us.length = ps.length → bindArgs (PySem.W.fnOf x x (defArgs st) (defBody st) (defScope st) .none kV doc pm an cdv ct) ⟨us, []⟩ = pure (ps.zip us)) : Ok P w K mg base k x ps sp :=
  ⟨f, fd, D.m, D.F.kp, F1, D.F.binds hbind⟩
end
end DL
/-! DLk: defs with defaults. -/
namespace DL
open PySem PySem.Spec PyProof.Rows L2
/-- where a def with defaults stands -/
structure DefD (K : PySem.W.Frag) (mg : Str → Option Value) (x : Str) (st : Stmt) (f : Addr) (fd : FuncData) (dvs : List V) (kws : List (Str × V)) : Prop where
  m : mg x = some (.ref f)
  F : FunD K x x (defArgs st) (defBody st) (defScope st) dvs kws f fd
section
variable {P : Program} {w : World} {K : PySem.W.Frag} {mg : Str → Option Value} {base : Heap}
/-- THE RULE for a def with defaults -/
theorem Fn_okD {x qual : Str} {st : Stmt} {dvs : List V} {kws : List (Str × V)} {f : Addr} {fd : FuncData} {N ps : List Str} {k : Nat} {b : DS} (F : FunD K x qual (defArgs st) (defBody st) (defScope st) dvs kws f fd) (S : FnScope N ps (defScope st)) (sm : ∃ o, base.get? sysModules = some o)
    (hbody : ∀ (cdv : Value) (A : Around) (outer : List Env) (s : Shared) (H : Hp) (E : XK), Good k (cxD P w K mg base N qual (defScope st) f cdv A outer s H E) (wxE E) → PSsD (cxD P w K mg base N qual (defScope st) f cdv A outer s H E) (wxE E) (defBody st) b) :
    FnG P w K mg base (k + 1) f fd ps (spOf N.length ps.length b) := by
  refine ⟨fun ds κ XD Q h => h.1, fun A outer s H args us vs ds F0 ρ κ XD QD Q E hr hg e0 hb rv S0 R0 hsp PQ PE => ?_⟩
  obtain ⟨oc, od, dV, kV, doc, pm, an, cdv, ct, osl, rfl, lk, hcd, _, _⟩ := F.ex
  have hl : vs.length = ps.length := by rw [← R0.length, hsp.1]
  have KX : K.In s.heap := e0.mod.kin.keeps fun b o e => (e0.bs b o e).1
  have lim : s.heap.NoLimit := e0.mod.nolimit.keeps fun b o e => (e0.bs b o e).1
  have kinds : ∀ y ∈ ps.zip us, (defScope st).names.lookup y.1 = some .local ∨ ((defScope st).names.lookup y.1 = some .cell ∧ ((cellsFrom (s.heap.objs.size + 1) (defScope st).names []).lookup y.1).isSome = true) := fun y hy => by
    rcases S.par y.1 (List.of_mem_zip (a := y.1) (b := y.2) hy).1 with q | q
    · exact .inl q
    · exact .inr ⟨q, PySem.W.cellsFrom_some _ _ _ (.inl q)⟩
  refine codeAny_call_function hr.depth (KX _ _ lk) rfl S.co S.gen rfl (PySem.W.codeRec_of KX hcd) (hb _ _ _ _ (wpAny_newFunctionEnv_cells S.kind kinds fun env he s1 x => ?_))
  subst he
  refine ⟨lim.keeps x.toInCall.keep, codeAny_func ?_⟩
  have I := inv_start (CX := L2N.CX P w) (N := N) (qual := qual) (E := E) (f := f) (cd := cdv) S hr.hd e0 hl rv x
  have g : Good k (cxD P w K mg base N qual (defScope st) f cdv A outer s H E) (wxE E) :=
    ⟨L2N.takes_of rfl rfl rfl rfl, passes_of rfl, hr.deeper _, hg, sm, rfl, S.nd⟩
  refine wpAny_mono ((hbody cdv A outer s H E g).run [] s1 _ H ⟨fun _ H' => Q .non H', Q, fun _ _ => False, fun _ _ => False⟩ I
    ⟨F0, ρ, κ, startD N.length ds, _, _, S0, repS_start R0, hsp.2, ⟨fun F' ρ' κ' H' δ σ e S R q => PQ _ _ _ _ _ _ e S .non q, PQ, fun _ _ _ _ _ _ _ _ _ z => z.elim, fun _ _ _ _ _ _ _ _ _ z => z.elim⟩,
      fun F' ρ' κ' H' δ σ c fs cls dd e S R rx q => PE _ _ _ _ _ _ _ _ e S rx q⟩) (fun fl s' hs => ?_) fun e s' hs => hs
  cases fl with
  | ret u =>
    obtain ⟨v, σ', H', J, rv', q⟩ := hs
    exact ⟨v, H', J.os, J.bare, J.base, J.hok, rv', q⟩
  | next =>
    obtain ⟨σ', H', J, q⟩ := hs
    exact ⟨.non, H', J.os, J.bare, J.base, J.hok, rfl, q⟩
  | brk => obtain ⟨_, _, _, q⟩ := hs; exact q.elim
  | cont => obtain ⟨_, _, _, q⟩ := hs; exact q.elim
variable {x : Str} {st : Stmt} {f : Addr} {fd : FuncData} {ps ks : List Str} {k n : Nat} {is : List Nat} {sp : DSp} {dds : List D} {dvs : List V} {kws : List (Str × V)}
theorem okC_d (D : DefD K mg x st f fd dvs kws) (F1 : FnG P w K mg base k f fd ps sp) (hd : dvs ≠ []) (hdd : ∀ F ρ, RepL ⟨K, mg⟩ F ρ dds dvs)
    (h : ∀ (T : Addr) (kV doc pm : Value) (an : Option Addr) (cdv ct : Value) (us its ws : List Value), us.length = n → its.length = dvs.length → ws.length = ks.length →
      ∃ k, bindArgs (PySem.W.fnOf x x (defArgs st) (defBody st) (defScope st) (.ref T) kV doc pm an cdv ct) ⟨us, ks.zip ws⟩ = seqItems? (.ref T) >>= k ∧ k (some its.toArray) = pure (ps.zip (pick is (us ++ (ws ++ its))))) :
    OkC P w K mg base k x n ks is dds sp := by
  obtain ⟨its, hb⟩ := D.F.kbindsD n ks (fun us its ws => pick is (us ++ (ws ++ its))) hd (fun r1 r2 r3 => vals_pick (r1.append (r3.append r2))) h
  exact ⟨f, fd, ps, dvs, its, D.m, D.F.kp, F1, hb, hdd⟩
theorem okC_k (D : DefD K mg x st f fd [] kws) (F1 : FnG P w K mg base k f fd ps sp) (ms : List (Str × V)) (hk : kws ≠ []) (hms : ∀ q ∈ ms, q ∈ kws) (hdd : ∀ F ρ, RepL ⟨K, mg⟩ F ρ dds (ms.map (·.2)))
    (h : ∀ (Da : Addr) (doc pm : Value) (an : Option Addr) (cdv ct : Value) (us mv ws : List Value), us.length = n → mv.length = ms.length → ws.length = ks.length →
      KwChain Da ((ms.map (·.1)).zip mv) (bindArgs (PySem.W.fnOf x x (defArgs st) (defBody st) (defScope st) .none (.ref Da) doc pm an cdv ct) ⟨us, ks.zip ws⟩) (ps.zip (pick is (us ++ (ws ++ mv))))) :
    OkC P w K mg base k x n ks is dds sp := by
  obtain ⟨mv, hb⟩ := D.F.kbinds0 n ks ms (fun us mv ws => pick is (us ++ (ws ++ mv))) hk hms (fun r1 r2 r3 => vals_pick (r1.append (r3.append r2))) h
  exact ⟨f, fd, ps, ms.map (·.2), mv, D.m, D.F.kp, F1, hb, hdd⟩
theorem defD_of {h : Heap} {x : Str} {f : Addr} {oc : Value} {od an : Option Addr} {osl : Array (Option Value)} {dV kV doc pm cdv ct : Value} {dvs : List V} {kws : List (Str × V)} (X : K.In h) (G : h.Ns mainGlobals mg) (a : PySem.W.nsIn K mainGlobals x = some (some (.ref f)))
    (l : K.lookup f = some ⟨oc, od, .func (PySem.W.fnOf x x (defArgs st) (defBody st) (defScope st) dV kV doc pm an cdv ct), osl⟩) (c : PySem.W.codeIn K cdv x = true) (k : PySem.W.keepIn K (.ref f) = true) (hd : DflV K dV dvs) (hk : KwdV K kV kws) :
    DefD K mg x st f (PySem.W.fnOf x x (defArgs st) (defBody st) (defScope st) dV kV doc pm an cdv ct) dvs kws := ⟨PySem.W.mg_of X G a, ⟨⟨oc, od, dV, kV, doc, pm, an, cdv, ct, osl, rfl, l, c, hd, hk⟩, k⟩⟩
theorem dfl_of {T : Addr} {cls : Value} {dd : Option Addr} {its : List Value} {m : Nat} {sl : Array (Option Value)} (h : dvs ≠ []) (l : K.lookup T = some ⟨cls, dd, .seq its.toArray m, sl⟩) (r : Vals dvs its) : DflV K (.ref T) dvs := .inr ⟨h, T, _, its, m, rfl, l, rfl, r⟩
theorem dfl_no : DflV K .none [] := .inl ⟨rfl, rfl⟩
theorem kwd_no {kV : Value} : KwdV K kV [] := .inl rfl
theorem kwd_of {Da : Addr} (h : ∀ q ∈ kws, ∃ u, PySem.W.nsIn K Da q.1 = some (some u) ∧ RelV q.2 u) : KwdV K (.ref Da) kws := .inr ⟨Da, rfl, h⟩
end
end DL
/-! DLm: raise, try. -/
namespace DL
open PySem PySem.Spec PyProof.Rows L2
/-! ### raise -/
/-- an exception's fields, name and value in turn -/
def xfl : List Str → List D → List D
  | n :: ns, d :: ds => .str n :: d :: xfl ns ds
  | _, _ => []
/-! ### an own exception, made where none is handled: its context is None -/
def sRz (c : Str) (ns : List Str) (as : DA) : DS := fun δ κ X T => as δ κ X fun xs κ1 => xs.length = ns.length ∧ xs.length ≤ 100 ∧ X δ c (xfl ns xs.reverse) κ1
/-! ### except: the field of what was caught -/
def fldOf (f : Str) : List D → Option D
  | .str n :: d :: r => if n = f then some d else fldOf f r
  | _ => none
section
variable {X : Cx} {W : WX} {a C : Addr} {dd : Option Addr} {oe : Obj} {pn : List (Addr × Obj)} {x f : Str} {p pos : Pos} {i : Nat} {xf : Str → Str → Bool}
def dXf (xf : Str → Str → Bool) (i : Nat) (f : Str) (a C : Addr) (dd : Option Addr) : DE := fun δ κ _ QD => ∃ c fs d, δ[i]? = some (some (.node (.cau c a C dd) fs)) ∧ xf c f = true ∧ fldOf f fs = some d ∧ QD d κ
end
end DL
/-! DLn: try, clauses with names and without. -/
namespace DL
open PySem PySem.Spec PyProof.Rows L2
/-- a clause: the class's value, the slot of its name, what its suite does -/
structure Hd where
  c : Value
  i : Option Nat
  ts : Addr → Value → Option Addr → TS
def endsG (D : Ends) (i : Nat) : Ends := { nx := fun τ G => D.nx (τ.set i none) G, rt := D.rt, bk := fun τ G => D.bk (τ.set i none) G, ct := fun τ G => D.ct (τ.set i none) G }
def Hd.go (h : Hd) (D : Ends) (a : Addr) (cls : Value) (d : Option Addr) (σ : L2.St) (H : Hp) : Prop := match h.i with
  | none => h.ts a cls d D σ H
  | some i => h.ts a cls d (endsG D i) (σ.set i (some (.ref a))) H
/-! ### try over data -/
abbrev HdD := Str × Option Nat × (Addr → Addr → Option Addr → DS)
def XN : DX := fun _ _ _ _ => False
def DEnds.un (T : DEnds) (i : Nat) : DEnds := { nx := fun δ κ => T.nx (δ.set i none) κ, rt := T.rt, bk := fun δ κ => T.bk (δ.set i none) κ, ct := fun δ κ => T.ct (δ.set i none) κ }
def hPick (xt : Str → Str → Option Bool) : List HdD → DX → DEnds → DX
  | [], X, _ => X
  | (x, o, s) :: r, X, T => fun δ c fs κ => ∃ b, xt c x = some b ∧ if b = true then ∀ a C dd, match o with
      | none => s a C dd δ κ XN T
      | some i => s a C dd (δ.set i (some (.node (.cau c a C dd) fs))) κ XN (T.un i)
    else hPick xt r X T δ c fs κ
def sTry (xt : Str → Str → Option Bool) (b : DS) (hs : List HdD) : DS := fun δ κ X T => b δ κ (hPick xt hs X T) T
end DL
/-! DLo: stores into dicts, list.index. -/
namespace DL
open PySem PySem.Spec PyProof.Rows L2
/-! ### list.index of truths -/
/-! ### tables of exceptions -/
/-! ### steps -/
section
variable {δ : DEnv} {κ : Kap} {X : DX} {Q : DQ} {as : DA} {b : DS} {c f : Str} {ns : List Str} {xs fs : List D} {T : DEnds} {xt : Str → Str → Option Bool} {xf : Str → Str → Bool} {hs : List HdD} {x : Str} {o : Option Nat} {s : Addr → Addr → Option Addr → DS} {i : Nat}
theorem s_rz (h : as δ κ X fun xs κ1 => xs.length = ns.length ∧ xs.length ≤ 100 ∧ X δ c (xfl ns xs.reverse) κ1) : sRz c ns as δ κ X T := h
theorem s_rz3 {Y : Str → List D → Kap → Prop} (h1 : xs.length = ns.length) (h2 : xs.length ≤ 100) (h3 : xfl ns xs.reverse = fs) (h : Y c fs κ) : xs.length = ns.length ∧ xs.length ≤ 100 ∧ Y c (xfl ns xs.reverse) κ := ⟨h1, h2, by rw [h3]; exact h⟩
theorem g_set {d : D} {δ' : DEnv} {QG : DEnv → Kap → Prop} (e : δ.set i (some d) = δ') (h : QG δ' κ) : gN i d δ κ X QG := by
  subst e
  exact h
theorem s_try (h : b δ κ (hPick xt hs X T) T) : sTry xt b hs δ κ X T := h
theorem fld_1 {n : Str} {d : D} {r : List D} : fldOf n (.str n :: d :: r) = some d := by
  show (if n = n then some d else _) = _
  rw [if_pos rfl]
theorem fld_2 {n m : Str} {d e : D} {r : List D} (h : m ≠ n) (q : fldOf n r = some e) : fldOf n (.str m :: d :: r) = some e := by
  show (if m = n then some d else _) = _
  rw [if_neg h]
  exact q
theorem e_xf {a C : Addr} {dd : Option Addr} {d : D} (e : δ[i]? = some (some (.node (.cau c a C dd) fs))) (h1 : xf c f = true) (h2 : fldOf f fs = some d) (h : Q d κ) : dXf xf i f a C dd δ κ X Q := ⟨c, fs, d, e, h1, h2, h⟩
end
end DL
/-! DLp: tuples that stand in the globals, three at once, == in a suite. -/
namespace DL
open PySem PySem.Spec PyProof.Rows L2
def sPar3 (i j l : Nat) (as : DA) : DS := fun δ κ X T => as δ κ X fun ds κ1 => ∃ x y z, ds = [x, y, z] ∧ T.nx (((δ.set i (some x)).set j (some y)).set l (some z)) κ1
/-! steps -/
section
variable {δ : DEnv} {κ : Kap} {X : DX} {as : DA} {x y z : D} {n : DEnv → Kap → Prop} {rt : DQ} {bk ct : DEnv → Kap → Prop}
theorem s_par3 {i j l : Nat} (h : as δ κ X fun ds κ1 => ∃ x y z, ds = [x, y, z] ∧ n (((δ.set i (some x)).set j (some y)).set l (some z)) κ1) : sPar3 i j l as δ κ X ⟨n, rt, bk, ct⟩ := h
theorem x_par3 {P : D → D → D → Prop} (h : P x y z) : ∃ u v w, [x, y, z] = [u, v, w] ∧ P u v w := ⟨x, y, z, rfl, h⟩
end
end DL
/-! DMc: list comprehensions with several for clauses. -/
namespace DL
open PySem PySem.Spec PyProof.Rows L2
/-! the clauses' turns -/
end DL
/-! DMd: comprehensions with several for clauses, over data. -/
namespace DL
open PySem PySem.Spec PyProof.Rows L2
abbrev DK := DEnv → Kap → (Kap → Prop) → Prop
def cElt (n : Nat) (e : DE) : DK := fun δ κ K => e δ κ XF fun y κ3 => ∃ acc, κ3 n = some (.live .lst acc) ∧ acc.length < sizeLine ∧ K (kset κ3 n (.live .lst (acc ++ [y])))
def cLoop (t : TN) (tt : DT) (vs : List Nat) (rest : DK) (gd : Kap → Prop) (δ : DEnv) (K : Kap → Prop) : List D → Kap → Prop
  | [], κ => gd κ ∧ K κ
  | d :: ds, κ => gd κ ∧ ∃ δ1, bindT t d (dwipe δ vs) κ = some δ1 ∧ tt δ1 κ XF fun b κ2 => if b = true then rest δ1 κ2 (cLoop t tt vs rest gd δ K ds) else cLoop t tt vs rest gd δ K ds κ2
def cFor (it : DI) (t : TN) (tt : DT) (vs : List Nat) (rest : DK) : DK := fun δ κ K => it δ κ XF fun items gd κ1 => cLoop t tt vs rest gd δ K items κ1
def dLcG (m : Bool) (it : DI) (t : TN) (tt : DT) (rest : Nat → DK) (vs : List Nat) : DE := fun δ κ X Q => it δ κ X fun items gd κ1 => ∀ n, κ1 n = none →
  cLoop t tt vs (rest n) gd δ (fun κ' => ∃ acc, κ' n = some (.live .lst acc) ∧ if m = true then Q (.cell n) κ' else Q (.lst acc) (kset κ' n .dead)) items (kset κ1 n (.live .lst []))
end DL
/-! DMf: enumerate, tuple(..), x[::-1], n += .. -/
namespace DL
open PySem PySem.Spec PyProof.Rows L2
/-! ### enumerate -/
def enumD : Nat → List D → List D
  | _, [] => []
  | i, y :: ys => .node .tup [.int (i : Nat), y] :: enumD (i + 1) ys
def eQ (QI : List D → (Kap → Prop) → Kap → Prop) (xs : List D) (κ : Kap) : Prop := match xs with
  | [.cell n] => ∃ ys, κ n = some (.live .lst ys) ∧ QI (enumD 0 ys) (fun κ => κ n = some (.live .lst ys)) κ
  | [.node .lst ys] => QI (enumD 0 ys) gTrue κ
  | _ => False
def iEnumD (as : DA) : DI := fun δ κ X QI => as δ κ X (eQ QI)
/-! ### tuple(x), x[::-1] -/
def fTup : D → Kap → DQ → Prop := fun x κ Q => (∃ ys, view x κ = some (.lst, ys) ∧ Q (.node .tup ys) κ) ∨ ∃ ys, x = .node .tup ys ∧ Q (.node .tup ys) κ
def dTupOf (a : DE) : DE := fun δ κ X Q => a δ κ X fun x κ1 => fTup x κ1 Q
def fRev (m : Bool) : D → Kap → DQ → Prop := fun x κ Q => ∃ ys, view x κ = some (.lst, ys) ∧ fNew m .lst ys.reverse κ Q
def dRev (m : Bool) (a : DE) : DE := fun δ κ X Q => a δ κ X fun x κ1 => fRev m x κ1 Q
/-! ### name += number -/
def fAddI : D2 := fun x y κ Q => ∃ i j, x = .int i ∧ y = .int j ∧ Q (.int (i + j)) κ
end DL
/-! DLq: defs held by names and by a dict of the top, dict(pairs), d[k], str of a tuple, a try that runs through. -/
namespace DL
open PySem PySem.Spec PyProof.Rows L2
/-! ### a dict of the top whose values are defs -/
end DL
namespace DL
open PySem PySem.Spec PyProof.Rows L2
/-! ### a def that a name holds, called -/
/-! ### a try that runs through -/
end DL
namespace DL
open PySem PySem.Spec PyProof.Rows L2
/-! ### str of a number, of a tuple -/
/-! ### dict(pairs) -/
/-! ### d[k] of such a dict -/
end DL
namespace DL
open PySem PySem.Spec PyProof.Rows L2
end DL
/-! DLr: within an except suite: two names at once. -/
namespace DL
open PySem PySem.Spec PyProof.Rows L2 HotX
/-! ### the greatest of three -/
end DL
/-! DLs: texts: f-strings, split, startswith, find, lstrip, int of a text, a text many times. -/
namespace DL
open PySem PySem.Spec PyProof.Rows L2
/-! ### methods -/
/-! ### f-strings -/
/-! ### int of a text -/
/-! ### a text many times -/
end DL
/-! DLt: x, *y = a list. -/
namespace DL
open PySem PySem.Spec PyProof.Rows L2
end DL
/-! DLu: zip of any lists and tuples, at the library's level. -/
namespace ZN
open PySem
section
variable {prog : Program} {w : World} {A : Around} {E : Value → Shared → Prop} {s : Shared}
/-- what zip walks: an iterator, whose it is, the items -/
structure Zs where
  it : Addr
  l : Addr
  xs : Array Value
def Src (h : Heap) (k : Nat) (c : Zs) : Prop := (h.IsListIter c.it c.l k ∧ h.IsList c.l c.xs) ∨ (h.IsTupleIter c.it c.l k ∧ h.IsTuple c.l c.xs)
theorem Src.ext {h h' : Heap} {b : Addr} {k : Nat} {c : Zs} (x : Src h k c) (hs : Heap.ExtBut b h h') (h1 : c.it ≠ b) (h2 : c.l ≠ b) : Src h' k c := by
  rcases x with ⟨a, d⟩ | ⟨a, d⟩
  · exact .inl ⟨a.extBut hs h1, d.extBut hs h2⟩
  · exact .inr ⟨a.extBut hs h1, d.extBut hs h2⟩
theorem Src.obj {h : Heap} {k : Nat} {c : Zs} (x : Src h k c) : ∃ o vs, h.get? c.it = some o ∧ o.data = .fields vs := by
  rcases x with ⟨⟨o, a, b, d⟩, _⟩ | ⟨⟨o, a, b, d⟩, _⟩
  · exact ⟨o, _, a, d⟩
  · exact ⟨o, _, a, d⟩
theorem Src.keep {h h' : Heap} {k : Nat} {c : Zs} (x : Src h k c) (h1 : ∀ o, h.get? c.it = some o → h'.get? c.it = some o) (h2 : ∀ o, h.get? c.l = some o → h'.get? c.l = some o) : Src h' k c := by
  rcases x with ⟨⟨o, a, b⟩, ⟨o', d, e⟩⟩ | ⟨⟨o, a, b⟩, ⟨o', d, e⟩⟩
  · exact .inl ⟨⟨o, h1 _ a, b⟩, ⟨o', h2 _ d, e⟩⟩
  · exact .inr ⟨⟨o, h1 _ a, b⟩, ⟨o', h2 _ d, e⟩⟩
abbrev IsT (h : Heap) (T : Addr) (vs : List Value) : Prop := h.get? T = some { cls := .type "tuple", data := .seq vs.toArray }
/-! ### a zip is made -/
def made (h : Heap) : List (Addr × Array Value) → Nat → List Zs
  | [], _ => []
  | (l, xs) :: r, n => ⟨n, l, xs⟩ :: made h r (n + 1)
end
end ZN
/-! DLv: zip in loops and comprehensions. -/
namespace ZN
open PySem PySem.Spec PyProof.Rows L2
def SrcI (h : Heap) (i : Nat) (b : Bool) (it l : Addr) : Prop := match b with
  | true => h.IsListIter it l i
  | false => h.IsTupleIter it l i
end ZN
/-! DLw: zip, extend, sorted ints, a, b = a list, comprehensions over i, (j, k). -/
namespace DL
open PySem PySem.Spec PyProof.Rows L2
/-! ### extend -/
/-! ### sorted -/
/-! ### a, b = a list -/
/-! ### zip -/
/-! ### comprehensions over i, (j, k) -/
end DL
/-! DOa: objects of own classes: made, their fields read and laid, their methods called. -/
namespace DL
open PySem PySem.Spec PyProof.Rows L2
/-! ### classes -/
structure ObC (K : PySem.W.Frag) (mg : Str → Option Value) (c : Str) (C : Addr) : Prop where
  m : mg c = some (.ref C)
  cl : Cls K C
/-! ### fields -/
/-! ### methods -/
/-- the method m of the class c keeps a promise -/
def MeOk (P : Program) (w : World) (K : PySem.W.Frag) (mg : Str → Option Value) (base : Heap) (k : Nat) (c m : Str) (ps : List Str) (sp : DSp) : Prop :=
  ∃ C f fd, ObC K mg c C ∧ Meth K C m f ∧ FnG P w K mg base k f fd ps sp ∧ Binds K fd ps []
theorem MeOk.mono {P : Program} {w : World} {K : PySem.W.Frag} {mg : Str → Option Value} {base : Heap} {j k : Nat} {c m : Str} {ps : List Str} {sp : DSp} (O : MeOk P w K mg base j c m ps sp) (h : j ≤ k) : MeOk P w K mg base k c m ps sp :=
  let ⟨C, f, fd, h1, h2, h3, h4⟩ := O; ⟨C, f, fd, h1, h2, h3.mono h, h4⟩
/-- .. called with n values by place (itself not counted) and the keywords ks -/
def MeC (P : Program) (w : World) (K : PySem.W.Frag) (mg : Str → Option Value) (base : Heap) (k : Nat) (c m : Str) (n : Nat) (ks : List Str) (is : List Nat) (dds : List D) (sp : DSp) : Prop :=
  ∃ C f fd ps, ∃ dvs : List V, ∃ its : List Value, ObC K mg c C ∧ Meth K C m f ∧ FnG P w K mg base k f fd ps sp ∧ KBn K fd ps (n + 1) ks (fun us ws => pick is (us ++ (ws ++ its))) (fun vs zs => pick is (vs ++ (zs ++ dvs))) ∧ ∀ F ρ, RepL ⟨K, mg⟩ F ρ dds dvs
theorem MeC.mono {P : Program} {w : World} {K : PySem.W.Frag} {mg : Str → Option Value} {base : Heap} {j k : Nat} {c m : Str} {n : Nat} {ks : List Str} {is : List Nat} {dds : List D} {sp : DSp} (O : MeC P w K mg base j c m n ks is dds sp) (h : j ≤ k) : MeC P w K mg base k c m n ks is dds sp :=
  let ⟨C, f, fd, ps, dvs, its, h1, h2, h3, h4⟩ := O; ⟨C, f, fd, ps, dvs, its, h1, h2, h3.mono h, h4⟩
/-! ### made -/
def MkOk (P : Program) (w : World) (K : PySem.W.Frag) (mg : Str → Option Value) (base : Heap) (k : Nat) (c : Str) (ps : List Str) (sp : DSp) : Prop :=
  ∃ C f fd, ObC K mg c C ∧ Mk K C f ∧ FnG P w K mg base k f fd ps sp ∧ Binds K fd ps []
theorem MkOk.mono {P : Program} {w : World} {K : PySem.W.Frag} {mg : Str → Option Value} {base : Heap} {j k : Nat} {c : Str} {ps : List Str} {sp : DSp} (O : MkOk P w K mg base j c ps sp) (h : j ≤ k) : MkOk P w K mg base k c ps sp :=
  let ⟨C, f, fd, h1, h2, h3, h4⟩ := O; ⟨C, f, fd, h1, h2, h3.mono h, h4⟩
end DL
/-! DLz: list(zip(..)), at the library's level. -/
namespace ZN
open PySem
/-- a zip whose last tuple lives on -/
abbrev IsZp (h : Heap) (z TI TO : Addr) (f0 f1 : Value) : Prop :=
  h.get? z = some { cls := .type "zip", dict := none, data := .fields #[f0, f1, .bool false, .ref TI, .ref TO], slots := #[] }
end ZN
namespace ZN
open PySem PySem.Spec PyProof.Rows L2
/-- a zip behind i turns; the tuples that it told live on -/
def ZSt (z TI TO : Addr) (its : List Addr) (ks : List (Bool × Addr)) (i : Nat) (h : Heap) : Prop :=
  (IsZp h z TI TO .none (.bool false) ∨ ∃ (a : Addr) (k : Bool) (o : Obj), IsZp h z TI TO (rawInt a) (.bool k) ∧ h.get? a = some o) ∧ IsT h TI (its.map Value.ref) ∧ (∃ ts : List Value, ts.length = ks.length ∧ IsT h TO ts) ∧ ∀ (j : Nat) (q : Bool × Addr) (it : Addr), ks[j]? = some q → its[j]? = some it → SrcI h i q.1 it q.2
theorem ZSt.keep {z TI TO : Addr} {its : List Addr} {ks : List (Bool × Addr)} {i : Nat} {h h' : Heap} (st : ZSt z TI TO its ks i h) (k : ∀ b ∈ z :: TI :: TO :: its, ∀ o, h.get? b = some o → h'.get? b = some o) (al : ∀ b o, h.get? b = some o → ∃ o', h'.get? b = some o') : ZSt z TI TO its ks i h' := by
  obtain ⟨hz, hTI, ⟨ts, ht, hTO⟩, hi⟩ := st
  refine ⟨?_, k TI (by simp) _ hTI, ⟨ts, ht, k TO (by simp) _ hTO⟩, fun j q it h1 h2 => ?_⟩
  · rcases hz with hz | ⟨a, c, o, hz, ha⟩
    · exact .inl (k z (by simp) _ hz)
    · obtain ⟨o', ho⟩ := al _ _ ha
      exact .inr ⟨a, c, o', k z (by simp) _ hz, ho⟩
  · have r := hi j q it h1 h2
    have hm : it ∈ z :: TI :: TO :: its := by simp [List.mem_of_getElem? h2]
    obtain ⟨b, a⟩ := q
    cases b with
    | true => obtain ⟨o, e, d⟩ := r; exact ⟨o, k it hm _ e, d⟩
    | false => obtain ⟨o, e, d⟩ := r; exact ⟨o, k it hm _ e, d⟩
end ZN
/-! DOb: list(x), list(zip(..)), sums, greatest and least, what is done to lists. -/
namespace DL
open PySem PySem.Spec PyProof.Rows L2
/-! ### list(x) -/
/-! ### sums, greatest, least -/
/-! ### what is done to a list -/
/-! ### extend, by a list in a cell too -/
/-! ### slices of tuples -/
/-! ### list(zip(..)) -/
/-! ### methods by name -/
end DL
/-! DLy: enumerate(zip(..)) in loops. -/
namespace ZN
open PySem PySem.Spec PyProof.Rows L2
/-- a zip behind i turns, whatever became of the tuple that it told last -/
def ZSo (z TI TO : Addr) (its : List Addr) (ks : List (Bool × Addr)) (i : Nat) (h : Heap) : Prop :=
  (IsZp h z TI TO .none (.bool false) ∨ ∃ (a : Addr) (k : Bool), IsZp h z TI TO (rawInt a) (.bool k)) ∧ IsT h TI (its.map Value.ref) ∧ (∃ ts : List Value, ts.length = ks.length ∧ IsT h TO ts) ∧ ∀ (j : Nat) (q : Bool × Addr) (it : Addr), ks[j]? = some q → its[j]? = some it → SrcI h i q.1 it q.2
theorem ZSo.keep {z TI TO : Addr} {its : List Addr} {ks : List (Bool × Addr)} {i : Nat} {h h' : Heap} (hl : its.length = ks.length) (st : ZSo z TI TO its ks i h) (k : ∀ b ∈ z :: TI :: TO :: its, ∀ o, h.get? b = some o → h'.get? b = some o) : ZSo z TI TO its ks i h' := by
  obtain ⟨hz, hTI, ⟨ts, ht, hTO⟩, hi⟩ := st
  refine ⟨?_, k TI (by simp) _ hTI, ⟨ts, ht, k TO (by simp) _ hTO⟩, fun j q it h1 h2 => ?_⟩
  · rcases hz with hz | ⟨a, c, hz⟩
    · exact .inl (k z (by simp) _ hz)
    · exact .inr ⟨a, c, k z (by simp) _ hz⟩
  · have r := hi j q it h1 h2
    have hm : it ∈ z :: TI :: TO :: its := by simp [List.mem_of_getElem? h2]
    obtain ⟨b, a⟩ := q
    cases b with
    | true => obtain ⟨o, e, d⟩ := r; exact ⟨o, k it hm _ e, d⟩
    | false => obtain ⟨o, e, d⟩ := r; exact ⟨o, k it hm _ e, d⟩
end ZN
namespace ZN
open PySem PySem.Spec PyProof.Rows L2
theorem ZSo.obj {z TI TO : Addr} {its : List Addr} {ks : List (Bool × Addr)} {i : Nat} {h : Heap} (hl : its.length = ks.length) (st : ZSo z TI TO its ks i h) : ∀ b ∈ z :: TI :: TO :: its, ∃ o, h.get? b = some o ∧ ∀ v, o.data ≠ .cell v := by
  intro c hc
  obtain ⟨hz, hTI, ⟨ts, _, hTO⟩, hi⟩ := st
  rcases List.mem_cons.mp hc with q | hc
  · rw [q]
    rcases hz with hz | ⟨_, _, hz⟩ <;> exact ⟨_, hz, fun v q => nomatch q⟩
  rcases List.mem_cons.mp hc with q | hc
  · rw [q]; exact ⟨_, hTI, fun v q => nomatch q⟩
  rcases List.mem_cons.mp hc with q | hc
  · rw [q]; exact ⟨_, hTO, fun v q => nomatch q⟩
  obtain ⟨j, hj⟩ := List.mem_iff_getElem?.mp hc
  have hjl : j < ks.length := by
    have := (List.getElem?_eq_some_iff.mp hj).1
    omega
  have r := hi j _ c (List.getElem?_eq_getElem hjl) hj
  generalize ks[j] = kq at r
  obtain ⟨b, a⟩ := kq
  cases b with
  | true => obtain ⟨o, e, _, d⟩ := r; exact ⟨o, e, fun v q => by rw [d] at q; cases q⟩
  | false => obtain ⟨o, e, _, d⟩ := r; exact ⟨o, e, fun v q => by rw [d] at q; cases q⟩
/-! ### an enumerate over a zip is made -/
end ZN
namespace DL
open PySem PySem.Spec PyProof.Rows L2
end DL
/-! DOc: comprehensions of several clauses that are stored. -/
namespace DL
open PySem PySem.Spec PyProof.Rows L2
end DL
namespace DL
open PySem PySem.Spec PyProof.Rows L2
/-! ### d.get(k, x) -/
end DL
/-! DP: plain steps over data. -/
namespace DL
open PySem PySem.Spec PyProof.Rows L2
section
variable {κ : Kap} {Q : DQ} {P : Bool → Prop} {i j : Int} {b c : Bool} {x y : Str} {m : Bool} {xs ys : List D}
theorem ix_lst : fIx (.node .lst xs) (.int i) κ Q = ∃ d, atI xs i = some d ∧ Q d κ := rfl
theorem ix_tup : fIx (.node .tup xs) (.int i) κ Q = ∃ d, atI xs i = some d ∧ Q d κ := rfl
theorem vw_cell {n : Nat} {k : Kd} (h : κ n = some (.live k xs)) : view (.cell n) κ = some (k, xs) := by
  unfold view
  simp only [h]
theorem ix_cell {n : Nat} (h : κ n = some (.live .lst xs)) : fIx (.cell n) (.int i) κ Q = ∃ d, atI xs i = some d ∧ Q d κ := by
  show (match view (.cell n) κ with
    | some (.lst, xs) => ∃ d, atI xs i = some d ∧ Q d κ
    | some (.tup, xs) => ∃ d, atI xs i = some d ∧ Q d κ
    | some (.klst, xs) => ∃ d, atI xs i = some d ∧ Q d κ
    | _ => False) = _
  rw [vw_cell h]
theorem ixN_nat {k n : Nat} (h : n < k) : ixN k (n : Int) = some n := by
  unfold ixN
  rw [if_pos (Int.natCast_nonneg n), if_pos (by omega), Int.toNat_natCast]
theorem at_nat {α : Type} {xs : List α} {n : Nat} {a : α} (h : xs[n]? = some a) : atI xs (n : Int) = some a := by
  unfold atI
  obtain ⟨h1, _⟩ := List.getElem?_eq_some_iff.mp h
  rw [ixN_nat h1]
  exact h
theorem at_0 {a : D} {l : List D} {P : D → Prop} : (∃ d, atI (a :: l) 0 = some d ∧ P d) = P a := propext ⟨fun ⟨d, h, q⟩ => by
    have : atI (a :: l) 0 = some a := at_nat (n := 0) rfl
    rw [this] at h; cases h; exact q, fun h => ⟨a, at_nat (n := 0) rfl, h⟩⟩
theorem at_1 {a b : D} {l : List D} {P : D → Prop} : (∃ d, atI (a :: b :: l) 1 = some d ∧ P d) = P b := propext ⟨fun ⟨d, h, q⟩ => by
    have : atI (a :: b :: l) 1 = some b := at_nat (n := 1) rfl
    rw [this] at h; cases h; exact q, fun h => ⟨b, at_nat (n := 1) rfl, h⟩⟩
theorem at_2 {a b c : D} {l : List D} {P : D → Prop} : (∃ d, atI (a :: b :: c :: l) 2 = some d ∧ P d) = P c := propext ⟨fun ⟨d, h, q⟩ => by
    have : atI (a :: b :: c :: l) 2 = some c := at_nat (n := 2) rfl
    rw [this] at h; cases h; exact q, fun h => ⟨c, at_nat (n := 2) rfl, h⟩⟩
theorem at_3 {a b c e : D} {l : List D} {P : D → Prop} : (∃ d, atI (a :: b :: c :: e :: l) 3 = some d ∧ P d) = P e := propext ⟨fun ⟨d, h, q⟩ => by
    have : atI (a :: b :: c :: e :: l) 3 = some e := at_nat (n := 3) rfl
    rw [this] at h; cases h; exact q, fun h => ⟨e, at_nat (n := 3) rfl, h⟩⟩
/-- the item of a list at a place below its length -/
theorem at_of {α : Type} {xs : List α} {i : Int} (h0 : 0 ≤ i) (h1 : i < xs.length) : ∃ d, atI xs i = some d ∧ d ∈ xs := by
  unfold atI ixN
  rw [if_pos h0, if_pos h1]
  have h2 : i.toNat < xs.length := by omega
  exact ⟨xs[i.toNat], List.getElem?_eq_getElem h2, List.getElem_mem h2⟩
theorem ix_mem {xs : List D} {i : Int} {κ : Kap} {Q : DQ} (h0 : 0 ≤ i) (h1 : i < xs.length) (h : ∀ d ∈ xs, Q d κ) : fIx (.node .lst xs) (.int i) κ Q := by
  obtain ⟨d, e, hd⟩ := at_of h0 h1
  exact ⟨d, e, h d hd⟩
theorem se_cell {n : Nat} {d : D} {T : Kap → Prop} (h : κ n = some (.live .lst xs)) : fSet (.cell n) (.int i) d κ T = ∃ m, ixN xs.length i = some m ∧ T (kset κ n (.live .lst (xs.set m d))) := by
  unfold fSet
  simp only [h]
theorem se_0 {n : Nat} {a d : D} {l : List D} {T : Kap → Prop} (h : κ n = some (.live .lst (a :: l))) : fSet (.cell n) (.int 0) d κ T = T (kset κ n (.live .lst (d :: l))) := by
  rw [se_cell h]
  exact propext ⟨fun ⟨m, h, q⟩ => by
    have : ixN (a :: l).length 0 = some 0 := by unfold ixN; simp
    rw [this] at h; cases h; exact q, fun h => ⟨0, by unfold ixN; simp, h⟩⟩
theorem se_2 {n : Nat} {a b c d : D} {l : List D} {T : Kap → Prop} (h : κ n = some (.live .lst (a :: b :: c :: l))) : fSet (.cell n) (.int 2) d κ T = T (kset κ n (.live .lst (a :: b :: d :: l))) := by
  rw [se_cell h]
  have e : ixN (a :: b :: c :: l).length 2 = some 2 := ixN_nat (n := 2) (by simp)
  exact propext ⟨fun ⟨m, h, q⟩ => by rw [e] at h; cases h; exact q, fun h => ⟨2, e, h⟩⟩
theorem se_3 {n : Nat} {a b c e d : D} {l : List D} {T : Kap → Prop} (h : κ n = some (.live .lst (a :: b :: c :: e :: l))) : fSet (.cell n) (.int 3) d κ T = T (kset κ n (.live .lst (a :: b :: c :: d :: l))) := by
  rw [se_cell h]
  have e : ixN (a :: b :: c :: e :: l).length 3 = some 3 := ixN_nat (n := 3) (by simp)
  exact propext ⟨fun ⟨m, h, q⟩ => by rw [e] at h; cases h; exact q, fun h => ⟨3, e, h⟩⟩
end
/-! equality of what can be told apart -/
theorem pd_int_is {κ : Kap} {i : Int} {p : PyData} (h : Pd κ (.int i) p) : p = .int i := by
  cases h with
  | int => rfl
  | lst h _ => cases h
  | tup h _ => cases h
  | dct h _ => cases h
theorem eq_int {κ : Kap} {Q : DQ} {i j : Int} : fEq (.int i) (.int j) κ Q = Q (.bl (decide (i = j))) κ := propext ⟨fun ⟨p, q, h1, h2, _, _, h⟩ => by
    cases pd_int_is h1
    cases pd_int_is h2
    exact h, fun h => ⟨.int i, .int j, .int i, .int j, rfl, rfl, h⟩⟩
theorem ne_int' {κ : Kap} {Q : DQ} {i j : Int} : fNe (.int i) (.int j) κ Q = Q (.bl (!decide (i = j))) κ := propext ⟨fun ⟨p, q, h1, h2, _, _, h⟩ => by
    cases pd_int_is h1
    cases pd_int_is h2
    exact h, fun h => ⟨.int i, .int j, .int i, .int j, rfl, rfl, h⟩⟩
theorem eq_dat {κ : Kap} {Q : DQ} {x y : D} {p q : PyData} (hx : pdata x = some p) (hy : pdata y = some q) (sx : SeqAt.shaped p = true) (sy : SeqAt.shaped q = true) (h : Q (.bl (PyData.eqv p q)) κ) : fEq x y κ Q := ⟨p, q, pd_of hx, pd_of hy, sx, sy, h⟩
/-! side conditions -/
theorem log_lt {n k : Nat} (h : n < 2 ^ k) : n.log2 ≤ k := by
  by_cases h0 : n = 0
  · subst h0; simp
  · exact Nat.le_of_lt ((Nat.log2_lt h0).mpr h)
theorem cmul_of (a b : Nat) {i j : Int} (h : i.natAbs < 2 ^ a) (h' : j.natAbs < 2 ^ b) (hs : a + b < 1000000) : CMulW i j := by
  have h1 := log_lt h
  have h2 := log_lt h'
  unfold CMulW
  omega
theorem cmul64 {i j : Int} (h : i.natAbs < 2 ^ 64) (h' : j.natAbs < 2 ^ 64) : CMulW i j := cmul_of 64 64 h h' (by decide)
theorem cdiv_of (a : Nat) {i j : Int} (h0 : j ≠ 0) (h : j.natAbs < 2 ^ a) (hs : a < 9000) : CDivD i j := ⟨h0, Nat.lt_of_le_of_lt (log_lt h) hs⟩
theorem cdiv64 {i j : Int} (h0 : j ≠ 0) (h : j.natAbs < 2 ^ 64) : CDivD i j := cdiv_of 64 h0 h (by decide)
theorem fm_bd (x w : Int) (h : 0 < w) : 0 ≤ x.fmod w ∧ x.fmod w < w := ⟨Int.fmod_nonneg_of_pos x h, Int.fmod_lt_of_pos x h⟩
theorem len_cut (z : Str) (u v : Option Int) : (cutS z u v).length ≤ z.length := cutS_length z u v
theorem len_app (x y : Str) : (x ++ y).length = x.length + y.length := Array.size_append
theorem len_emp : (Str.ofString "").length = 0 := by decide +kernel
theorem ipow_le {b : Int} (hb : 1 ≤ b) {i n : Nat} (h : i ≤ n) : b ^ i ≤ b ^ n := by
  induction n with
  | zero => rw [Nat.le_zero.mp h]; exact Int.le_refl _
  | succ n ih =>
    by_cases hi : i = n + 1
    · rw [hi]; exact Int.le_refl _
    · have h1 := ih (by omega)
      have h2 : 0 ≤ b ^ n := Int.pow_nonneg (by omega)
      rw [Int.pow_succ]
      exact Int.le_trans h1 (by have := Int.mul_le_mul_of_nonneg_left hb h2; simpa using this)
/-! isinstance, told -/
theorem isi_in {tab : List KRow} {d : D} {n : String} {κ : Kap} {Q : DQ} (t : TyK) (b : Bool) (h1 : tyK d κ = some t) (h2 : ktOf tab t (.b n) = some b) (h : Q (.bl b) κ) : fIsi (ktOf tab) [d, .ty n] κ Q := ⟨t, b, h1, h2, h⟩
/-! repr of data -/
/-! loops -/
/-- a loop over items: what holds of the rest -/
theorem dLoop_ind {g : DG} {b : DS} {gd : Kap → Prop} {X : DX} {T : DEnds} (I : List D → DEnv → Kap → Prop) (h0 : ∀ δ κ, I [] δ κ → gd κ ∧ T.nx δ κ)
    (hs : ∀ d ds δ κ (L : DEnv → Kap → Prop), (∀ δ κ, I ds δ κ → L δ κ) → I (d :: ds) δ κ → gd κ ∧ g d δ κ X fun δ1 κ1 => b δ1 κ1 X { nx := L, ct := L, bk := T.nx, rt := T.rt }) : ∀ ds δ κ, I ds δ κ → dLoop g b gd X T ds δ κ
  | [], δ, κ, h => h0 δ κ h
  | d :: ds, δ, κ, h => hs d ds δ κ _ (dLoop_ind I h0 hs ds) h
/-- a loop over items: what holds behind i of them -/
theorem dLoop_ix {g : DG} {b : DS} {gd : Kap → Prop} {X : DX} {T : DEnds} {items : List D} (I : Nat → DEnv → Kap → Prop) (h0 : ∀ δ κ, I items.length δ κ → gd κ ∧ T.nx δ κ)
    (hs : ∀ i d δ κ (L : DEnv → Kap → Prop), items[i]? = some d → (∀ δ κ, I (i + 1) δ κ → L δ κ) → I i δ κ → gd κ ∧ g d δ κ X fun δ1 κ1 => b δ1 κ1 X { nx := L, ct := L, bk := T.nx, rt := T.rt }) {δ : DEnv} {κ : Kap} (h : I 0 δ κ) : dLoop g b gd X T items δ κ := by
  refine dLoop_ind (fun ds δ κ => ∃ i, ds = items.drop i ∧ i ≤ items.length ∧ I i δ κ) ?_ ?_ items δ κ ⟨0, rfl, Nat.zero_le _, h⟩
  · rintro δ κ ⟨i, e, hi, h⟩
    have : i = items.length := by
      have := congrArg List.length e
      simp at this
      omega
    subst this
    exact h0 δ κ h
  · rintro d ds δ κ L hL ⟨i, e, hi, h⟩
    have hlt : i < items.length := by
      have := congrArg List.length e
      simp at this
      omega
    rw [List.drop_eq_getElem_cons hlt] at e
    injection e with e1 e2
    exact hs i d δ κ L (by rw [e1]; exact List.getElem?_eq_getElem hlt) (fun δ κ q => hL δ κ ⟨i + 1, e2, hlt, q⟩) h
theorem rangeD_len {lo : Int} {n : Nat} : (rangeD lo n).length = n := by unfold rangeD; simp
theorem rangeD_get {lo : Int} {n i : Nat} {d : D} (h : (rangeD lo n)[i]? = some d) : i < n ∧ d = .int (lo + (i : Nat)) := by
  unfold rangeD at h
  rw [List.getElem?_map, Option.map_eq_some_iff] at h
  obtain ⟨j, hj, rfl⟩ := h
  obtain ⟨h1, h2⟩ := List.getElem?_eq_some_iff.mp hj
  rw [List.length_range] at h1
  rw [List.getElem_range] at h2
  subst h2
  exact ⟨h1, rfl⟩
/-! a box that is drawn from -/
/-- the box at b: three whole numbers, at most m drawn so far -/
def Bx (b m : Nat) (κ : Kap) : Prop := ∃ x y z : Int, κ b = some (.live .lst [.int x, .int y, .int z]) ∧ 0 ≤ y ∧ y < 2 ^ 31 ∧ 0 ≤ z ∧ z ≤ (m : Int)
/-- all cells but b's stay -/
def Fr (b : Nat) (κ κ' : Kap) : Prop := ∀ n c, n ≠ b → κ n = some c → κ' n = some c
theorem Fr.refl {b : Nat} {κ : Kap} : Fr b κ κ := fun _ _ _ h => h
theorem Fr.trans {b : Nat} {κ κ1 κ2 : Kap} (h : Fr b κ κ1) (g : Fr b κ1 κ2) : Fr b κ κ2 := fun n c hn e => g n c hn (h n c hn e)
theorem Fr.set {b n : Nat} {κ : Kap} {c : Cell} (h : κ n = none) : Fr b κ (kset κ n c) := fun m d hm e => by rw [kset_ne (kne e h)]; exact e
theorem Fr.box {b : Nat} {κ : Kap} {c : Cell} : Fr b κ (kset κ b c) := fun m d hm e => by rw [kset_ne hm]; exact e
theorem Bx.mono {b m m' : Nat} {κ : Kap} (h : Bx b m κ) (hm : m ≤ m') : Bx b m' κ := let ⟨x, y, z, h1, h2, h3, h4, h5⟩ := h; ⟨x, y, z, h1, h2, h3, h4, by omega⟩
theorem Bx.is {b m : Nat} {κ : Kap} (h : Bx b m κ) : ∃ k xs, κ b = some (.live k xs) := let ⟨_, _, _, h1, _⟩ := h; ⟨_, _, h1⟩
theorem Bx.ne {b m n : Nat} {κ : Kap} (h : Bx b m κ) (hn : κ n = none) : n ≠ b := fun e => by obtain ⟨_, _, q⟩ := h.is; rw [e] at hn; rw [hn] at q; cases q
theorem Bx.set {b m n : Nat} {κ : Kap} {c : Cell} (h : Bx b m κ) (hn : n ≠ b) : Bx b m (kset κ n c) := let ⟨x, y, z, h1, h2⟩ := h; ⟨x, y, z, by rw [kset_ne hn.symm]; exact h1, h2⟩
end DL
/-! DS: one step for each reading. -/
namespace DL
open PySem PySem.Spec L2
def rQ (QI : List D → (Kap → Prop) → Kap → Prop) (xs : List D) (κ : Kap) : Prop := match xs with
  | [.int j] => -(2 ^ 62) ≤ j ∧ j < 2 ^ 62 ∧ QI (rangeD 0 j.toNat) gTrue κ
  | _ => False
def sQ (QI : List D → (Kap → Prop) → Kap → Prop) (d : D) (κ : Kap) : Prop := match d with
  | .str x => QI (charsD x) gTrue κ
  | .cell n => match κ n with
    | some (.live .lst xs) => QI xs (fun κ => κ n = some (.live .lst xs)) κ
    | _ => False
  | d => match view d κ with
    | some (.lst, xs) => QI xs gTrue κ
    | some (.klst, xs) => QI xs gTrue κ
    | some (.tup, xs) => QI xs gTrue κ
    | _ => False
section
variable {δ : DEnv} {κ : Kap} {X : DX} {Q : DQ} {a b c : DE} {as r : DA} {t u : DT} {s s' : DS} {d x y : D} {f g : D2} {n : DEnv → Kap → Prop} {rt : DQ} {bk ct : DEnv → Kap → Prop} {T : DEnds} {QL : List D → Kap → Prop} {QB : Bool → Kap → Prop} {QG : DEnv → Kap → Prop} {xs ys : List D} {A B : Prop} {i j : Int} {z v : Str} {m k : Bool}
theorem s_sp {n m : Nat} {b : DS} {ds : List D} {X : Str → List D → Kap → Prop} (h : ds.length = m) (q : b (startD n ds) κ (fun _ c fs κ' => X c fs κ') ⟨fun _ κ' => Q .non κ', Q, fun _ _ => False, fun _ _ => False⟩) : spOf n m b ds κ X Q := ⟨h, q⟩
theorem s_seq (h : s δ κ X ⟨fun δ1 κ1 => s' δ1 κ1 X ⟨n, rt, bk, ct⟩, rt, bk, ct⟩) : sSeq s s' δ κ X ⟨n, rt, bk, ct⟩ := h
theorem s_nil (h : n δ κ) : sNil δ κ X ⟨n, rt, bk, ct⟩ := h
theorem s_asg {g : DG} (h : a δ κ X fun d κ1 => g d δ κ1 X n) : sAsg a g δ κ X ⟨n, rt, bk, ct⟩ := h
theorem s_exp (h : a δ κ X fun _ κ1 => n δ κ1) : sExp a δ κ X ⟨n, rt, bk, ct⟩ := h
theorem s_ret (h : a δ κ X rt) : sRet a δ κ X ⟨n, rt, bk, ct⟩ := h
theorem s_retN (h : rt .non κ) : sRetN δ κ X ⟨n, rt, bk, ct⟩ := h
theorem s_brk (h : bk δ κ) : sBrk δ κ X ⟨n, rt, bk, ct⟩ := h
theorem s_con (h : ct δ κ) : sCon δ κ X ⟨n, rt, bk, ct⟩ := h
theorem s_if (h : t δ κ X fun k κ1 => if k = true then s δ κ1 X T else s' δ κ1 X T) : sIf t s s' δ κ X T := h
theorem s_par {i j : Nat} (h : as δ κ X fun ds κ1 => ∃ x y, ds = [x, y] ∧ n ((δ.set i (some x)).set j (some y)) κ1) : sPar i j as δ κ X ⟨n, rt, bk, ct⟩ := h
theorem s_for {it : DI} {g : DG} (h : it δ κ X fun items gd κ1 => dLoop g s gd X T items δ κ1) : sFor it g s δ κ X T := h
theorem x_par {P : D → D → Prop} (h : P x y) : ∃ u v, [x, y] = [u, v] ∧ P u v := ⟨x, y, rfl, h⟩
theorem e_var {i : Nat} (e : δ[i]? = some (some d)) (h : Q d κ) : dVar i δ κ X Q := by unfold dVar; rw [e]; exact h
theorem e_c (h : Q d κ) : dC d δ κ X Q := h
theorem e_op (h : a δ κ X fun x κ1 => b δ κ1 X fun y κ2 => f x y κ2 Q) : dOp f a b δ κ X Q := h
theorem e_un {f : D1} (h : a δ κ X fun x κ1 => f x κ1 Q) : dUn f a δ κ X Q := h
theorem e_nil (h : QL [] κ) : dNil δ κ X QL := h
theorem e_cons (h : a δ κ X fun x κ1 => r δ κ1 X fun xs κ2 => QL (x :: xs) κ2) : dCons a r δ κ X QL := h
theorem e_B {f : DN} (h : as δ κ X fun xs κ1 => f xs κ1 Q) : dB f as δ κ X Q := h
theorem e_tup (h : as δ κ X fun xs κ1 => xs.length ≤ sizeLine ∧ Q (.node .tup xs) κ1) : dTup as δ κ X Q := h
theorem e_lst (h : as δ κ X fun xs κ1 => xs.length ≤ sizeLine ∧ fNew m .lst xs κ1 Q) : dLst m as δ κ X Q := h
theorem e_dct0 (h : fNew m (.dct []) [] κ Q) : dDct0 m δ κ X Q := h
theorem e_sz (h1 : xs.length ≤ sizeLine) (h : A) : xs.length ≤ sizeLine ∧ A := ⟨h1, h⟩
theorem cpow_of {i j : Int} (h0 : 0 ≤ j) (h1 : j ≤ 1000000) (h2 : i.natAbs < 2 ^ 64) : CPow i j := ⟨h0, h1, h2⟩
theorem e_nwf {k : Kd} (h : Q (.node k xs) κ) : fNew false k xs κ Q := h
theorem e_nwt {k : Kd} (h : ∀ n, κ n = none → Q (.cell n) (kset κ n (.live k xs))) : fNew true k xs κ Q := h
theorem e_and (h : a δ κ X fun x κ1 => withTruth x κ1 fun t => if t = true then b δ κ1 X Q else Q x κ1) : dAnd a b δ κ X Q := h
theorem e_or (h : a δ κ X fun x κ1 => withTruth x κ1 fun t => if t = true then Q x κ1 else b δ κ1 X Q) : dOr a b δ κ X Q := h
theorem e_not (h : a δ κ X fun x κ1 => withTruth x κ1 fun t => Q (.bl (!t)) κ1) : dNot a δ κ X Q := h
theorem e_if (h : t δ κ X fun k κ1 => if k = true then a δ κ1 X Q else b δ κ1 X Q) : dIf t a b δ κ X Q := h
theorem e_chain (h : a δ κ X fun x κ1 => b δ κ1 X fun y κ2 => f x y κ2 fun z κ3 => ∃ k, z = .bl k ∧ if k = true then c δ κ3 X (fun w κ4 => g y w κ4 Q) else Q (.bl false) κ3) : dChain f g a b c δ κ X Q := h
theorem e_sl {lo hi : DO} (h : a δ κ X fun x κ1 => lo δ κ1 X fun i κ2 => hi δ κ2 X fun j κ3 => fSl m x i j κ3 Q) : dSl m a lo hi δ κ X Q := h
theorem e_no {QO : Option Int → Kap → Prop} (h : QO none κ) : dNo δ κ X QO := h
theorem e_part {QO : Option Int → Kap → Prop} (h : a δ κ X fun x κ1 => ∃ i, x = .int i ∧ QO (some i) κ1) : dPart a δ κ X QO := h
theorem e_call {sp : DSp} (h : as δ κ X fun xs κ1 => sp xs κ1 (X δ) Q) : dCall sp [] as δ κ X Q := by
  unfold dCall
  simp only [List.append_nil]
  exact h
theorem e_m1 {f : D → D → Kap → DQ → Prop} (h : a δ κ X fun x κ1 => (∃ y, x = .str y) ∧ b δ κ1 X fun z κ2 => f x z κ2 Q) : dM1 f a b δ κ X Q := h
theorem e_m0 {f : D → Kap → DQ → Prop} (h : a δ κ X fun x κ1 => (∃ y, x = .str y) ∧ f x κ1 Q) : dM0 f a δ κ X Q := h
theorem e_lc {it : DI} {t : TN} {tt : DT} {e : DE} {vs : List Nat} (h : it δ κ X fun items gd κ1 => ∀ n, κ1 n = none →
  lcLoop n t tt e gd vs δ (fun acc κ' => κ' n = some (.live .lst acc) ∧ Q (.node .lst acc) (kset κ' n .dead)) items [] (kset κ1 n (.live .lst []))) : dLc false it t tt e vs δ κ X Q := h
theorem e_lcm {it : DI} {t : TN} {tt : DT} {e : DE} {vs : List Nat} (h : it δ κ X fun items gd κ1 => ∀ n, κ1 n = none →
  lcLoop n t tt e gd vs δ (fun acc κ' => κ' n = some (.live .lst acc) ∧ Q (.cell n) κ') items [] (kset κ1 n (.live .lst []))) : dLc true it t tt e vs δ κ X Q := h
theorem t_yes (h : QB true κ) : tYesD δ κ X QB := h
theorem t_tru (h : a δ κ X fun x κ1 => withTruth x κ1 fun t => QB t κ1) : tTru a δ κ X QB := h
theorem t_bl (h : a δ κ X fun x κ1 => ∃ k, x = .bl k ∧ QB k κ1) : tBl a δ κ X QB := h
theorem t_and (h : t δ κ X fun k κ1 => if k = true then u δ κ1 X QB else QB false κ1) : tAndD t u δ κ X QB := h
theorem t_or (h : t δ κ X fun k κ1 => if k = true then QB true κ1 else u δ κ1 X QB) : tOrD t u δ κ X QB := h
theorem t_not (h : t δ κ X fun k κ1 => QB (!k) κ1) : tNotD t δ κ X QB := h
theorem w_bl {P : Bool → Prop} (h : P k) : withTruth (.bl k) κ P := h
theorem w_non {P : Bool → Prop} (h : P false) : withTruth .non κ P := h
theorem w_int {P : Bool → Prop} (h : P (i != 0)) : withTruth (.int i) κ P := h
theorem x_bl {P : Bool → Prop} (h : P k) : ∃ q, D.bl k = D.bl q ∧ P q := ⟨k, rfl, h⟩
theorem x_int {P : Int → Prop} (h : P i) : ∃ q, D.int i = D.int q ∧ P q := ⟨i, rfl, h⟩
theorem x_str (h : A) : (∃ q, D.str z = D.str q) ∧ A := ⟨⟨z, rfl⟩, h⟩
theorem i_T (h : A) : if true = true then A else B := by rw [if_pos rfl]; exact h
theorem i_F (h : B) : if false = true then A else B := by rw [if_neg (by decide)]; exact h
theorem i_not (h : if k = true then B else A) : if (!k) = true then A else B := by cases k <;> exact h
theorem i_dT {p : Prop} [Decidable p] (hp : p) (h : A) : if decide p = true then A else B := by rw [if_pos (decide_eq_true hp)]; exact h
theorem i_dF {p : Prop} [Decidable p] (hp : ¬p) (h : B) : if decide p = true then A else B := by rw [if_neg (by rw [decide_eq_false hp]; decide)]; exact h
theorem i_d {p : Prop} [Decidable p] (h : p → A) (h' : ¬p → B) : if decide p = true then A else B := by
  by_cases hp : p
  · exact i_dT hp (h hp)
  · exact i_dF hp (h' hp)
theorem g_nil (h : QG δ κ) : gNilD [] δ κ X QG := ⟨rfl, h⟩
theorem g_cons {g : DG} {r : DGs} (h : g d δ κ X fun δ1 κ1 => r xs δ1 κ1 X QG) : gConsD g r (d :: xs) δ κ X QG := h
theorem g_tup {N : Nat} {g : DGs} (hl : xs.length = N) (h : g xs δ κ X QG) : gTupD N g (.node .tup xs) δ κ X QG := ⟨xs, rfl, hl, h⟩
theorem g_sub {f : D → D → D → Kap → (Kap → Prop) → Prop} (h : a δ κ X fun x κ1 => b δ κ1 X fun y κ2 => f x y d κ2 fun κ3 => QG δ κ3) : gSubD a b f d δ κ X QG := h
theorem s_while (I : Nat → DEnv → Kap → Prop) (h0 : ∃ m, I m δ κ) (h : ∀ m δ κ (L : DEnv → Kap → Prop), (∀ m' δ κ, m' < m → I m' δ κ → L δ κ) → I m δ κ → t δ κ X fun k κ1 => if k = true then s δ κ1 X ⟨L, rt, n, L⟩ else n δ κ1) : sWhile t s δ κ X ⟨n, rt, bk, ct⟩ :=
  ⟨I, h0, fun m δ κ hI => h m δ κ _ (fun m' δ κ hm hI => ⟨m', hm, hI⟩) hI⟩
theorem dl_ix {g : DG} {gd : Kap → Prop} {items : List D} (I : Nat → DEnv → Kap → Prop) (h0 : ∀ δ κ, I items.length δ κ → gd κ ∧ n δ κ)
    (hs : ∀ i d δ κ (L : DEnv → Kap → Prop), items[i]? = some d → (∀ δ κ, I (i + 1) δ κ → L δ κ) → I i δ κ → gd κ ∧ g d δ κ X fun δ1 κ1 => s δ1 κ1 X ⟨L, rt, n, L⟩) (h : I 0 δ κ) : dLoop g s gd X ⟨n, rt, bk, ct⟩ items δ κ := dLoop_ix I h0 hs h
theorem p_nil {QP : List (D × D) → Kap → Prop} (h : QP [] κ) : dPairs [] δ κ X QP := h
theorem p_cons {l : List (DE × DE)} {QP : List (D × D) → Kap → Prop} (h : a δ κ X fun x κ1 => b δ κ1 X fun y κ2 => dPairs l δ κ2 X fun ps κ3 => QP ((x, y) :: ps) κ3) : dPairs ((a, b) :: l) δ κ X QP := h
theorem r_1 {QI : List D → (Kap → Prop) → Kap → Prop} (h : as δ κ X (rQ QI)) : iRange1 as δ κ X QI := h
theorem r_q {QI : List D → (Kap → Prop) → Kap → Prop} (h1 : -(2 ^ 62) ≤ j) (h2 : j < 2 ^ 62) (h : QI (rangeD 0 j.toNat) gTrue κ) : rQ QI [.int j] κ := ⟨h1, h2, h⟩
theorem q_seq {QI : List D → (Kap → Prop) → Kap → Prop} (h : a δ κ X (sQ QI)) : iSeq a δ κ X QI := h
theorem q_S {QI : List D → (Kap → Prop) → Kap → Prop} (h : QI (charsD z) gTrue κ) : sQ QI (.str z) κ := h
theorem q_L {QI : List D → (Kap → Prop) → Kap → Prop} (h : QI xs gTrue κ) : sQ QI (.node .lst xs) κ := h
theorem q_K {QI : List D → (Kap → Prop) → Kap → Prop} (h : QI xs gTrue κ) : sQ QI (.node .klst xs) κ := h
theorem q_T {QI : List D → (Kap → Prop) → Kap → Prop} (h : QI xs gTrue κ) : sQ QI (.node .tup xs) κ := h
/-! operators -/
theorem f_adI (h : Q (.int (i + j)) κ) : fAdd m (.int i) (.int j) κ Q := h
theorem f_adS (h1 : z.length + v.length ≤ sizeLine) (h : Q (.str (z ++ v)) κ) : fAdd m (.str z) (.str v) κ Q := ⟨h1, h⟩
theorem f_adL (h1 : xs.length + ys.length ≤ sizeLine) (h : Q (.node .lst (xs ++ ys)) κ) : fAdd false (.node .lst xs) (.node .lst ys) κ Q := ⟨h1, h⟩
theorem f_sub (h : Q (.int (i - j)) κ) : fSub (.int i) (.int j) κ Q := ⟨trivial, h⟩
theorem f_mod (h1 : j ≠ 0) (h : Q (.int (i.fmod j)) κ) : fMod (.int i) (.int j) κ Q := ⟨h1, h⟩
theorem f_div (h1 : CDivD i j) (h : Q (.int (i.fdiv j)) κ) : fDiv (.int i) (.int j) κ Q := ⟨h1, h⟩
theorem f_mul (h1 : CMulW i j) (h : Q (.int (i * j)) κ) : fMulI (.int i) (.int j) κ Q := ⟨h1, h⟩
theorem f_pow (h1 : CPow i j) (h : Q (.int (i ^ j.toNat)) κ) : fPow (.int i) (.int j) κ Q := ⟨h1, h⟩
theorem f_neg (h : Q (.int (-i)) κ) : fNeg (.int i) κ Q := h
theorem f_ltI (h : Q (.bl (decide (i < j))) κ) : fLtS (.int i) (.int j) κ Q := h
theorem f_leI (h : Q (.bl (decide (i ≤ j))) κ) : fLeS (.int i) (.int j) κ Q := h
theorem f_gtI (h : Q (.bl (decide (j < i))) κ) : fGtS (.int i) (.int j) κ Q := h
theorem f_geI (h : Q (.bl (decide (j ≤ i))) κ) : fGeS (.int i) (.int j) κ Q := h
theorem f_leS (h : Q (.bl (!decide (v.cps.toList < z.cps.toList))) κ) : fLeS (.str z) (.str v) κ Q := h
theorem f_ltS (h : Q (.bl (decide (z.cps.toList < v.cps.toList))) κ) : fLtS (.str z) (.str v) κ Q := h
theorem f_eqI (h : Q (.bl (decide (i = j))) κ) : fEq (.int i) (.int j) κ Q := by rw [eq_int]; exact h
theorem f_neI (h : Q (.bl (!decide (i = j))) κ) : fNe (.int i) (.int j) κ Q := by rw [ne_int']; exact h
theorem f_inS (h : Q (.bl (strIn z v)) κ) : fIn false (.str z) (.str v) κ Q := h
theorem f_abs (h : Q (.int (if i < 0 then -i else i)) κ) : fAbs [.int i] κ Q := h
theorem f_max (h : Q (.int (if j > i then j else i)) κ) : fMax2 [.int i, .int j] κ Q := h
theorem f_min (h : Q (.int (if j < i then j else i)) κ) : fMin2 [.int i, .int j] κ Q := h
theorem f_lnS (h1 : z.length ≤ sizeLine) (h : Q (.int (z.length : Nat)) κ) : fLen [.str z] κ Q := ⟨h1, h⟩
theorem f_lnL (h : Q (.int (xs.length : Nat)) κ) : fLen [.node .lst xs] κ Q := h
theorem f_lnK (h : Q (.int (xs.length : Nat)) κ) : fLen [.node .klst xs] κ Q := h
theorem f_lnT (h : Q (.int (xs.length : Nat)) κ) : fLen [.node .tup xs] κ Q := h
theorem f_stI (h1 : i.natAbs.log2 < 1920) (h : Q (.str (toString i)) κ) : fStr [.int i] κ Q := ⟨h1, h⟩
theorem f_slS {p q : Option Int} (h1 : z.length ≤ sizeLine) (h : Q (.str (cutS z p q)) κ) : fSl m (.str z) p q κ Q := ⟨h1, h⟩
theorem f_ix0 (h : Q d κ) : fIx (.node .lst (d :: xs)) (.int 0) κ Q := by rw [ix_lst, at_0]; exact h
theorem f_ix1 (h : Q d κ) : fIx (.node .lst (x :: d :: xs)) (.int 1) κ Q := by rw [ix_lst, at_1]; exact h
theorem f_ix2 (h : Q d κ) : fIx (.node .lst (x :: y :: d :: xs)) (.int 2) κ Q := by rw [ix_lst, at_2]; exact h
theorem f_ic0 {N : Nat} (e : κ N = some (.live .lst (d :: xs))) (h : Q d κ) : fIx (.cell N) (.int 0) κ Q := by rw [ix_cell e, at_0]; exact h
theorem f_ic1 {N : Nat} (e : κ N = some (.live .lst (x :: d :: xs))) (h : Q d κ) : fIx (.cell N) (.int 1) κ Q := by rw [ix_cell e, at_1]; exact h
theorem f_ic2 {N : Nat} (e : κ N = some (.live .lst (x :: y :: d :: xs))) (h : Q d κ) : fIx (.cell N) (.int 2) κ Q := by rw [ix_cell e, at_2]; exact h
theorem f_ik0 {N : Nat} (h : Q d (kset κ N (.live .lst (d :: xs)))) : fIx (.cell N) (.int 0) (kset κ N (.live .lst (d :: xs))) Q := f_ic0 kset_same h
theorem f_ik1 {N : Nat} (h : Q d (kset κ N (.live .lst (x :: d :: xs)))) : fIx (.cell N) (.int 1) (kset κ N (.live .lst (x :: d :: xs))) Q := f_ic1 kset_same h
theorem f_ik2 {N : Nat} (h : Q d (kset κ N (.live .lst (x :: y :: d :: xs)))) : fIx (.cell N) (.int 2) (kset κ N (.live .lst (x :: y :: d :: xs))) Q := f_ic2 kset_same h
theorem f_se0 {N : Nat} {P : Kap → Prop} (e : κ N = some (.live .lst (x :: xs))) (h : P (kset κ N (.live .lst (d :: xs)))) : fSet (.cell N) (.int 0) d κ P := by rw [se_0 e]; exact h
theorem f_se2 {N : Nat} {v w : D} {P : Kap → Prop} (e : κ N = some (.live .lst (v :: w :: x :: xs))) (h : P (kset κ N (.live .lst (v :: w :: d :: xs)))) : fSet (.cell N) (.int 2) d κ P := by rw [se_2 e]; exact h
theorem f_it0 (h : Q d κ) : fIx (.node .tup (d :: xs)) (.int 0) κ Q := by rw [ix_tup, at_0]; exact h
theorem f_it1 (h : Q d κ) : fIx (.node .tup (x :: d :: xs)) (.int 1) κ Q := by rw [ix_tup, at_1]; exact h
theorem f_it2 (h : Q d κ) : fIx (.node .tup (x :: y :: d :: xs)) (.int 2) κ Q := by rw [ix_tup, at_2]; exact h
theorem g_n0 {e0 : Option D} {l : DEnv} (h : QG (some d :: l) κ) : gN 0 d (e0 :: l) κ X QG := h
theorem g_n1 {e0 e1 : Option D} {l : DEnv} (h : QG (e0 :: some d :: l) κ) : gN 1 d (e0 :: e1 :: l) κ X QG := h
theorem g_n2 {e0 e1 e2 : Option D} {l : DEnv} (h : QG (e0 :: e1 :: some d :: l) κ) : gN 2 d (e0 :: e1 :: e2 :: l) κ X QG := h
theorem g_n3 {e0 e1 e2 e3 : Option D} {l : DEnv} (h : QG (e0 :: e1 :: e2 :: some d :: l) κ) : gN 3 d (e0 :: e1 :: e2 :: e3 :: l) κ X QG := h
theorem g_n4 {e0 e1 e2 e3 e4 : Option D} {l : DEnv} (h : QG (e0 :: e1 :: e2 :: e3 :: some d :: l) κ) : gN 4 d (e0 :: e1 :: e2 :: e3 :: e4 :: l) κ X QG := h
theorem g_n5 {e0 e1 e2 e3 e4 e5 : Option D} {l : DEnv} (h : QG (e0 :: e1 :: e2 :: e3 :: e4 :: some d :: l) κ) : gN 5 d (e0 :: e1 :: e2 :: e3 :: e4 :: e5 :: l) κ X QG := h
theorem g_n6 {e0 e1 e2 e3 e4 e5 e6 : Option D} {l : DEnv} (h : QG (e0 :: e1 :: e2 :: e3 :: e4 :: e5 :: some d :: l) κ) : gN 6 d (e0 :: e1 :: e2 :: e3 :: e4 :: e5 :: e6 :: l) κ X QG := h
theorem g_n7 {e0 e1 e2 e3 e4 e5 e6 e7 : Option D} {l : DEnv} (h : QG (e0 :: e1 :: e2 :: e3 :: e4 :: e5 :: e6 :: some d :: l) κ) : gN 7 d (e0 :: e1 :: e2 :: e3 :: e4 :: e5 :: e6 :: e7 :: l) κ X QG := h
theorem g_n8 {e0 e1 e2 e3 e4 e5 e6 e7 e8 : Option D} {l : DEnv} (h : QG (e0 :: e1 :: e2 :: e3 :: e4 :: e5 :: e6 :: e7 :: some d :: l) κ) : gN 8 d (e0 :: e1 :: e2 :: e3 :: e4 :: e5 :: e6 :: e7 :: e8 :: l) κ X QG := h
theorem g_n9 {e0 e1 e2 e3 e4 e5 e6 e7 e8 e9 : Option D} {l : DEnv} (h : QG (e0 :: e1 :: e2 :: e3 :: e4 :: e5 :: e6 :: e7 :: e8 :: some d :: l) κ) : gN 9 d (e0 :: e1 :: e2 :: e3 :: e4 :: e5 :: e6 :: e7 :: e8 :: e9 :: l) κ X QG := h
theorem g_n10 {e0 e1 e2 e3 e4 e5 e6 e7 e8 e9 e10 : Option D} {l : DEnv} (h : QG (e0 :: e1 :: e2 :: e3 :: e4 :: e5 :: e6 :: e7 :: e8 :: e9 :: some d :: l) κ) : gN 10 d (e0 :: e1 :: e2 :: e3 :: e4 :: e5 :: e6 :: e7 :: e8 :: e9 :: e10 :: l) κ X QG := h
theorem g_n11 {e0 e1 e2 e3 e4 e5 e6 e7 e8 e9 e10 e11 : Option D} {l : DEnv} (h : QG (e0 :: e1 :: e2 :: e3 :: e4 :: e5 :: e6 :: e7 :: e8 :: e9 :: e10 :: some d :: l) κ) : gN 11 d (e0 :: e1 :: e2 :: e3 :: e4 :: e5 :: e6 :: e7 :: e8 :: e9 :: e10 :: e11 :: l) κ X QG := h
end
end DL
/-! DT: texts of a bounded length, of code points. -/
namespace DL
open PySem PySem.Spec PyProof.Rows L2
def Tx (n : Nat) (x : Str) : Prop := x.length ≤ n ∧ ∀ c ∈ x.cps.toList, c < 0x110000
theorem Tx.mono {n m : Nat} {x : Str} (h : Tx n x) (hm : n ≤ m) : Tx m x := ⟨Nat.le_trans h.1 hm, h.2⟩
theorem Tx.app {n m : Nat} {x y : Str} (h : Tx n x) (h' : Tx m y) : Tx (n + m) (x ++ y) := ⟨by
    rw [len_app]
    exact Nat.add_le_add h.1 h'.1, fun c hc => by
    have e : (x ++ y).cps.toList = x.cps.toList ++ y.cps.toList := Array.toList_append
    rw [e] at hc
    rcases List.mem_append.mp hc with hc | hc
    · exact h.2 c hc
    · exact h'.2 c hc⟩
theorem Tx.cut {n : Nat} {x : Str} (h : Tx n x) (p q : Option Int) : Tx n (cutS x p q) := ⟨Nat.le_trans (len_cut x p q) h.1, fun c hc => by
    have e : (cutS x p q).cps.toList = (x.cps.toList.drop (HT.sIx x.length 0 p)).take (HT.sIx x.length x.length q - HT.sIx x.length 0 p) := rfl
    rw [e] at hc
    exact h.2 c (List.drop_subset _ _ (List.take_subset _ _ hc))⟩
theorem Tx.one {c : Nat} (h : c < 0x110000) : Tx 1 ⟨#[c]⟩ := ⟨Nat.le_refl _, fun d hd => by
    have : d ∈ [c] := hd
    rw [List.mem_singleton.mp this]
    exact h⟩
theorem Tx.of {n : Nat} (s : String) (h : (Str.ofString s).length ≤ n) : Tx n (Str.ofString s) := ⟨h, fun c hc => by
    rw [PySem.Str.ofString_eq_toList] at hc
    have hc' : c ∈ s.toList.map Char.toNat := hc
    obtain ⟨ch, _, rfl⟩ := List.mem_map.mp hc'
    rcases ch.valid with h | ⟨_, h⟩
    · exact Nat.lt_trans h (by decide)
    · exact h⟩
theorem Tx.num {i : Int} (h : i.natAbs.log2 < 1920) : Tx 1921 (toString i : String) := Tx.of _ (PyProof.Rows.int_text_len_1921 h)
theorem Tx.emp : Tx 0 (Str.ofString "") := Tx.of _ (by rw [len_emp]; exact Nat.le_refl _)
theorem Tx.join {n : Nat} : ∀ {ys : List Str}, (∀ y ∈ ys, Tx n y) → Tx (ys.length * n) (Str.join "" ys)
  | [], _ => Tx.emp.mono (Nat.zero_le _)
  | [x], h => by
    have := h x List.mem_cons_self
    exact this.mono (by simp)
  | x :: y :: r, h => by
    have h1 := h x List.mem_cons_self
    have h2 := Tx.join (ys := y :: r) fun z hz => h z (List.mem_cons_of_mem _ hz)
    have := (h1.app Tx.emp).app h2
    exact this.mono (by simp only [List.length_cons, Nat.add_mul, Nat.one_mul]; omega)
theorem Tx.shaped {n : Nat} {x : Str} (h : Tx n x) : SeqAt.shaped (.str x) = true := by
  have : PyData.strOk x = true := by
    unfold PyData.strOk
    rw [Array.all_eq_true']
    intro c hc
    exact decide_eq_true (h.2 c (Array.mem_toList_iff.mpr hc))
  show ((PyData.strOk x) && decide _) = true
  rw [this]
  rfl
/-- a sign of a text -/
theorem Tx.at {n : Nat} {x : Str} {i : Int} (h : Tx n x) (h0 : 0 ≤ i) (h1 : i < x.length) : ∃ c, atI x.cps.toList i = some c ∧ Tx 1 ⟨#[c]⟩ := by
  obtain ⟨c, e, hc⟩ := at_of (xs := x.cps.toList) h0 (by rw [Array.length_toList]; exact h1)
  exact ⟨c, e, .one (h.2 c hc)⟩
theorem f_adT {n m : Nat} {z v : Str} {k : Bool} {κ : Kap} {Q : DQ} (h : Tx n z) (h' : Tx m v) (hs : n + m ≤ 16777216) (q : Tx (n + m) (z ++ v) → Q (.str (z ++ v)) κ) : fAdd k (.str z) (.str v) κ Q :=
  ⟨by have h1 := h.1; have h2 := h'.1; unfold sizeLine; omega, q (h.app h')⟩
theorem f_slT {n : Nat} {z : Str} {k : Bool} {u v : Option Int} {κ : Kap} {Q : DQ} (h : Tx n z) (hs : n ≤ 16777216) (q : Tx n (cutS z u v) → Q (.str (cutS z u v)) κ) : fSl k (.str z) u v κ Q :=
  ⟨Nat.le_trans h.1 hs, q (h.cut u v)⟩
theorem f_lnTx {n : Nat} {z : Str} {κ : Kap} {Q : DQ} (h : Tx n z) (hs : n ≤ 16777216) (q : z.length ≤ n → Q (.int (z.length : Nat)) κ) : fLen [.str z] κ Q := ⟨Nat.le_trans h.1 hs, q h.1⟩
end DL
/-! DN: numbers as tops and bases. -/
namespace DL
open PySem PySem.Spec PyProof.Rows L2
/-! texts of data -/
theorem Tx.list {n : Nat} {ts : List Str} (h : ∀ t ∈ ts, Tx n t) : Tx (ts.length * (n + 2) + 2) (listText ts) := by
  have t1 : Tx 1 (Str.ofString "[") := .of _ (by decide +kernel)
  have t2 : Tx 1 (Str.ofString "]") := .of _ (by decide +kernel)
  have t3 : Tx 2 (Str.ofString ", ") := .of _ (by decide +kernel)
  have go : ∀ (ts : List Str) (k : Nat) (acc : Str) (m : Nat), (∀ t ∈ ts, Tx n t) → Tx m acc → Tx (m + ts.length * (n + 2)) (textFrom k acc ts) := by
    intro ts
    induction ts with
    | nil => intro k acc m _ ha; exact ha.mono (by simp)
    | cons t r ih =>
      intro k acc m ht ha
      have h1 := ht t List.mem_cons_self
      have h0 : Tx 2 (Str.ofString (if k > 0 then ", " else "")) := by
        split
        · exact t3
        · exact Tx.emp.mono (by decide)
      have := ih (k + 1) _ (m + 2 + n) (fun z hz => ht z (List.mem_cons_of_mem _ hz)) ((ha.app h0).app h1)
      refine this.mono ?_
      rw [List.length_cons, Nat.add_mul]
      omega
  exact ((go ts 0 _ 1 h t1).app t2).mono (by omega)
theorem Tx.joinC {n : Nat} : ∀ {ys : List Str}, (∀ y ∈ ys, Tx n y) → Tx (ys.length * (n + 2)) (Str.join ", " ys)
  | [], _ => Tx.emp.mono (Nat.zero_le _)
  | [x], h => (h x List.mem_cons_self).mono (by simp)
  | x :: y :: r, h => by
    have t3 : Tx 2 (Str.ofString ", ") := .of _ (by decide +kernel)
    have h1 := h x List.mem_cons_self
    have h2 := Tx.joinC (ys := y :: r) fun z hz => h z (List.mem_cons_of_mem _ hz)
    have := (h1.app t3).app h2
    exact this.mono (by simp only [List.length_cons, Nat.add_mul, Nat.one_mul]; omega)
theorem Tx.tuple {n : Nat} {ts : List Str} (h : ∀ t ∈ ts, Tx n t) : Tx (ts.length * (n + 2) + 3) (tupleText ts) := by
  have t1 : Tx 1 (Str.ofString "(") := .of _ (by decide +kernel)
  have t2 : Tx 2 (Str.ofString (if ts.length == 1 then ",)" else ")")) := by
    split
    · exact .of _ (by decide +kernel)
    · exact (Tx.of (n := 1) _ (by decide +kernel)).mono (by decide)
  exact ((t1.app (Tx.joinC h)).app t2).mono (by omega)
theorem shownAll_mem : ∀ {ps : List PyData} {t : Str}, t ∈ PyData.shownAll ps → ∃ p ∈ ps, t = p.shown
  | [], _, h => absurd h List.not_mem_nil
  | p :: ps, t, h => by
    rcases List.mem_cons.mp (show t ∈ p.shown :: PyData.shownAll ps from h) with h | h
    · exact ⟨p, List.mem_cons_self, h⟩
    · obtain ⟨q, hq, e⟩ := shownAll_mem h
      exact ⟨q, List.mem_cons_of_mem _ hq, e⟩
theorem shownAll_len : ∀ {ps : List PyData}, (PyData.shownAll ps).length = ps.length
  | [] => rfl
  | p :: ps => by
    show (p.shown :: PyData.shownAll ps).length = _
    rw [List.length_cons, List.length_cons, shownAll_len]
/-- data whose text is of a bounded length -/
def Sh (n : Nat) (p : PyData) : Prop := p.showable = true ∧ Tx n p.shown
theorem Sh.mono {n m : Nat} {p : PyData} (h : Sh n p) (hm : n ≤ m) : Sh m p := ⟨h.1, h.2.mono hm⟩
theorem Sh.int {i : Int} (h : i.natAbs.log2 < 1920) : Sh 1921 (.int i) := ⟨by
  show decide _ = true
  exact decide_eq_true h, Tx.num h⟩
theorem Sh.all {n : Nat} : ∀ {ps : List PyData}, (∀ p ∈ ps, Sh n p) → PyData.showableAll ps = true
  | [], _ => rfl
  | p :: ps, h => by
    show (p.showable && PyData.showableAll ps) = true
    rw [(h p List.mem_cons_self).1, Sh.all fun q hq => h q (List.mem_cons_of_mem _ hq)]
    rfl
theorem Sh.list {n : Nat} {ps : List PyData} (h : ∀ p ∈ ps, Sh n p) : Sh (ps.length * (n + 2) + 2) (.list ps) := ⟨Sh.all h, by
  show Tx _ (listText (PyData.shownAll ps))
  rw [← shownAll_len]
  exact Tx.list fun t ht => by
    obtain ⟨p, hp, rfl⟩ := shownAll_mem ht
    exact (h p hp).2⟩
theorem Sh.tuple {n : Nat} {ps : List PyData} (h : ∀ p ∈ ps, Sh n p) : Sh (ps.length * (n + 2) + 3) (.tuple ps) := ⟨Sh.all h, by
  show Tx _ (tupleText (PyData.shownAll ps))
  rw [← shownAll_len]
  exact Tx.tuple fun t ht => by
    obtain ⟨p, hp, rfl⟩ := shownAll_mem ht
    exact (h p hp).2⟩
/-! shape of data -/
/-- data that compares: how deep at most -/
def Sp (k : Nat) (p : PyData) : Prop := p.canLay0 = true ∧ p.depth ≤ k
theorem Sp.mono {k m : Nat} {p : PyData} (h : Sp k p) (hm : k ≤ m) : Sp m p := ⟨h.1, Nat.le_trans h.2 hm⟩
theorem Sp.int {i : Int} : Sp 0 (.int i) := ⟨rfl, Nat.le_refl _⟩
theorem Sp.bool {b : Bool} : Sp 0 (.bool b) := ⟨rfl, Nat.le_refl _⟩
theorem Sp.none : Sp 0 .none := ⟨rfl, Nat.le_refl _⟩
theorem Sp.str {n : Nat} {x : Str} (h : Tx n x) : Sp 0 (.str x) := ⟨by
  show PyData.strOk x = true
  unfold PyData.strOk
  rw [Array.all_eq_true']
  intro c hc
  exact decide_eq_true (h.2 c (Array.mem_toList_iff.mpr hc)), Nat.le_refl _⟩
theorem Sp.all {k : Nat} : ∀ {ps : List PyData}, (∀ p ∈ ps, Sp k p) → PyData.canLayAll0 ps = true ∧ PyData.depthAll ps ≤ k
  | [], _ => ⟨rfl, Nat.zero_le _⟩
  | p :: ps, h => by
    obtain ⟨a, b⟩ := Sp.all fun q hq => h q (List.mem_cons_of_mem _ hq)
    obtain ⟨c, d⟩ := h p List.mem_cons_self
    refine ⟨?_, ?_⟩
    · show (p.canLay0 && PyData.canLayAll0 ps) = true
      rw [a, c]
      rfl
    · show max p.depth (PyData.depthAll ps) ≤ k
      omega
theorem Sp.list {k : Nat} {ps : List PyData} (h : ∀ p ∈ ps, Sp k p) : Sp (k + 1) (.list ps) := ⟨(Sp.all h).1, by
  show PyData.depthAll ps + 1 ≤ k + 1
  have := (Sp.all h).2
  omega⟩
theorem Sp.tuple {k : Nat} {ps : List PyData} (h : ∀ p ∈ ps, Sp k p) : Sp (k + 1) (.tuple ps) := ⟨(Sp.all h).1, by
  show PyData.depthAll ps + 1 ≤ k + 1
  have := (Sp.all h).2
  omega⟩
theorem Sp.shaped {k : Nat} {p : PyData} (h : Sp k p) (hk : k ≤ 64) : SeqAt.shaped p = true := by
  show (p.canLay0 && decide (p.depth ≤ 64)) = true
  rw [h.1, decide_eq_true (Nat.le_trans h.2 hk)]
  rfl
/-! the greatest common part -/
theorem gcd_step {x y : Nat} (h : y ≠ 0) : Nat.gcd y (x % y) = Nat.gcd x y := by
  rw [Nat.gcd_comm x y, Nat.gcd_rec y x, Nat.gcd_comm]
theorem abs_nat (i : Int) : (if i < 0 then -i else i) = (i.natAbs : Int) := by
  split <;> omega
/-- the part by which a number is shortened -/
def cpt (u l : Int) : Int := if l < 0 then 0 - (Int.gcd u l : Int) else (Int.gcd u l : Int)
theorem cpt_ne {u l : Int} (h : l ≠ 0) : cpt u l ≠ 0 := by
  have := Int.gcd_pos_of_ne_zero_right u h
  unfold cpt
  split <;> omega
def rtn (u l : Int) : Int := u.fdiv (cpt u l)
def rtd (u l : Int) : Int := l.fdiv (cpt u l)
theorem cpt_dvd_l (u l : Int) : cpt u l ∣ u := by
  unfold cpt
  split
  · rw [Int.zero_sub]
    exact Int.neg_dvd.mpr (Int.gcd_dvd_left ..)
  · exact Int.gcd_dvd_left ..
theorem cpt_dvd_r (u l : Int) : cpt u l ∣ l := by
  unfold cpt
  split
  · rw [Int.zero_sub]
    exact Int.neg_dvd.mpr (Int.gcd_dvd_right ..)
  · exact Int.gcd_dvd_right ..
theorem rtn_mul (u l : Int) : rtn u l * cpt u l = u := Int.fdiv_mul_cancel (cpt_dvd_l u l)
theorem rtd_mul (u l : Int) : rtd u l * cpt u l = l := Int.fdiv_mul_cancel (cpt_dvd_r u l)
/-- in lowest terms, the base above nought -/
def NOk (a b : Int) : Prop := 0 < b ∧ Int.gcd a b = 1
theorem NOk.one (a : Int) : NOk a 1 := ⟨by decide, by rw [Int.gcd_one_right]⟩
theorem rt_ok {u l : Int} (h : l ≠ 0) : NOk (rtn u l) (rtd u l) := by
  have hp := cpt_ne (u := u) h
  have e1 := rtn_mul u l
  have e2 := rtd_mul u l
  have hg := Int.gcd_pos_of_ne_zero_right u h
  have ha : (cpt u l).natAbs = Int.gcd u l := by unfold cpt; split <;> omega
  refine ⟨?_, ?_⟩
  · by_cases hl : l < 0
    · have hc : cpt u l < 0 := by unfold cpt; rw [if_pos hl]; omega
      rcases Int.lt_trichotomy 0 (rtd u l) with h1 | h1 | h1
      · exact h1
      · rw [← h1, Int.zero_mul] at e2; omega
      · have := Int.mul_pos_of_neg_of_neg h1 hc; omega
    · have hc : 0 < cpt u l := by unfold cpt; rw [if_neg hl]; omega
      rcases Int.lt_trichotomy 0 (rtd u l) with h1 | h1 | h1
      · exact h1
      · rw [← h1, Int.zero_mul] at e2; omega
      · have := Int.mul_neg_of_neg_of_pos h1 hc; omega
  · have e : Int.gcd (rtn u l * cpt u l) (rtd u l * cpt u l) = Int.gcd (rtn u l) (rtd u l) * (cpt u l).natAbs := Int.gcd_mul_right ..
    rw [e1, e2, ha] at e
    have : 1 * Int.gcd u l = Int.gcd (rtn u l) (rtd u l) * Int.gcd u l := by rw [Nat.one_mul]; exact e
    exact (Nat.eq_of_mul_eq_mul_right hg this).symm
theorem nat_uniq {a b c d : Nat} (hb : Nat.Coprime a b) (hd : Nat.Coprime c d) (h : a * d = c * b) : b = d := by
  have h1 : b ∣ d := by
    have : b ∣ a * d := ⟨c, by rw [h, Nat.mul_comm]⟩
    exact (Nat.Coprime.symm hb).dvd_of_dvd_mul_left this
  have h2 : d ∣ b := by
    have : d ∣ c * b := ⟨a, by rw [← h, Nat.mul_comm]⟩
    exact (Nat.Coprime.symm hd).dvd_of_dvd_mul_left this
  exact Nat.dvd_antisymm h1 h2
theorem NOk.uniq {a b c d : Int} (h : NOk a b) (h' : NOk c d) (e : a * d = c * b) : a = c ∧ b = d := by
  have hb : b = d := by
    have h1 : a.natAbs * d.natAbs = c.natAbs * b.natAbs := by rw [← Int.natAbs_mul, ← Int.natAbs_mul, e]
    have := nat_uniq (show Nat.Coprime a.natAbs b.natAbs from h.2) (show Nat.Coprime c.natAbs d.natAbs from h'.2) h1
    have h2 := h.1
    have h3 := h'.1
    omega
  subst hb
  exact ⟨Int.eq_of_mul_eq_mul_right (Int.ne_of_gt h.1) e, rfl⟩
theorem rt_cross {u l : Int} : rtn u l * l = u * rtd u l := by
  have e1 := rtn_mul u l
  have e2 := rtd_mul u l
  calc rtn u l * l = rtn u l * (rtd u l * cpt u l) := by rw [e2]
    _ = rtn u l * cpt u l * rtd u l := by rw [Int.mul_comm (rtd u l), Int.mul_assoc]
    _ = u * rtd u l := by rw [e1]
/-- what is shortened to the same -/
theorem rt_is {u l a b : Int} (hl : l ≠ 0) (h : NOk a b) (e : a * l = u * b) : rtn u l = a ∧ rtd u l = b := by
  refine (rt_ok hl).uniq h ?_
  have h1 := rt_cross (u := u) (l := l)
  have h3 : (rtn u l * b) * l = (a * rtd u l) * l := by
    calc (rtn u l * b) * l = (rtn u l * l) * b := by rw [Int.mul_assoc, Int.mul_comm b l, ← Int.mul_assoc]
      _ = u * rtd u l * b := by rw [h1]
      _ = u * b * rtd u l := by rw [Int.mul_assoc, Int.mul_comm (rtd u l) b, ← Int.mul_assoc]
      _ = a * l * rtd u l := by rw [e]
      _ = (a * rtd u l) * l := by rw [Int.mul_assoc, Int.mul_comm l (rtd u l), ← Int.mul_assoc]
  exact Int.eq_of_mul_eq_mul_right hl h3
theorem rt_self {a b : Int} (h : NOk a b) : rtn a b = a ∧ rtd a b = b := rt_is (Int.ne_of_gt h.1) h rfl
theorem abs_le_of_mul {a p u : Int} (e : a * p = u) (hp : p ≠ 0) : a.natAbs ≤ u.natAbs := by
  rw [← e, Int.natAbs_mul]
  exact Nat.le_mul_of_pos_right _ (by omega)
theorem rtn_le {u l : Int} (h : l ≠ 0) : (rtn u l).natAbs ≤ u.natAbs := abs_le_of_mul (rtn_mul u l) (cpt_ne h)
theorem rtd_le {u l : Int} (h : l ≠ 0) : (rtd u l).natAbs ≤ l.natAbs := abs_le_of_mul (rtd_mul u l) (cpt_ne h)
/-- a number, as it stands in the program -/
def nb (a b : Int) : D := if b = 1 then .int a else .node .tup [.int a, .int b]
def nbP (a b : Int) : PyData := if b = 1 then .int a else .tuple [.int a, .int b]
theorem nb_1 (a : Int) : nb a 1 = .int a := rfl
theorem nb_p {a b : Int} (h : b ≠ 1) : nb a b = .node .tup [.int a, .int b] := if_neg h
theorem nb_pdata (a b : Int) : pdata (nb a b) = some (nbP a b) := by
  unfold nb nbP
  split <;> rfl
theorem nbP_sp (a b : Int) : Sp 1 (nbP a b) := by
  unfold nbP
  split
  · exact Sp.int.mono (by decide)
  · exact Sp.tuple (k := 0) fun p hp => by
      simp only [List.mem_cons, List.not_mem_nil, or_false] at hp
      rcases hp with rfl | rfl <;> exact Sp.int
theorem eqv_int (a b : Int) : PyData.eqv (.int a) (.int b) = decide (a = b) := by
  show (a == b) = _
  by_cases h : a = b <;> simp [h]
theorem eqv_pair (a b c d : Int) : PyData.eqv (.tuple [.int a, .int b]) (.tuple [.int c, .int d]) = (decide (a = c) && decide (b = d)) := by
  show (PyData.eqv (.int a) (.int c) && (PyData.eqv (.int b) (.int d) && true)) = _
  rw [eqv_int, eqv_int, Bool.and_true]
theorem nbP_eqv {a b c d : Int} : PyData.eqv (nbP a b) (nbP c d) = decide (a = c ∧ b = d) := by
  unfold nbP
  by_cases hb : b = 1
  · by_cases hd : d = 1
    · rw [if_pos hb, if_pos hd, eqv_int, hb, hd]
      simp
    · rw [if_pos hb, if_neg hd]
      show false = _
      rw [decide_eq_false]
      omega
  · by_cases hd : d = 1
    · rw [if_neg hb, if_pos hd]
      show false = _
      rw [decide_eq_false]
      omega
    · rw [if_neg hb, if_neg hd, eqv_pair]
      simp
theorem f_eqP {a b c d : Int} {κ : Kap} {Q : DQ} (h : Q (.bl (decide (a = c ∧ b = d))) κ) : fEq (.node .tup [.int a, .int b]) (.node .tup [.int c, .int d]) κ Q := by
  have sp : ∀ a b : Int, SeqAt.shaped (.tuple [.int a, .int b]) = true := fun a b => (Sp.tuple (k := 0) fun p hp => by
    simp only [List.mem_cons, List.not_mem_nil, or_false] at hp
    rcases hp with rfl | rfl <;> exact Sp.int).shaped (by decide)
  refine eq_dat (p := .tuple [.int a, .int b]) (q := .tuple [.int c, .int d]) rfl rfl (sp _ _) (sp _ _) ?_
  rw [eqv_pair, ← Bool.decide_and]
  exact h
theorem NOk.zero {a b : Int} (h : NOk a b) : (a = 0 ∧ b = 1) ↔ a = 0 := ⟨fun h => h.1, fun e => ⟨e, by
  have h2 := h.2
  have h1 := h.1
  rw [e, Int.gcd_zero_left] at h2
  omega⟩⟩
/-! calls by keywords -/
section
variable {δ : DEnv} {κ : Kap} {X : DX} {Q : DQ} {as kw : DA} {sp : DSp} {n m : Nat} {is : List Nat} {dds : List D}
theorem e_callC (h : as δ κ X fun xs κ1 => kw δ κ1 X fun ys κ2 => cC sp n m is dds xs ys κ2 (X δ) Q) : dCallC sp n m is dds as kw δ κ X Q := h
theorem c_C {xs ys zs : List D} {Y : Str → List D → Kap → Prop} (h1 : xs.length = n) (h2 : ys.length = m) (h3 : pick is (xs ++ (ys ++ dds)) = zs) (h : sp zs κ Y Q) : cC sp n m is dds xs ys κ Y Q := ⟨h1, h2, by rw [h3]; exact h⟩
end
end DL
namespace DL
open PySem PySem.Spec PyProof.Rows L2
/-- a number in lowest terms, of a bounded size -/
structure Nd (k : Nat) (a b : Int) : Prop where
  ok : NOk a b
  tb : a.natAbs < 2 ^ k
  bb : b.natAbs < 2 ^ k
theorem Nd.mono {k m : Nat} {a b : Int} (h : Nd k a b) (hm : k ≤ m) : Nd m a b :=
  ⟨h.ok, Nat.lt_of_lt_of_le h.tb (Nat.pow_le_pow_right (by decide) hm), Nat.lt_of_lt_of_le h.bb (Nat.pow_le_pow_right (by decide) hm)⟩
theorem Nd.rt {k : Nat} {u l : Int} (hl : l ≠ 0) (h1 : u.natAbs < 2 ^ k) (h2 : l.natAbs < 2 ^ k) : Nd k (rtn u l) (rtd u l) :=
  ⟨rt_ok hl, Nat.lt_of_le_of_lt (rtn_le hl) h1, Nat.lt_of_le_of_lt (rtd_le hl) h2⟩
theorem mul_bd {i j : Int} {a b : Nat} (h : i.natAbs < 2 ^ a) (h' : j.natAbs < 2 ^ b) : (i * j).natAbs < 2 ^ (a + b) := by
  rw [Int.natAbs_mul, Nat.pow_add]
  exact Nat.mul_lt_mul'' h h'
theorem add_bd {i j : Int} {a : Nat} (h : i.natAbs < 2 ^ a) (h' : j.natAbs < 2 ^ a) : (i + j).natAbs < 2 ^ (a + 1) := by
  have := Int.natAbs_add_le i j
  rw [Nat.pow_succ]
  omega
theorem sub_bd {i j : Int} {a : Nat} (h : i.natAbs < 2 ^ a) (h' : j.natAbs < 2 ^ a) : (i - j).natAbs < 2 ^ (a + 1) := by
  have := Int.natAbs_sub_le i j
  rw [Nat.pow_succ]
  omega
theorem bd_mono {i : Int} {a b : Nat} (h : i.natAbs < 2 ^ a) (hm : a ≤ b) : i.natAbs < 2 ^ b := Nat.lt_of_lt_of_le h (Nat.pow_le_pow_right (by decide) hm)
theorem Nd.b0 {k : Nat} {a b : Int} (h : Nd k a b) : b ≠ 0 := Int.ne_of_gt h.ok.1
def tN (a b c d : Int) : Int := rtn (a * c) (b * d)
def tD (a b c d : Int) : Int := rtd (a * c) (b * d)
section
variable {k : Nat} {a b c d : Int}
theorem Nd.bd0 (h : Nd k a b) (h' : Nd k c d) : b * d ≠ 0 := Int.mul_ne_zero h.b0 h'.b0
end
end DL
namespace DL
open PySem PySem.Spec PyProof.Rows L2
theorem fdiv_abs_le {x y : Int} (hy : 0 < y) : (x.fdiv y).natAbs ≤ x.natAbs + 1 := by
  have h1 := Int.mul_fdiv_add_fmod x y
  have h2 : x.fmod y < y := Int.fmod_lt_of_pos x hy
  have h3 : 0 ≤ x.fmod y := Int.fmod_nonneg_of_pos x hy
  generalize x.fdiv y = q at h1 ⊢
  generalize x.fmod y = r at h1 h2 h3
  subst h1
  by_cases hq : q = 0
  · subst hq; omega
  · have hb : q.natAbs ≤ (y * q).natAbs := by rw [Int.natAbs_mul]; exact Nat.le_mul_of_pos_left _ (by omega)
    rcases Int.lt_or_gt_of_ne hq with hq | hq
    · have e : (y * (q + 1)).natAbs = (y).natAbs * (q + 1).natAbs := Int.natAbs_mul ..
      have h5 : y * (q + 1) ≤ 0 := Int.mul_nonpos_of_nonneg_of_nonpos (by omega) (by omega)
      have h6 : y * (q + 1) = y * q + y := by rw [Int.mul_add, Int.mul_one]
      have h7 : (q + 1).natAbs ≤ y.natAbs * (q + 1).natAbs := Nat.le_mul_of_pos_left _ (by omega)
      omega
    · have h6 : 0 < y * q := Int.mul_pos hy hq
      omega
theorem f_intB {k : Bool} {κ : Kap} {Q : DQ} (h : Q (.int (if k = true then 1 else 0)) κ) : fInt [.bl k] κ Q := h
theorem f_intI {i : Int} {κ : Kap} {Q : DQ} (h : Q (.int i) κ) : fInt [.int i] κ Q := h
end DL
/-! DQ: steps: lists that grow, short loops, odd things. -/
namespace DL
open PySem PySem.Spec PyProof.Rows L2
section
variable {δ : DEnv} {κ : Kap} {X : DX} {Q : DQ} {a : DE} {as : DA} {T : String} {f : D1N} {n : Nat} {xs ds : List D} {d : D} {g : DG} {s : DS} {gd : Kap → Prop} {nx bk ct : DEnv → Kap → Prop} {rt : DQ} {A : Prop}
theorem e_bm (h : a δ κ X fun x κ1 => isSeq T x κ1 ∧ as δ κ1 X fun xs κ2 => f x xs κ2 Q) : dBM T f a as δ κ X Q := h
theorem isq_node (h : A) : isSeq "list" (.node .lst xs) κ ∧ A := ⟨⟨xs, rfl⟩, h⟩
end
/-! odd things: plain ones, lists and dicts that grow -/
end DL
namespace DL
open PySem PySem.Spec PyProof.Rows L2
section
variable {δ : DEnv} {κ : Kap} {X : DX} {Q : DQ} {a b : DE} {x y : D} {k : Bool}
theorem kk {m n : Nat} {c c' : Cell} (e : κ m = some c) (h : κ n = none) : kset κ n c' m = some c := by
  rw [kset_ne (kne e h)]
  exact e
theorem kp {m n : Nat} {c c' : Cell} (e : κ m = some c) (h : m ≠ n) : kset κ n c' m = some c := by
  rw [kset_ne h]
  exact e
theorem kd {m n : Nat} {c c' : Cell} (e : κ m = some c) (e' : κ n = some c') (h : c ≠ c') : m ≠ n := fun q => h (by rw [q, e'] at e; exact (Option.some.inj e).symm)
end
end DL
/-! DR: numbers as rational ones. -/
namespace DL
open PySem PySem.Spec PyProof.Rows L2
def nq (q : Rat) : D := nb q.num q.den
def Sz (k : Nat) (q : Rat) : Prop := q.num.natAbs < 2 ^ k ∧ q.den < 2 ^ k
theorem nq_ok (q : Rat) : NOk q.num q.den := ⟨by have := q.den_pos; omega, q.reduced⟩
theorem nq_int (i : Int) : nq (i : Rat) = .int i := rfl
theorem nq_nd {k : Nat} {q : Rat} (h : Sz k q) : Nd k q.num q.den := ⟨nq_ok q, h.1, by have := h.2; omega⟩
theorem rt_q {u l : Int} (hl : l ≠ 0) : rtn u l = (Rat.divInt u l).num ∧ rtd u l = ((Rat.divInt u l).den : Int) := by
  refine rt_is hl (nq_ok _) ?_
  have h := Rat.num_divInt_den (Rat.divInt u l)
  have hd : ((Rat.divInt u l).den : Int) ≠ 0 := by have := (Rat.divInt u l).den_pos; omega
  exact (Rat.divInt_eq_divInt_iff hd hl).mp h
theorem nb_rt {u l : Int} (hl : l ≠ 0) : nb (rtn u l) (rtd u l) = nq (Rat.divInt u l) := by
  unfold nq
  rw [(rt_q hl).1, (rt_q hl).2]
theorem Sz.divInt {k : Nat} {u l : Int} (hl : l ≠ 0) (h1 : u.natAbs < 2 ^ k) (h2 : l.natAbs < 2 ^ k) : Sz k (Rat.divInt u l) := by
  have n := Nd.rt hl h1 h2
  rw [(rt_q hl).1, (rt_q hl).2] at n
  exact ⟨n.tb, by have := n.bb; omega⟩
theorem Sz.mono {k m : Nat} {q : Rat} (h : Sz k q) (hm : k ≤ m) : Sz m q := ⟨Nat.lt_of_lt_of_le h.1 (Nat.pow_le_pow_right (by decide) hm), Nat.lt_of_lt_of_le h.2 (Nat.pow_le_pow_right (by decide) hm)⟩
theorem Sz.db {k : Nat} {q : Rat} (h : Sz k q) : (q.den : Int).natAbs < 2 ^ k := by have := h.2; omega
theorem Sz.d0 (q : Rat) : (q.den : Int) ≠ 0 := by have := q.den_pos; omega
theorem Sz.int {k : Nat} {i : Int} (h : i.natAbs < 2 ^ k) (hk : 1 ≤ k) : Sz k (i : Rat) := ⟨h, Nat.one_lt_two_pow (by omega)⟩
theorem q_add (p q : Rat) : p + q = Rat.divInt (p.num * q.den + q.num * p.den) (p.den * q.den) := by
  conv => lhs; rw [← Rat.num_divInt_den p, ← Rat.num_divInt_den q]
  exact Rat.divInt_add_divInt _ _ (Sz.d0 p) (Sz.d0 q)
theorem q_sub (p q : Rat) : p - q = Rat.divInt (p.num * q.den - q.num * p.den) (p.den * q.den) := by
  conv => lhs; rw [← Rat.num_divInt_den p, ← Rat.num_divInt_den q]
  exact Rat.divInt_sub_divInt _ _ (Sz.d0 p) (Sz.d0 q)
theorem q_mul (p q : Rat) : p * q = Rat.divInt (p.num * q.num) (p.den * q.den) := by
  conv => lhs; rw [← Rat.num_divInt_den p, ← Rat.num_divInt_den q]
  exact Rat.divInt_mul_divInt _ _
theorem q_div (p q : Rat) : p / q = Rat.divInt (p.num * q.den) (p.den * q.num) := by
  rw [Rat.div_def]
  conv => lhs; rw [← Rat.num_divInt_den p, ← Rat.num_divInt_den q]
  rw [Rat.inv_divInt]
  exact Rat.divInt_mul_divInt _ _
theorem q_num0 {q : Rat} (h : q ≠ 0) : q.num ≠ 0 := fun z => h (Rat.num_eq_zero.mp z)
section
variable {k j : Nat} {p q : Rat}
theorem Sz.dd (p q : Rat) : (p.den : Int) * q.den ≠ 0 := Int.mul_ne_zero (Sz.d0 p) (Sz.d0 q)
theorem Sz.add (h : Sz k p) (h' : Sz j q) : Sz (k + j + 1) (p + q) := by
  rw [q_add]
  exact .divInt (Sz.dd p q) (add_bd (mul_bd h.1 h'.db) (by rw [Nat.add_comm]; exact mul_bd h'.1 h.db)) (bd_mono (mul_bd h.db h'.db) (by omega))
theorem Sz.sub (h : Sz k p) (h' : Sz j q) : Sz (k + j + 1) (p - q) := by
  rw [q_sub]
  exact .divInt (Sz.dd p q) (sub_bd (mul_bd h.1 h'.db) (by rw [Nat.add_comm]; exact mul_bd h'.1 h.db)) (bd_mono (mul_bd h.db h'.db) (by omega))
theorem Sz.mul (h : Sz k p) (h' : Sz j q) : Sz (k + j) (p * q) := by
  rw [q_mul]
  exact .divInt (Sz.dd p q) (mul_bd h.1 h'.1) (mul_bd h.db h'.db)
theorem Sz.div (h : Sz k p) (h' : Sz j q) (h0 : q ≠ 0) : Sz (k + j) (p / q) := by
  rw [q_div]
  exact .divInt (Int.mul_ne_zero (Sz.d0 p) (q_num0 h0)) (mul_bd h.1 h'.db) (mul_bd h.db h'.1)
end
theorem divInt_q (a b : Int) : Rat.divInt a b = (a : Rat) / (b : Rat) := by
  rw [q_div]
  show _ = Rat.divInt (a * 1) (1 * b)
  rw [Int.mul_one, Int.one_mul]
theorem nq_inj {p q : Rat} : (p.num = q.num ∧ (p.den : Int) = q.den) ↔ p = q := ⟨fun h => by
  rw [← Rat.num_divInt_den p, ← Rat.num_divInt_den q, h.1, h.2], fun h => by rw [h]; exact ⟨rfl, rfl⟩⟩
/-- one by a whole number -/
theorem nq_inv {s : Int} (h : 0 < s) : nq (1 / (s : Rat)) = nb 1 s := by
  have e : (1 : Rat) / (s : Rat) = Rat.divInt 1 s := (divInt_q 1 s).symm
  rw [e, ← nb_rt (by omega)]
  have := rt_self (a := 1) (b := s) ⟨h, by rw [Int.one_gcd]⟩
  rw [this.1, this.2]
def nqP (q : Rat) : PyData := nbP q.num q.den
theorem nq_pdata (q : Rat) : pdata (nq q) = some (nqP q) := nb_pdata _ _
theorem nqP_sp (q : Rat) : Sp 1 (nqP q) := nbP_sp _ _
theorem nqP_eqv (p q : Rat) : PyData.eqv (nqP p) (nqP q) = decide (p = q) := by
  unfold nqP
  rw [nbP_eqv]
  exact decide_eq_decide.mpr nq_inj
end DL
namespace DL
open PySem PySem.Spec PyProof.Rows L2
/-! a box of four -/
section
variable {κ : Kap} {Q : DQ} {d x y z w : D} {xs : List D}
theorem f_ic3 {N : Nat} (e : κ N = some (.live .lst (x :: y :: z :: d :: xs))) (h : Q d κ) : fIx (.cell N) (.int 3) κ Q := by rw [ix_cell e, at_3]; exact h
theorem f_ik3 {N : Nat} (h : Q d (kset κ N (.live .lst (x :: y :: z :: d :: xs)))) : fIx (.cell N) (.int 3) (kset κ N (.live .lst (x :: y :: z :: d :: xs))) Q := f_ic3 kset_same h
theorem f_se3 {N : Nat} {P : Kap → Prop} (e : κ N = some (.live .lst (x :: y :: z :: w :: xs))) (h : P (kset κ N (.live .lst (x :: y :: z :: d :: xs)))) : fSet (.cell N) (.int 3) d κ P := by rw [se_3 e]; exact h
end
def By (b m : Nat) (κ : Kap) : Prop := ∃ x y u z : Int, κ b = some (.live .lst [.int x, .int y, .int u, .int z]) ∧ (0 ≤ y ∧ y < 2 ^ 31) ∧ (0 ≤ u ∧ u < 2 ^ 31) ∧ 0 ≤ z ∧ z ≤ (m : Int)
theorem By.mono {b m m' : Nat} {κ : Kap} (h : By b m κ) (hm : m ≤ m') : By b m' κ := let ⟨x, y, u, z, h1, h2, h3, h4, h5⟩ := h; ⟨x, y, u, z, h1, h2, h3, h4, by omega⟩
theorem By.is {b m : Nat} {κ : Kap} (h : By b m κ) : ∃ k xs, κ b = some (.live k xs) := let ⟨_, _, _, _, h1, _⟩ := h; ⟨_, _, h1⟩
theorem By.ne {b m n : Nat} {κ : Kap} (h : By b m κ) (hn : κ n = none) : n ≠ b := fun e => by obtain ⟨_, _, q⟩ := h.is; rw [e] at hn; rw [hn] at q; cases q
theorem By.set {b m n : Nat} {κ : Kap} {c : Cell} (h : By b m κ) (hn : n ≠ b) : By b m (kset κ n c) := let ⟨x, y, u, z, h1, h2⟩ := h; ⟨x, y, u, z, by rw [kset_ne hn.symm]; exact h1, h2⟩
/-! multi-clause steps -/
section
variable {δ : DEnv} {κ : Kap} {X : DX} {Q : DQ} {it : DI} {t : TN} {tt : DT} {vs : List Nat} {rest : DK} {K : Kap → Prop} {a e : DE} {as : DA} {n : Nat} {gd : Kap → Prop} {items : List D} {d : D}
theorem e_lcG {r : Nat → DK} (h : it δ κ X fun items gd κ1 => ∀ n, κ1 n = none → cLoop t tt vs (r n) gd δ (fun κ' => ∃ acc, κ' n = some (.live .lst acc) ∧ Q (.node .lst acc) (kset κ' n .dead)) items (kset κ1 n (.live .lst []))) : dLcG false it t tt r vs δ κ X Q := h
theorem k_for (h : it δ κ XF fun items gd κ1 => cLoop t tt vs rest gd δ K items κ1) : cFor it t tt vs rest δ κ K := h
theorem k_elt (h : e δ κ XF fun y κ3 => ∃ acc, κ3 n = some (.live .lst acc) ∧ acc.length < sizeLine ∧ K (kset κ3 n (.live .lst (acc ++ [y])))) : cElt n e δ κ K := h
theorem i_en {QI : List D → (Kap → Prop) → Kap → Prop} (h : as δ κ X (eQ QI)) : iEnumD as δ κ X QI := h
theorem en_N {QI : List D → (Kap → Prop) → Kap → Prop} {ys : List D} (h : QI (enumD 0 ys) gTrue κ) : eQ QI [.node .lst ys] κ := h
theorem e_tupOf (h : a δ κ X fun x κ1 => fTup x κ1 Q) : dTupOf a δ κ X Q := h
theorem tp_L {ys : List D} (h : Q (.node .tup ys) κ) : fTup (.node .lst ys) κ Q := .inl ⟨ys, rfl, h⟩
theorem tp_T {ys : List D} (h : Q (.node .tup ys) κ) : fTup (.node .tup ys) κ Q := .inr ⟨ys, rfl, h⟩
theorem e_rev {m : Bool} (h : a δ κ X fun x κ1 => fRev m x κ1 Q) : dRev m a δ κ X Q := h
theorem rv_N {ys : List D} (h : Q (.node .lst ys.reverse) κ) : fRev false (.node .lst ys) κ Q := ⟨ys, rfl, h⟩
theorem sl_N {m : Bool} {ys : List D} {lo hi : Option Int} (h : fNew m .lst (cutD ys lo hi) κ Q) : fSl m (.node .lst ys) lo hi κ Q := h
theorem s_aug {i : Nat} {f : D2} {x : D} {nx : DEnv → Kap → Prop} {rt : DQ} {bk ct : DEnv → Kap → Prop} (e0 : δ[i]? = some (some x)) (h : a δ κ X fun y κ1 => f x y κ1 fun z κ2 => nx (δ.set i (some z)) κ2) : sAug i f a δ κ X ⟨nx, rt, bk, ct⟩ := ⟨x, e0, h⟩
theorem f_adII {i j : Int} (h : Q (.int (i + j)) κ) : fAddI (.int i) (.int j) κ Q := ⟨i, j, rfl, rfl, h⟩
end
end DL
namespace DL
open PySem PySem.Spec PyProof.Rows L2
/-! what can be walked -/
def Fa (κ κ' : Kap) : Prop := ∀ n c, κ n = some c → κ' n = some c
theorem Fa.refl {κ : Kap} : Fa κ κ := fun _ _ h => h
theorem Fa.trans {κ κ1 κ2 : Kap} (h : Fa κ κ1) (g : Fa κ1 κ2) : Fa κ κ2 := fun n c e => g n c (h n c e)
inductive Wk (κ : Kap) : D → List D → Prop
  | lst {xs : List D} : Wk κ (.node .lst xs) xs
  | tup {xs : List D} : Wk κ (.node .tup xs) xs
  | cell {n : Nat} {xs : List D} (h : κ n = some (.live .lst xs)) : Wk κ (.cell n) xs
theorem Wk.mono {κ κ' : Kap} {d : D} {xs : List D} (h : Wk κ d xs) (f : Fa κ κ') : Wk κ' d xs := by
  cases h with
  | lst => exact .lst
  | tup => exact .tup
  | cell e => exact .cell (f _ _ e)
end DL
namespace DL
open PySem PySem.Spec PyProof.Rows L2
end DL
namespace DL
open PySem PySem.Spec PyProof.Rows L2
end DL
namespace DL
open PySem PySem.Spec PyProof.Rows L2
end DL
namespace DL
open PySem PySem.Spec PyProof.Rows L2
/-! areas of rounds -/
end DL
namespace DL
open PySem PySem.Spec PyProof.Rows L2
/-! signs -/
end DL
/-! DOd: sorted(d.items()) of a dict whose keys are unlike ints. -/
namespace SI
open PySem PySem.Spec PyProof.Rows SrtO
/-- a pair: an int, and whatever -/
def PairK (h : Heap) (v : Value) (i : Int) : Prop := ∃ (a : Addr) (o : Obj) (t : Tok) (b : Value) (n : Nat), v = .ref a ∧ h.get? a = some o ∧ o.cls = .type "tuple" ∧ o.data = .seq #[.int i t, b] n
theorem PairK.keeps {h h' : Heap} {v : Value} {i : Int} (p : PairK h v i) (k : ∀ b o, h.get? b = some o → o.cls = .type "tuple" → h'.get? b = some o) : PairK h' v i := by
  obtain ⟨a, o, t, b, n, e, ho, hc, hd⟩ := p
  exact ⟨a, o, t, b, n, e, k a o ho hc, hc, hd⟩
end SI
/-! DOe: sorted(d.items()) of a dict whose keys are unlike ints, at the hand level. -/
/-! DOf: sorted(d.items()) over data. -/
namespace DL
open PySem PySem.Spec PyProof.Rows L2
end DL
/-! DOg: sorted of a list of pairs of ints, whatever the tuples are. -/
namespace DL
open PySem PySem.Spec PyProof.Rows L2
end DL
/-! DOh: sum(lists, start=a list). -/
namespace DL
open PySem PySem.Spec PyProof.Rows L2
/-! ### a built-in called with keywords -/
end DL
/-! DOi: range(a, b) of whole numbers of any size. -/
namespace DL
open PySem PySem.Spec PyProof.Rows L2
end DL
/-! DOj: a list many times. -/
namespace DL
open PySem PySem.Spec PyProof.Rows L2
end DL
/-! DOk: t >= u of tuples of ints. -/
namespace DL
open PySem PySem.Spec PyProof.Rows L2
end DL
/-! DCa: lambdas with parameters and captured names: what they promise (FnLam), by their body (lam_ok). -/
namespace DL
open PySem PySem.Spec PyProof.Rows L2 LamX NdefX
/-- a lambda's words -/
structure LW where
  qual : Str
  params : Arguments
  body : Expr
  scope : Scope
abbrev LW.nf (L : LW) (cl : List (Str × Addr)) (c' : Addr) : NF := ⟨"<lambda>", L.qual, L.params, [], L.scope, cl, c'⟩
/-- at a: the lambda, made; its cells hold ws -/
structure CloAt (h : Heap) (H : Hp) (L : LW) (a c' : Addr) (cl : List (Str × Addr)) (fr : List Str) (ws : List V) : Prop where
  fn : ∃ pm ctv, h.get? a = some (PySem.W.kla_obj "<lambda>" L.qual L.params L.body L.scope cl pm c' ctv)
  na : H a = none
  ce : CellsAt cl fr (ws.map some) h H
/-- what it promises -/
structure FnLam (P : Program) (w : World) (K : PySem.W.Frag) (mg : Str → Option Value) (base : Heap) (k : Nat) (L : LW) (ps fr : List Str) (sp : DSp) : Prop where
  len : ∀ ds κ XD Q, sp ds κ XD Q → ds.length = ps.length + fr.length
  run : ∀ (A : Around) (outer : List Env) (s : Shared) (H : Hp) (a c' : Addr) (cl : List (Str × Addr)) (us : List Value) (vs ws : List V) (ds cs : List D) (F : Hp) (ρ : Loc0) (κ : Kap) (XD : Str → List D → Kap → Prop) (QD : DQ) (Q : VK) (E : XK), Room k A → A.guards = some [] →
    Env0 P w K mg base A outer s H → CloAt s.heap H L a c' cl fr ws → H c' = some (CodeO c' L.qual) → us.length = ps.length → Vals vs us → StR ⟨K, mg⟩ F ρ κ H → RepL ⟨K, mg⟩ F ρ ds vs → RepL ⟨K, mg⟩ F ρ cs ws → sp (ds ++ cs) κ XD QD → Post ⟨K, mg⟩ F ρ QD Q → PostXE ⟨K, mg⟩ F ρ XD E →
    codeAny (model P w) A (.call (.ref a) ⟨us, []⟩) (CR (L2N.CX P w) outer P w H s Q E) s
theorem FnLam.mono {P : Program} {w : World} {K : PySem.W.Frag} {mg : Str → Option Value} {base : Heap} {j k : Nat} {L : LW} {ps fr : List Str} {sp : DSp} (F : FnLam P w K mg base j L ps fr sp) (h : j ≤ k) : FnLam P w K mg base k L ps fr sp :=
  ⟨F.len, fun A outer s H a c' cl us vs ws ds cs F0 ρ κ XD QD Q E hr => F.run A outer s H a c' cl us vs ws ds cs F0 ρ κ XD QD Q E (hr.mono h)⟩
abbrev lcx (P : Program) (w : World) (K : PySem.W.Frag) (mg : Str → Option Value) (base : Heap) (N : List Str) (L : LW) (cl : List (Str × Addr)) (c' a : Addr) (A : Around) (outer : List Env) (s : Shared) (H : Hp) (E : XK) : Cx :=
  ncx (L2N.CX P w) P w K mg base N (L.nf cl c') a A outer s H E
/-- its promise, by its body -/
def spLam (n m : Nat) (b : DE) : DSp := fun ds κ XD Q => ds.length = m ∧ b (startD n ds) κ (fun _ c fs κ' => XD c fs κ') Q
theorem startF_eq {N : List Str} {vs ws : List V} : startF N vs (ws.map some) = L2.start N (vs ++ ws) := by
  unfold startF L2.start
  rw [List.map_append, List.append_assoc, List.length_append, List.length_map, Nat.sub_sub]
section
variable {P : Program} {w : World} {K : PySem.W.Frag} {mg : Str → Option Value} {base : Heap} {N ps fr : List Str} {L : LW} {k : Nat} {b : DE}
theorem lam_ok (S : NScope N ps fr L.scope) (sm : ∃ o, base.get? sysModules = some o) (hb : ∀ (cl : List (Str × Addr)) (c' : Addr) (pm ctv : Value) (us : List Value), us.length = ps.length → bindArgs (PySem.W.kla_fn "<lambda>" L.qual L.params L.body L.scope cl pm (.ref c') ctv) ⟨us, []⟩ = pure (ps.zip us))
    (hbody : ∀ (cl : List (Str × Addr)) (c' a : Addr) (A : Around) (outer : List Env) (s : Shared) (H : Hp) (E : XK), Good k (lcx P w K mg base N L cl c' a A outer s H E) (wxE E) → PED (lcx P w K mg base N L cl c' a A outer s H E) (wxE E) L.body b) :
    FnLam P w K mg base (k + 1) L ps fr (spLam N.length (ps.length + fr.length) b) := by
  refine ⟨fun ds κ XD Q h => h.1, fun A outer s H a c' cl us vs ws ds cs F0 ρ κ XD QD Q E hr hg e0 C hc hl r S0 R1 R2 hsp PQ PE => ?_⟩
  obtain ⟨pm, ctv, ho⟩ := C.fn
  have lim : s.heap.NoLimit := e0.mod.nolimit.keeps fun b o e => (e0.bs b o e).1
  refine PySem.W.kla_callFunE hr.depth ho rfl S.co S.gen rfl (codeO_at e0.hok hc) ?_
  rw [hb cl c' pm ctv us hl]
  refine wpAny_pure (wpAny_newFunctionEnv S.nocell (fun ⟨n, _⟩ hy => S.par n (List.of_mem_zip hy).1) (fun h₁ hns hsb => ⟨lim.fresh _ hsb, ?_⟩) S.kind)
  show codeAny _ _ (.expr L.body (envF (L.nf cl c') a s.heap.objs.size)) _ _
  have kp : ∀ b o, s.heap.get? b = some o → h₁.get? b = some o := fun b o e => hsb.extBut b o (Nat.ne_of_lt (Heap.lt_size e)) (Heap.get?_push_of_some _ e)
  have I : L2.Inv (lcx P w K mg base N L cl c' a A outer s H E) [] (startF N vs (ws.map some)) H { s with heap := h₁, toks := s.toks + (ps.zip us).length } := inv_startN (F := L.nf cl c') S hr.hd e0 (by rw [r.length, hl]) r C.ce hns kp
  rw [startF_eq] at I
  have g : Good k (lcx P w K mg base N L cl c' a A outer s H E) (wxE E) := ⟨L2N.takes_of rfl rfl rfl rfl, passes_of rfl, hr.deeper _, hg, sm, rfl, S.nd⟩
  refine PySem.W.kla_codeExpr (wpAny_mono ((hbody cl c' a A outer s H E g).run [] _ (L2.start N (vs ++ ws)) H Q I
    ⟨F0, ρ, κ, startD N.length (ds ++ cs), _, _, S0, repS_start (R1.append R2), hsp.2, PQ, fun F' ρ' κ' H' δ σ c fs cls dd e S R rx q => PE _ _ _ _ _ _ _ _ e S rx q⟩) (fun v s' hq => ?_) fun e s' hq => hq)
  obtain ⟨w', H', J', rv, q⟩ := hq
  exact ⟨w', H', J'.os, J'.bare, J'.base, J'.hok, rv, q⟩
end
end DL
/-! DCb: a lambda made and handed to a def; the def that gets it, and calls it. -/
namespace DL
open PySem PySem.Spec PyProof.Rows L2 LamX NdefX
/-! ### made -/
theorem codeHdIn_one {K : PySem.W.Frag} {c P P' : Addr} (h : PySem.W.codeHdIn K c P = true) (h' : PySem.W.codeHdIn K c P' = true) : P = P' := by
  unfold PySem.W.codeHdIn at h h'
  split at h
  · rename_i vs _ hk
    rw [hk] at h'
    simp only [Bool.and_eq_true] at h h'
    obtain ⟨⟨⟨⟨⟨e1, _⟩, _⟩, _⟩, _⟩, _⟩ := h
    obtain ⟨⟨⟨⟨⟨e2, _⟩, _⟩, _⟩, _⟩, _⟩ := h'
    split at e1
    · rename_i Q q
      rw [q] at e2
      rw [← eq_of_beq e1, eq_of_beq e2]
    · cases e1
  · cases h
theorem TabIs.one {C : Ctx} {x : Str} {P P' : Addr} (h : TabIs C x P) (h' : TabIs C x P') : P = P' := by
  obtain ⟨f, c, oc, od, fd, sl, h1, h2, h3, h4⟩ := h
  obtain ⟨f', c', oc', od', fd', sl', h1', h2', h3', h4'⟩ := h'
  rw [h1] at h1'
  cases h1'
  rw [h2] at h2'
  cases h2'
  rw [h3] at h3'
  cases h3'
  exact codeHdIn_one h4 h4'
section
variable {X : Cx} {pins : List (Addr × Obj)} {σ : L2.St} {H : Hp} {s : Shared} {x : Str} {c P : Addr} {vs : List V} {params : Arguments} {body : Expr} {scope : Scope} {pos : Pos} {E : Value → Shared → Prop} {Q : Value → Shared → Prop}
/-- a lambda is made: its code object is new and joins the table, or was found there -/
theorem lam_make3 (I : L2.Inv X pins σ H s) (TB : TabB X.base X.mg c P) (hcode : X.env.code = .ref c) (hdef : defaultsOf params X.env = ([], [])) (hfree : ∀ y ∈ scope.names, y.2 = .free → ∃ c, X.env.cells.lookup y.1 = some c) (hT : TabH (CtxOf X) H x P vs)
    (h : ∀ (f c' : Addr) (pm ctv : Value) (H1 : Hp) (s' : Shared), L2.Inv X pins σ H1 s' → s'.heap.get? f = some (PySem.W.kla_obj "<lambda>" (X.env.qual ++ "<lambda>") params body scope (cloFrom X.env.cells scope.names []) pm c' ctv) → H1 f = none → f ∉ frs X.stack → s.heap.objs.size ≤ f →
      ((H1 = H ∧ V.ref c' ∈ vs) ∨ (H c' = none ∧ ∃ o, H1 = upd (upd H c' (CodeO c' (X.env.qual ++ "<lambda>"))) P o ∧ ∀ H2 : Hp, H2 P = some o → TabH (CtxOf X) H2 x P (vs ++ [.ref c']))) → Q (.ref f) s') :
    wpAny (model X.prog X.w) X.A (eval (.Lambda params body scope pos) X.env) Q E s := by
  obtain ⟨hx, ps, hP, ht, ha⟩ := hT
  refine PySem.W.kla_eval hdef ?_
  have bP : s.heap.BuiltinsAt X.mg P := TB.bm.keeps I.bk
  have hP' : s.heap.get? P = some { cls := .none, data := .fields ps } := I.hok P _ hP
  have nofr : ∀ f, s.heap.objs.size ≤ f → f ∉ frs X.stack := fun f hf z => by
    rcases List.mem_cons.mp (I.stkSub _ z) with e | e
    · have h1 := I.lt
      rw [← e] at h1
      exact Nat.lt_irrefl _ (Nat.lt_of_lt_of_le h1 hf)
    · exact I.nofs hf e
  cases hc : codeAmong pos ps.toList with
  | none =>
    refine PySem.W.kla_makeFunction (mg := X.mg) (c := c) (P := P) (ps := ps) (closure_ok hfree) I.ok.glob (I.mod.glob.keeps I.bk) hcode (TB.code.keeps I.bk) hP' ht hc TB.gP bP fun c' ctv h' tk hex hge hlt hrec htb => ?_
    obtain ⟨c2, oc, us, t, e2, hoc, hd, hv⟩ := hrec
    cases e2
    have hsz : s.heap.objs.size ≤ h'.objs.size := Nat.le_trans hge (Nat.le_of_lt hlt)
    have nC : H c' = none := I.hok.fresh hge
    have nP : c' ≠ P := fun z => by rw [z, hP] at nC; cases nC
    have I1 := inv_table (t' := tk) (q := X.env.qual ++ "<lambda>") (more := #[rawInt pos.line, rawInt pos.col, .ref c']) (h' := h'.push (PySem.W.kla_obj "<lambda>" (X.env.qual ++ "<lambda>") params body scope (cloFrom X.env.cells scope.names []) ((X.mg "__name__").getD .none) c' ctv)) I hP
      (fun b o hb e => Heap.get?_push_of_some _ (hex b o hb e)) (Heap.get?_push_of_some _ htb) hge ⟨oc, us, t, Heap.get?_push_of_some _ hoc, hd, hv⟩
    have eH : upd (upd H P (.tbl (ps ++ #[rawInt pos.line, rawInt pos.col, .ref c']))) c' (CodeO c' (X.env.qual ++ "<lambda>")) = upd (upd H c' (CodeO c' (X.env.qual ++ "<lambda>"))) P (.tbl (ps ++ #[rawInt pos.line, rawInt pos.col, .ref c'])) := by
      funext b
      by_cases e1 : b = c' <;> by_cases e2 : b = P <;> simp [upd, e1, e2, nP, Ne.symm nP]
    rw [eH] at I1
    have eL : (ps ++ #[rawInt pos.line, rawInt pos.col, .ref c']).toList = ps.toList ++ [rawInt pos.line, rawInt pos.col, .ref c'] := by simp
    refine h h'.objs.size c' _ ctv _ _ I1 (Heap.get?_push_size _ rfl) ?_ (nofr _ hsz) hsz (.inr ⟨nC, _, rfl, fun H2 e => ⟨hx, _, e, by rw [eL]; exact PySem.TriplesOk_snoc _ _ _ _ ht, fun p' cv hcv => ?_⟩⟩)
    · have n1 : h'.objs.size ≠ c' := Nat.ne_of_gt hlt
      have n2 : h'.objs.size ≠ P := Nat.ne_of_gt (Nat.lt_of_lt_of_le (Heap.lt_size hP') hsz)
      rw [upd_ne n2, upd_ne n1]
      exact I.hok.fresh hsz
    · rw [eL] at hcv
      rcases among_app _ ht hcv with z | z
      · obtain ⟨c0, e1, e2⟩ := ha p' cv z
        exact ⟨c0, e1, List.mem_append_left _ e2⟩
      · exact ⟨c', z, List.mem_append_right _ (List.mem_singleton.mpr rfl)⟩
  | some cv =>
    obtain ⟨c', e, hco⟩ := ha pos cv hc
    subst e
    refine PySem.W.kla_makeFunctionHit (mg := X.mg) (c := c) (P := P) (ps := ps) (closure_ok hfree) I.ok.glob (I.mod.glob.keeps I.bk) hcode (TB.code.keeps I.bk) hP' ht hc bP fun ctv h' tk hx hsz => ?_
    have I1 : L2.Inv X pins σ H { s with heap := h'.push (PySem.W.kla_obj "<lambda>" (X.env.qual ++ "<lambda>") params body scope (cloFrom X.env.cells scope.names []) ((X.mg "__name__").getD .none) c' ctv), toks := tk } := I.kept fun b o e => Heap.get?_push_of_some _ (hx b o e)
    exact h h'.objs.size c' ((X.mg "__name__").getD .none) ctv H _ I1 (Heap.get?_push_size _ rfl) (I.hok.fresh hsz) (nofr _ hsz) hsz (.inl ⟨rfl, hco⟩)
end
end DL
/-! DCc: the def that gets a lambda (FnGc), the call that hands it, the call of it. -/
namespace DL
open PySem PySem.Spec PyProof.Rows L2 LamX NdefX
/-- the code object of x's lambdas -/
abbrev codD (x : Str) : D := .node (.cod (lamQ x)) []
/-- a def that gets a lambda keeps a promise over data -/
structure FnGc (P : Program) (w : World) (K : PySem.W.Frag) (mg : Str → Option Value) (base : Heap) (k : Nat) (f : Addr) (fd : FuncData) (ps : List Str) (L : LW) (fr : List Str) (sp : Addr → List V → DSp) : Prop where
  len : ∀ a ws ds κ XD Q, sp a ws ds κ XD Q → ds.length = ps.length
  run : ∀ (A : Around) (outer : List Env) (s : Shared) (H : Hp) (args : Args) (us : List Value) (vs : List V) (ds : List D) (F : Hp) (ρ : Loc0) (κ : Kap) (XD : Str → List D → Kap → Prop) (QD : DQ) (Q : VK) (E : XK) (a c' : Addr) (cl : List (Str × Addr)) (ws : List V),
    CloAt s.heap H L a c' cl fr ws → a ∉ frs outer → (∀ y c, cl.lookup y = some c → c ∉ frs outer) → Room k A → A.guards = some [] →
    Env0 P w K mg base A outer s H → BindsTo s fd args (ps.zip us) → Vals vs us → StR ⟨K, mg⟩ F ρ κ H → RepL ⟨K, mg⟩ F ρ ds vs → sp a (V.ref c' :: ws) ds κ XD QD → Post ⟨K, mg⟩ F ρ QD Q → PostXE ⟨K, mg⟩ F ρ XD E →
    codeAny (model P w) A (.call (.ref f) args) (CR (L2N.CX P w) outer P w H s Q E) s
theorem FnGc.mono {P : Program} {w : World} {K : PySem.W.Frag} {mg : Str → Option Value} {base : Heap} {j k : Nat} {f : Addr} {fd : FuncData} {ps : List Str} {L : LW} {fr : List Str} {sp : Addr → List V → DSp} (F : FnGc P w K mg base j f fd ps L fr sp) (h : j ≤ k) : FnGc P w K mg base k f fd ps L fr sp :=
  ⟨F.len, fun A outer s H args us vs ds F0 ρ κ XD QD Q E a c' cl ws h1 h2 h3 hr => F.run A outer s H args us vs ds F0 ρ κ XD QD Q E a c' cl ws h1 h2 h3 (hr.mono h)⟩
/-! ### the call of it -/
end DL
/-! DCd: a def called with a lambda that is written there. -/
namespace DL
open PySem PySem.Spec PyProof.Rows L2 LamX NdefX
section
variable {C : Ctx} {F : Hp} {ρ : Loc0} {δ : DEnv} {σ : L2.St}
theorem slots_rep (R : RepS C F ρ δ σ) : ∀ {js : List Nat} {cs : List D}, js.map (fun j => δ[j]?) = cs.map (fun c => some (some c)) → ∃ ws : List V, js.map (slotAt σ) = ws.map some ∧ RepL C F ρ cs ws
  | [], [], _ => ⟨[], rfl, .nil⟩
  | [], _ :: _, h => by cases h
  | _ :: _, [], h => by cases h
  | j :: js, c :: cs, h => by
    rw [List.map_cons, List.map_cons] at h
    injection h with h1 h2
    obtain ⟨ws, g1, g2⟩ := slots_rep R h2
    obtain ⟨v, h3, h4⟩ := R.2 j c h1
    exact ⟨v :: ws, by rw [List.map_cons, List.map_cons, g1, slotAt_of h3], .cons h4 g2⟩
theorem rep_mem {d : D} : ∀ {m : Nat} {vs : List V} {v : V}, RepL C F ρ (List.replicate m d) vs → v ∈ vs → Rep C F ρ d v
  | 0, _, _, .nil, h => nomatch h
  | m + 1, _, _, r, h => by
    rw [List.replicate_succ] at r
    cases r with
    | cons r1 r2 =>
      rcases List.mem_cons.mp h with e | e
      · rw [e]; exact r1
      · exact rep_mem r2 e
end
end DL
/-! DCe: the law's end where tables of code objects grow. -/
namespace DL
open PySem PySem.Spec PyProof.Rows L2 LamX NdefX
/-- the def x has its code object at c, the table of that at P -/
structure TabD (K : PySem.W.Frag) (mg : Str → Option Value) (x : Str) (c P : Addr) : Prop where
  ex : ∃ (f : Addr) (oc : Value) (od : Option Addr) (fd : FuncData) (sl : Array (Option Value)), mg x = some (.ref f) ∧ K.lookup f = some ⟨oc, od, .func fd, sl⟩ ∧ fd.code = .ref c
  hd : PySem.W.codeHdIn K c P = true
  no : K.lookup P = none
theorem TabD.is {K : PySem.W.Frag} {mg : Str → Option Value} {x : Str} {c P : Addr} (T : TabD K mg x c P) : TabIs ⟨K, mg⟩ x P := by
  obtain ⟨f, oc, od, fd, sl, h1, h2, h3⟩ := T.ex
  exact ⟨f, c, oc, od, fd, sl, h1, h2, h3, T.hd⟩
/-- ahead of the law: all tables empty -/
def tabK (xs : List Str) : Kap := fun i => (xs[i]?).map fun x => .live (.tbk x) []
abbrev Tabs := List (Str × Addr × Addr)
theorem law_endT {P : Program} {w : World} {K : PySem.W.Frag} {mg mb : Str → Option Value} {k : Nat} {fa a : Addr} {fd : FuncData} {x : Str} {sp : DSp} {s1 : Shared} {vs : List Value} {ns : List Int} {ts : Tabs}
    (KX : K.In s1.heap) (hns : s1.heap.Ns mainGlobals mg) (hb : s1.heap.Ns builtinsNs mb) (hbb : ∀ x : Str, x ≠ "__name__" → mb x = bootBuiltins x) (hlim : s1.heap.NoLimit) (hsm : ∃ mm, s1.heap.Ns sysModules mm) (hg : s1.gens = #[])
    (hbm : ∃ (bm : Addr) (ob : Obj), mg "__builtins__" = some (.ref bm) ∧ bm ≠ builtinsNs ∧ s1.heap.get? bm = some ob ∧ ob.cls = .type "module" ∧ ob.dict = some builtinsNs ∧ ob.data = .plain)
    (hT : ∀ p ∈ ts, TabD K mg p.1 p.2.1 p.2.2) (h0 : ∀ p ∈ ts, s1.heap.get? p.2.2 = some { cls := .none, data := .fields #[] }) (nd : (ts.map (·.2.2)).Nodup)
    (ha : s1.heap.get? a = some { cls := .type "list", data := .seq vs.toArray }) (hi : IntsAre vs ns) (hl : ns.length ≤ sizeLine) (hr : Room k callerA)
    (F : ∀ base : Heap, K.In base → base.Ns mainGlobals mg → (∃ o, base.get? sysModules = some o) → (∀ p ∈ ts, TabB base mg p.2.1 p.2.2) → FnG P w K mg base k fa fd [x] sp) (hbind : ∀ (s : Shared) (u : Value), BindsTo s fd ⟨[u], []⟩ [(x, u)])
    (hsp : sp [.node .klst (ns.map D.int)] (tabK (ts.map (·.1))) (fun _ _ _ => False) (fun d _ => d = .bl true)) :
    codeAny (model P w) callerA (.call (.ref fa) ⟨[.ref a], []⟩) (fun r s' => r = .ok (.ret (.bool true)) ∧ OldK s1.heap s'.heap ∧ s'.os = s1.os ∧ AllBare s'.gens) s1 := by
  have rv := vals_ints hi
  have lenV := hi.length
  have isT : ∀ b : Addr, b ∈ ts.map (·.2.2) → s1.heap.get? b = some { cls := .none, data := .fields #[] } := fun b z => by
    obtain ⟨p, hp, e⟩ := List.mem_map.mp z
    rw [← e]
    exact h0 p hp
  have noT : ∀ b : Addr, b ∈ ts.map (·.2.2) → K.lookup b = none := fun b z => by
    obtain ⟨p, hp, e⟩ := List.mem_map.mp z
    rw [← e]
    exact (hT p hp).no
  have aT : a ∉ ts.map (·.2.2) := fun z => by
    have q := isT a z
    rw [ha] at q
    have q' : Data.seq vs.toArray _ = Data.fields #[] := congrArg Obj.data (Option.some.inj q)
    cases q'
  have go : ∀ F0 : Hp, (∀ b u, F0 b = some u → b = a ∧ u = .frz { cls := .type "list", data := .seq vs.toArray } (.lst (ns.map V.int))) → SqL K F0 a (ns.map V.int) → (∀ u, F0 a = some u → K.lookup a = none) →
      codeAny (model P w) callerA (.call (.ref fa) ⟨[.ref a], []⟩) (fun r s' => r = .ok (.ret (.bool true)) ∧ OldK s1.heap s'.heap ∧ s'.os = s1.os ∧ AllBare s'.gens) s1 := by
    intro F0 hF hS hK
    obtain ⟨H, hH⟩ : ∃ H : Hp, H = fun b => if b ∈ ts.map (·.2.2) then some (.tbl #[]) else F0 b := ⟨_, rfl⟩
    have HT : ∀ b, b ∈ ts.map (·.2.2) → H b = some (.tbl #[]) := fun b z => by rw [hH]; exact if_pos z
    have HN : ∀ b, b ∉ ts.map (·.2.2) → H b = F0 b := fun b z => by rw [hH]; exact if_neg z
    have sub : ∀ b u, F0 b = some u → H b = some u := fun b u e => by
      rw [HN b (by rw [(hF b u e).1]; exact aT)]
      exact e
    have hok : HOk P w H s1.heap := fun b u e => by
      by_cases z : b ∈ ts.map (·.2.2)
      · rw [HT b z] at e
        cases e
        exact isT b z
      · rw [HN b z] at e
        obtain ⟨rfl, rfl⟩ := hF b u e
        exact ⟨ha, by rw [List.length_map]; exact hl, vs, _, rv, ha⟩
    have free : ∀ {b : Addr} {o : Obj}, s1.heap.get? b = some o → (∀ xs n, o.data ≠ .seq xs n) → o.data ≠ .fields #[] → H b = none := fun {b o} e d1 d2 => by
      by_cases z : b ∈ ts.map (·.2.2)
      · rw [isT b z] at e
        cases e
        exact absurd rfl d2
      · rw [HN b z]
        cases q : F0 b with
        | none => rfl
        | some u =>
          obtain ⟨rfl, _⟩ := hF b u q
          rw [ha] at e
          cases e
          exact absurd rfl (d1 _ _)
    have freeD : ∀ {b : Addr} {o : Obj} {es : Array DictEntry} {ep : Nat}, s1.heap.get? b = some o → o.data = .dict es ep → H b = none := fun {b o es ep} e d =>
      free e (fun xs n z => by rw [d] at z; cases z) (fun z => by rw [d] at z; cases z)
    have nsK : ∀ {b : Addr} {m : Str → Option Value}, s1.heap.Ns b m → (hidT s1.heap H).Ns b m := fun {b m} ⟨o, es, ep, e, d, r⟩ => ⟨o, es, ep, hidT_get e (freeD e d), d, r⟩
    have kin : K.In (hidT s1.heap H) := fun b o e => hidT_get (KX b o e) (by
      by_cases z : b ∈ ts.map (·.2.2)
      · rw [noT b z] at e
        cases e
      · rw [HN b z]
        cases q : F0 b with
        | none => rfl
        | some u =>
          obtain ⟨rfl, _⟩ := hF b u q
          rw [hK u q] at e
          cases e)
    have hM : Mod K mg (hidT s1.heap H) := ⟨kin, nsK hns, ⟨mb, nsK hb, hbb⟩, let ⟨mc, h1, h2⟩ := hlim; ⟨mc, nsK h1, h2⟩⟩
    have nG : ∀ {b : Addr} {o : Obj}, s1.heap.get? b = some o → (∀ es ep, o.data ≠ .dict es ep) → b ≠ mainGlobals := fun {b o} e d z => by
      obtain ⟨og, es, ep, eg, hd, _⟩ := hns
      rw [z, eg] at e
      cases e
      exact d _ _ hd
    have TB : ∀ p ∈ ts, TabB (hidT s1.heap H) mg p.2.1 p.2.2 := fun p hp => by
      refine ⟨PySem.W.codeHd_of_K kin (hT p hp).hd, ?_, fun z => nG (h0 p hp) (fun _ _ q => by cases q) z.symm⟩
      obtain ⟨bm, ob, b1, b2, b3, b4, b5, b6⟩ := hbm
      have nP : bm ≠ p.2.2 := fun q => by
        rw [q, h0 p hp] at b3
        cases b3
        cases b6
      exact ⟨bm, ob, b1, b2, nG b3 (fun _ _ q => by rw [b6] at q; cases q), nP, hidT_get b3 (free b3 (fun _ _ q => by rw [b6] at q; cases q) (fun q => by rw [b6] at q; cases q)), b4, b5, b6⟩
    have e0 : Env0 P w K mg (hidT s1.heap H) callerA [] s1 H := ⟨rfl, hM, fun b o e => of_hidT e, Nat.le_of_eq (hidT_size _ _), trivial, fun b hb => (nomatch hb), hok, .of_eq hg⟩
    have sm : ∃ o, (hidT s1.heap H).get? sysModules = some o := by
      obtain ⟨mm, h⟩ := hsm
      obtain ⟨o, _, _, e, _⟩ := nsK h
      exact ⟨o, e⟩
    have kat : ∀ {n k xs}, tabK (ts.map (·.1)) n = some (.live k xs) → ∃ p, ts[n]? = some p ∧ k = .tbk p.1 ∧ xs = [] := fun {n k xs} e => by
      unfold tabK at e
      rw [List.getElem?_map] at e
      cases q : ts[n]? with
      | none => rw [q] at e; cases e
      | some p => rw [q] at e; cases e; exact ⟨p, rfl, rfl, rfl⟩
    have st : StR ⟨K, mg⟩ F0 (fun i => (ts[i]?).map (·.2.2)) (tabK (ts.map (·.1))) H := by
      refine ⟨sub, fun n k xs e => ?_, fun n m b k xs k' xs' e e' r r' => ?_, fun n e => ?_, ⟨ts.length, fun n hn => ?_⟩⟩
      · obtain ⟨p, q, rfl, rfl⟩ := kat e
        have hp : p ∈ ts := List.mem_of_getElem? q
        have hp2 : p.2.2 ∈ ts.map (·.2.2) := List.mem_map.mpr ⟨p, hp, rfl⟩
        refine ⟨p.2.2, [], by rw [q]; rfl, ?_, ⟨(hT p hp).is, #[], HT _ hp2, trivial, fun pos cv h => (nomatch h)⟩, .nil⟩
        cases z : F0 p.2.2 with
        | none => rfl
        | some u => exact absurd hp2 (by rw [(hF _ _ z).1]; exact aT)
      · obtain ⟨p, q, _, _⟩ := kat e
        obtain ⟨p', q', _, _⟩ := kat e'
        rw [q] at r
        rw [q'] at r'
        have e1 : p.2.2 = p'.2.2 := (Option.some.inj r).trans (Option.some.inj r').symm
        have hn : n < ts.length := (List.getElem?_eq_some_iff.mp q).1
        exact (List.getElem?_inj (l := ts.map (·.2.2)) (by rw [List.length_map]; exact hn) nd).mp (by rw [List.getElem?_map, List.getElem?_map, q, q']; exact congrArg some e1)
      · unfold tabK at e
        rw [List.getElem?_map] at e
        cases q : ts[n]? with
        | none => rfl
        | some p => rw [q] at e; cases e
      · unfold tabK
        rw [List.getElem?_map, List.getElem?_eq_none hn]
        rfl
    refine codeAny_mono ((F _ kin (nsK hns) sm TB).run callerA [] s1 H ⟨[.ref a], []⟩ [.ref a] [.ref a] _ F0 _ _ _ _ (fun v _ => v = .bl true) (fun _ _ _ => False) hr rfl e0 (hbind s1 (.ref a)) (.cons rfl .nil) st (repL_script hS) hsp
      (fun F' ρ' κ' H' d v e S r q => by subst q; cases r; rfl) (fun _ _ _ _ _ _ _ _ _ _ _ q => q.elim)) fun r s' h => ?_
    cases r with
    | error e =>
      obtain ⟨_, _, _, _, _, _, _, _, _, _, _, _, z⟩ := h
      exact z.elim
    | ok fl =>
      cases fl with
      | next => exact h.elim
      | brk => exact h.elim
      | cont => exact h.elim
      | ret u =>
        obtain ⟨v, H', os, bare, un, hok', r', q⟩ := h
        have q' : v = .bl true := q
        subst q'
        obtain rfl : u = Value.bool true := r'
        have grown : ∀ b, b ∈ ts.map (·.2.2) → ∃ more : Array Value, s'.heap.get? b = some { cls := .none, data := .fields more } := fun b z => by
          obtain ⟨more, q⟩ := un.tbls b #[] (HT b z)
          exact ⟨_, hok' b _ q⟩
        have key : ∀ b o, b ∉ ts.map (·.2.2) → s1.heap.get? b = some o → s'.heap.get? b = some o := fun b o z e => by
          cases q : H b with
          | none => exact un.keep b o e q (by intro y; exact (nomatch y)) (by simp)
          | some u =>
            have q2 := q
            rw [HN b z] at q2
            obtain ⟨rfl, rfl⟩ := hF b u q2
            have z2 := un.frzs _ _ _ q
            obtain ⟨e1, _⟩ := hok _ _ q
            obtain ⟨e2, _⟩ := hok' _ _ z2
            rw [e] at e1
            cases e1
            exact e2
        refine ⟨rfl, ⟨fun b o e => ?_, fun b o e => ?_⟩, os, bare⟩
        · by_cases z : b ∈ ts.map (·.2.2)
          · obtain ⟨more, hm⟩ := grown b z
            have e' := isT b z
            obtain ⟨p, hp, ep⟩ := List.mem_map.mp z
            have cc := ((PySem.W.codeHd_of_K KX (hT p hp).hd).tab (h0 p hp)).isCodeTable
            rw [ep] at cc
            rw [e'] at e
            cases e
            exact .inr (.inl ⟨cc, rfl, #[], more, rfl, by rw [Array.empty_append]; exact hm⟩)
          · exact .inl (key b o z e)
        · by_cases z : b ∈ ts.map (·.2.2)
          · obtain ⟨more, hm⟩ := grown b z
            exact ⟨_, hm⟩
          · exact ⟨o, key b o z e⟩
  cases hk : K.lookup a with
  | some o =>
    have e := KX a o hk
    rw [ha] at e
    cases e
    exact go (fun _ => none) (fun b u z => (nomatch z)) (.inr ⟨_, vs.toArray, _, hk, rfl, rfl, rfl, by rw [List.size_toArray, lenV]; exact hl, by simpa using rv⟩) fun u z => (nomatch z)
  | none =>
    refine go (fun b => if b = a then some (.frz { cls := .type "list", data := .seq vs.toArray } (.lst (ns.map V.int))) else none) (fun b u z => ?_) (.inl (.inr ⟨_, if_pos rfl⟩)) fun _ _ => hk
    by_cases hb : b = a
    · have z' := (if_pos hb).symm.trans z
      cases z'
      exact ⟨hb, rfl⟩
    · have z' := (if_neg hb).symm.trans z
      cases z'
theorem walkT {l : PySem.W.OpenLaw} {n k : Nat} {q : Program} {loose : List Str} {XP : (Str → Option Value) → Heap → Prop} {YP : World → Heap → Prop} {d : DefRec} {K : Params → PySem.W.Frag} {sp : DSp} {x : Str} {tn : List Str}
    (hn : l.most = some n) (hn2 : n ≤ sizeLine) (hdf : d.params.defaults = []) (hr : Room k callerA) (himp : importsNone q = true) (hY : ∀ (w : World) (h : Heap), YP w h → (K w.params).In h)
    (F : ∀ (w : World) (mg : Str → Option Value) (fa : Addr) (h : Heap), YP w h → (K w.params).In h → h.Ns mainGlobals mg → mg d.name = some (.ref fa) →
      ∃ (fd : FuncData) (ts : Tabs), ts.map (·.1) = tn ∧ (ts.map (·.2.2)).Nodup ∧ (∀ p ∈ ts, TabD (K w.params) mg p.1 p.2.1 p.2.2) ∧ (∀ p ∈ ts, h.get? p.2.2 = some { cls := .none, data := .fields #[] }) ∧ (∀ (s : Shared) (u : Value), BindsTo s fd ⟨[u], []⟩ [(x, u)]) ∧
        ∀ base : Heap, (K w.params).In base → base.Ns mainGlobals mg → (∃ o, base.get? sysModules = some o) → (∀ p ∈ ts, TabB base mg p.2.1 p.2.2) → FnG l.prog w (K w.params) mg base k fa fd [x] sp)
    (hsp : ∀ ns : List Int, ns.length ≤ n → sp [.node .klst (ns.map D.int)] (tabK tn) (fun _ _ _ => False) (fun d _ => d = .bl true)) :
    PySem.W.WalkO q loose XP YP l.row.toRowW d [] (fun f vs => PySem.call f vs) := by
  refine Att.attach_call hn hdf fun w s0 s1 mg mb fa o pm cd doc a vs ns G Y ho hd hcd hmg hobj hints hlen hg => ?_
  have KX := hY w _ Y
  obtain ⟨fd, ts, e1, nd, hT, h0, hb, hF⟩ := F w mg fa _ Y KX G.T.g hmg
  exact law_endT KX G.T.g G.T.b G.T.builtins G.T.nolimit (seer_sys (G.T.seer himp)) hg G.T.bmain hT h0 nd hobj hints (Nat.le_trans hlen hn2) hr hF hb (by rw [e1]; exact hsp ns hlen)
end DL
/-! DCf: sorted(x, key=a lambda) of a list or a tuple: the keys are told by calls that may make things. -/
/-! DCg: list.sort(key=f) where f's calls may make things: R stands from call to call. -/
/-! DCh: sorted(x, key=a written lambda) over data. -/
namespace DL
open PySem PySem.Spec PyProof.Rows L2 LamX NdefX
end DL
/-! DCi: where a lambda is written in a def's text; defs whose code object is known. -/
namespace DL
open PySem PySem.Spec PyProof.Rows L2 LamX NdefX
def noP : Pos := ⟨0, 0, 0, 0⟩
def noEx : Expr := .Name "" noP
def stAt (i : Nat) (b : List Stmt) : Stmt := match b, i with
  | [], _ => .Pass noP
  | s :: _, 0 => s
  | _ :: t, i + 1 => stAt i t
def stV (s : Stmt) : Expr := match s with
  | .Assign _ v _ => v
  | .Expr v _ => v
  | .Return (some v) _ => v
  | .If t _ _ _ => t
  | .While t _ _ _ => t
  | .For _ t _ _ _ => t
  | _ => noEx
def lamP (e : Expr) : Arguments := match e with
  | .Lambda a _ _ _ => a
  | _ => { posonlyargs := [], args := [], vararg := none, kwonlyargs := [], kw_defaults := [], kwarg := none, defaults := [] }
def lamB (e : Expr) : Expr := match e with
  | .Lambda _ b _ _ => b
  | _ => noEx
def lamS (e : Expr) : Scope := match e with
  | .Lambda _ _ s _ => s
  | _ => { kind := .function, names := [], isGenerator := false, isCoroutine := false }
section
variable {P : Program} {w : World} {K : PySem.W.Frag} {mg : Str → Option Value} {base : Heap}
theorem TabD.code {x : Str} {c tP f : Addr} {oc : Value} {od : Option Addr} {fd : FuncData} {sl : Array (Option Value)} (T : TabD K mg x c tP) (m : mg x = some (.ref f)) (lk : K.lookup f = some ⟨oc, od, .func fd, sl⟩) : fd.code = .ref c := by
  obtain ⟨f', oc', od', fd', sl', h1, h2, h3⟩ := T.ex
  rw [m] at h1
  cases h1
  rw [lk] at h2
  cases h2
  exact h3
end
end DL
/-! DCj: a def that returns a lambda; the lambda is called later (on plain data, as a thing that changes nothing). -/
namespace DL
open PySem PySem.Spec PyProof.Rows L2 LamX NdefX
theorem sameO_ok {P : Program} {w : World} {H : Hp} {h : Heap} {a : Addr} {o : Obj} (e : h.get? a = some o) : ObjOk P w H h a (SameO a o) := ⟨e, ⟨o, e⟩, fun h1 h2 q k => k _ q⟩
theorem sameO_at {P : Program} {w : World} {H : Hp} {h : Heap} {a : Addr} {o : Obj} (x : HOk P w H h) (e : H a = some (SameO a o)) : h.get? a = some o := (x a _ e).1
/-- the objects at S are kept as they lie -/
def keepB (S : List Addr) (h : Heap) (H : Hp) : Hp := fun b => if b ∈ S then (h.get? b).map (SameO b) else H b
theorem keepB_in {S : List Addr} {h : Heap} {H : Hp} {b : Addr} {o : Obj} (hb : b ∈ S) (e : h.get? b = some o) : keepB S h H b = some (SameO b o) := by
  unfold keepB
  rw [if_pos hb, e]
  rfl
theorem keepB_out {S : List Addr} {h : Heap} {H : Hp} {b : Addr} (hb : b ∉ S) : keepB S h H b = H b := by
  unfold keepB
  rw [if_neg hb]
section
variable {C : Ctx} {F : Hp} {ρ : Loc0} {κ : Kap} {H : Hp} {S : List Addr} {h : Heap}
theorem keep_st (st : StR C F ρ κ H) (hS : ∀ b ∈ S, H b = none) : Ext F ρ (keepB S h F) ρ ∧ StR C (keepB S h F) ρ κ (keepB S h H) := by
  have out : ∀ b o, H b = some o → b ∉ S := fun b o e z => by rw [hS b z] at e; cases e
  have ex : Ext F ρ (keepB S h F) ρ := ⟨fun a o e => by rw [keepB_out (out a o (st.sub a o e))]; exact e, fun _ _ e => e⟩
  refine ⟨ex, ⟨fun a o e => ?_, fun n k xs e => ?_, st.inj, st.free, st.fin⟩⟩
  · by_cases ha : a ∈ S
    · unfold keepB at e ⊢
      rw [if_pos ha] at e ⊢
      exact e
    · rw [keepB_out ha] at e ⊢
      exact st.sub a o e
  · obtain ⟨a, vs, h1, h2, h3, h4⟩ := st.live n k xs e
    obtain ⟨u, hu⟩ := h3.is
    have na := out a u hu
    exact ⟨a, vs, h1, by rw [keepB_out na]; exact h2, h3.same (keepB_out na), h4.ext ex⟩
theorem keep_ok {P : Program} {w : World} (x : HOk P w H h) (hS : ∀ b ∈ S, H b = none) : HOk P w (keepB S h H) h := by
  have out : ∀ b o, H b = some o → keepB S h H b = some o := fun b o e => by
    rw [keepB_out (fun z => by rw [hS b z] at e; cases e)]
    exact e
  intro b u e
  by_cases hb : b ∈ S
  · unfold keepB at e
    rw [if_pos hb] at e
    cases q : h.get? b with
    | none => rw [q] at e; cases e
    | some o => rw [q] at e; cases e; exact sameO_ok q
  · rw [keepB_out hb] at e
    exact (x b u e).stay (fun c v _ q => q) (fun c q => out c _ q) fun c xs q => out c _ q
end
/-- bodies that end with a lambda -/
abbrev DLm := DEnv → Kap → DX → DQ → Prop
structure PLs (X : Cx) (W : WX) (sts : List Stmt) (b : DLm) : Prop where
  run : ∀ (pins : List (Addr × Obj)) (s : Shared) (σ : L2.St) (H : Hp), Inv X pins σ H s → ∀ (F : Hp) (ρ : Loc0) (κ : Kap) (δ : DEnv) (XD : DX) (QD : DQ) (Q : VK), StR (CtxOf X) F ρ κ H → RepS (CtxOf X) F ρ δ σ → b δ κ XD QD → Post (CtxOf X) F ρ QD Q → PostX (CtxOf X) F ρ XD W →
    wpAny (model X.prog X.w) X.A (execs sts X.env) (fun fl s' => ∃ u, fl = .ret u ∧ CE X.outer X.prog X.w X.H_0 X.s_0 Q u s') X.xe s
def lSeq (u : DS) (b : DLm) : DLm := fun δ κ XD QD => u δ κ XD ⟨fun δ1 κ1 => b δ1 κ1 XD QD, QD, fun _ _ => False, fun _ _ => False⟩
def lRet (x : Str) (fr : List Str) (js : List Nat) : DLm := fun δ κ XD QD => ∃ n q cs, κ n = some (.live (.tbk x) (List.replicate q (codD x))) ∧ js.map (fun j => δ[j]?) = cs.map (fun c => some (some c)) ∧
  ∀ q', (q' = q ∨ q' = q + 1) → QD (.node (.fnk x fr) (codD x :: cs)) (kset κ n (.live (.tbk x) (List.replicate q' (codD x))))
section
variable {X : Cx} {W : WX} {k : Nat} {c P : Addr} {fr : List Str} {js : List Nat} {x : Str} {params : Arguments} {body : Expr} {scope : Scope} {st : Stmt} {sts : List Stmt} {u : DS} {b : DLm} {lpos pos : Pos}
theorem pls_cons (hx : X.ex = []) (h1 : PSD X W st u) (h2 : PLs X W sts b) : PLs X W (st :: sts) (lSeq u b) := by
  refine ⟨fun pins s σ H I F ρ κ δ XD QD Q S R hb PQ PX => wpAny_execs_cons (thn (h1.run pins s σ H ⟨fun σ' H' => ∃ F1 ρ1 κ1 δ1, Ext F ρ F1 ρ1 ∧ StR (CtxOf X) F1 ρ1 κ1 H' ∧ RepS (CtxOf X) F1 ρ1 δ1 σ' ∧ b δ1 κ1 XD QD, Q, fun _ _ => False, fun _ _ => False⟩ I
    ⟨F, ρ, κ, δ, XD, _, S, R, hb, ⟨fun F1 ρ1 κ1 H1 δ1 σ1 e1 S1 R1 h => ⟨F1, ρ1, κ1, δ1, e1, S1, R1, h⟩, PQ, fun _ _ _ _ _ _ _ _ _ z => z.elim, fun _ _ _ _ _ _ _ _ _ z => z.elim⟩, PX⟩) fun fl s1 q => ?_)⟩
  cases fl with
  | next =>
    obtain ⟨σ', H', I', F1, ρ1, κ1, δ1, e1, S1, R1, h⟩ := q
    exact h2.run pins s1 σ' H' I' F1 ρ1 κ1 δ1 XD QD Q S1 R1 h (PQ.ext e1) (PX.ext e1)
  | brk => obtain ⟨_, _, _, q⟩ := q; exact q.elim
  | cont => obtain ⟨_, _, _, q⟩ := q; exact q.elim
  | ret u =>
    obtain ⟨v, σ', H', J, rv, q⟩ := q
    exact ⟨u, rfl, v, H', J.os, J.bare, hx ▸ J.base, J.hok, rv, q⟩
theorem pls_lam (hx : X.ex = []) (TB : TabB X.base X.mg c P) (hcode : X.env.code = .ref c) (hTI : TabIs (CtxOf X) x P) (LO : LamOf (CtxOf X) x params body scope) (hq : X.env.qual = x ++ ".<locals>.") (hN : ndefB X.env.scope scope fr = true) (hjs : js.map (fun j => X.N[j]?) = fr.map some)
    (hfn : ∀ y, X.fn y = true := by exact fun _ => rfl) (hdef : defaultsOf params X.env = ([], []) := by rfl) :
    PLs X W [.Return (some (.Lambda params body scope lpos)) pos] (lRet x fr js) := by
  refine ⟨fun pins s σ H I F ρ κ δ XD QD Q S R ⟨n, q, cs, hn, hcs, hh⟩ PQ PX => ?_⟩
  obtain ⟨P', vsT, hρ, hF, hM, hR⟩ := S.live n _ _ hn
  have eP : P' = P := TabIs.one hM.1 hTI
  subst eP
  have hfree2 := ndef_free hN
  have hfree : ∀ y ∈ scope.names, y.2 = .free → ∃ c, X.env.cells.lookup y.1 = some c := fun y hy e => (hfree2 y hy e).elim (fun z => I.ok.has _ (.inl z)) fun z => I.ok.has _ (.inr z)
  refine wpAny_execs_cons (wpAny_Return_some (lam_make3 I TB hcode hdef hfree hM fun f' c' pm ctv H1 s' I1 ho nf nfr hge hc => ?_))
  show ∃ u, Flow.ret (.ref f') = .ret u ∧ _
  rw [hq] at ho hc
  obtain ⟨F2, q', e2, S2, rc, hq'⟩ : ∃ F2 q', Ext F ρ F2 ρ ∧ StR (CtxOf X) F2 ρ (kset κ n (.live (.tbk x) (List.replicate q' (codD x)))) H1 ∧ Rep (CtxOf X) F2 ρ (codD x) (.ref c') ∧ (q' = q ∨ q' = q + 1) := by
    rcases hc with ⟨e, hv⟩ | ⟨nC, o, e, ht⟩
    · subst e
      have same : kset κ n (.live (.tbk x) (List.replicate q (codD x))) = κ := by
        funext i
        by_cases hi : i = n
        · rw [hi, kset_same, hn]
        · rw [kset_ne hi]
      exact ⟨F, q, Ext.refl _ _, by rw [same]; exact S, rep_mem hR hv, .inl rfl⟩
    · subst e
      obtain ⟨ex, S3⟩ := S.laid (o := CodeO c' (lamQ x)) nC
      have rc : Rep (CtxOf X) (upd F c' (CodeO c' (lamQ x))) ρ (codD x) (.ref c') := .node ⟨rfl, upd_same⟩ .nil
      refine ⟨_, q + 1, ex, S3.write hn hρ (k' := .tbk x) (vs' := vsT ++ [.ref c']) (fun H2 e => (show HoldM (CtxOf X) H2 (.tbk x) P' (vsT ++ [.ref c']) from ht H2 e)) ?_, rc, .inr rfl⟩
      rw [List.replicate_succ']
      exact (hR.ext ex).append (.cons rc .nil)
  obtain ⟨wsC, hwsC, rcs⟩ := slots_rep (R.ext e2) hcs
  have cp : Caps X (cloFrom X.env.cells scope.names []) fr js := Caps.made I1.ok hfree2 (ndef_fr hN) hjs
  have CA : CellsAt (cloFrom X.env.cells scope.names []) fr (wsC.map some) s'.heap H1 := hwsC ▸ cells_of I1 cp
  generalize hcl : cloFrom X.env.cells scope.names [] = cl at ho cp CA
  have hnew : ∀ y a, cl.lookup y = some a → X.s_0.heap.objs.size ≤ a := fun y a e => I1.ok.cab y a (hfn y) (cp.sub y a e)
  generalize hSt : f' :: cl.map (·.2) = St
  have hS : ∀ b ∈ St, H1 b = none := fun b hb => by
    rw [← hSt] at hb
    rcases List.mem_cons.mp hb with e | e
    · rw [e]; exact nf
    · obtain ⟨p, hp, rfl⟩ := List.mem_map.mp e
      rw [← hcl] at hp
      obtain ⟨y, a⟩ := p
      have : ∃ y', (cloFrom X.env.cells scope.names []).lookup y' = some a := by
        rcases cloFrom_mem hp with z | ⟨z1, z2⟩
        · cases z
        · obtain ⟨a', ha'⟩ := hfree (y, .free) z1 rfl
          have h2 := clo_has (fun y hy e => hfree y hy e) z1 ha'
          refine ⟨y, ?_⟩
          rw [h2, z2, ha']
          rfl
      obtain ⟨y', hy'⟩ := this
      rw [hcl] at hy'
      exact (CA.all y' a hy').1
  have hSn : ∀ b ∈ St, X.s_0.heap.objs.size ≤ b := fun b hb => by
    rw [← hSt] at hb
    rcases List.mem_cons.mp hb with e | e
    · rw [e]; exact Nat.le_trans I.sz hge
    · obtain ⟨p, hp, rfl⟩ := List.mem_map.mp e
      rw [← hcl] at hp
      obtain ⟨y, a⟩ := p
      rcases cloFrom_mem hp with z | ⟨z1, z2⟩
      · cases z
      · obtain ⟨a', ha'⟩ := hfree (y, .free) z1 rfl
        have h2 := clo_has (fun y hy e => hfree y hy e) z1 ha'
        have e3 : a = a' := by rw [z2, ha']; rfl
        rw [hcl] at h2
        exact hnew y a (by rw [h2, e3])
  obtain ⟨e3, S3⟩ := keep_st (h := s'.heap) S2 hS
  have hin : ∀ y a, cl.lookup y = some a → a ∈ St := fun y a e => by
    rw [← hSt]
    exact List.mem_cons_of_mem _ (List.mem_map.mpr ⟨(y, a), PySem.mem_of_lookup e, rfl⟩)
  have rN : Rep (CtxOf X) (keepB St s'.heap F2) ρ (.node (.fnk x fr) (codD x :: cs)) (.ref f') := by
    refine .node (vs := V.ref c' :: wsC) ⟨params, body, scope, cl, pm, ctv, c', wsC, LO, keepB_in (by rw [← hSt]; exact List.mem_cons_self) ho, rfl, ?_⟩ (.cons (rc.ext e3) (rcs.ext e3))
    have hl := CA.len
    rw [List.length_map] at hl
    refine ⟨hl, fun y a e => ?_, CA.inj, fun i y e => ?_⟩
    · obtain ⟨_, v, o, h1, h2⟩ := CA.all y a e
      exact ⟨o, v, keepB_in (hin y a e) h1, h2⟩
    · obtain ⟨a, h1, h2⟩ := CA.has i y e
      refine ⟨a, h1, fun v hv => ?_⟩
      obtain ⟨u, ru, o, h3, h4⟩ := h2 v (by rw [List.getElem?_map, hv]; rfl)
      exact ⟨u, o, ru, keepB_in (hin y a h1) h3, h4⟩
  refine ⟨_, rfl, .ref f', keepB St s'.heap H1, I1.os, I1.bare, ?_, keep_ok I1.hok hS, rfl, PQ _ _ _ _ _ _ (e2.trans e3) S3 rN (hh q' hq')⟩
  have base : Un X.fs [] X.H_0 H1 X.s_0.heap s'.heap := hx ▸ I1.base
  refine ⟨base.keep, base.slot, fun b o e hb hxx => ?_, base.there, fun b xs e => ?_, fun b o u e => ?_, fun b ps e => ?_⟩
  · have nb : b ∉ St := fun z => Nat.not_lt.mpr (hSn b z) (Heap.lt_size e)
    rw [keepB_out nb]
    exact base.free b o e hb hxx
  · have q := base.tups b xs e
    rw [keepB_out (fun z => by rw [hS b z] at q; cases q)]
    exact q
  · have q := base.frzs b o u e
    rw [keepB_out (fun z => by rw [hS b z] at q; cases q)]
    exact q
  · obtain ⟨more, q⟩ := base.tbls b ps e
    refine ⟨more, ?_⟩
    rw [keepB_out (fun z => by rw [hS b z] at q; cases q)]
    exact q
end
section
variable {P : Program} {w : World} {K : PySem.W.Frag} {mg : Str → Option Value} {base : Heap}
def spLm (n m : Nat) (b : DLm) : DSp := fun ds κ XD QD => ds.length = m ∧ b (startD n ds) κ (fun _ c fs κ' => XD c fs κ') QD
/-- THE RULE for a def that returns a lambda -/
theorem Fn_okLm {x : Str} {st : Stmt} {dvs : List V} {kws : List (Str × V)} {f c tP : Addr} {fd : FuncData} {N ps : List Str} {k : Nat} {b : DLm} (D : DefD K mg x st f fd dvs kws) (S : FnScope N ps (defScope st)) (sm : ∃ o, base.get? sysModules = some o) (T : TabD K mg x c tP)
    (hbody : ∀ (A : Around) (outer : List Env) (s : Shared) (H : Hp) (E : XK), Good k (cxD P w K mg base N x (defScope st) f (.ref c) A outer s H E) (wxE E) → PLs (cxD P w K mg base N x (defScope st) f (.ref c) A outer s H E) (wxE E) (defBody st) b) :
    FnG P w K mg base (k + 1) f fd ps (spLm N.length ps.length b) := by
  have hc : fd.code = .ref c := by
    obtain ⟨oc, od, dV, kV, doc, pm, an, cdv, ct, osl, rfl, lk, hcd, _, _⟩ := D.F.ex
    exact T.code D.m lk
  refine ⟨fun ds κ XD Q h => h.1, fun A outer s H args us vs ds F0 ρ κ XD QD Q E hr hg e0 hb rv S0 R0 hsp PQ PE => ?_⟩
  obtain ⟨oc, od, dV, kV, doc, pm, an, cdv, ct, osl, rfl, lk, hcd, _, _⟩ := D.F.ex
  obtain rfl : cdv = .ref c := hc
  have hl : vs.length = ps.length := by rw [← R0.length, hsp.1]
  have KX : K.In s.heap := e0.mod.kin.keeps fun b o e => (e0.bs b o e).1
  have lim : s.heap.NoLimit := e0.mod.nolimit.keeps fun b o e => (e0.bs b o e).1
  have kinds : ∀ y ∈ ps.zip us, (defScope st).names.lookup y.1 = some .local ∨ ((defScope st).names.lookup y.1 = some .cell ∧ ((cellsFrom (s.heap.objs.size + 1) (defScope st).names []).lookup y.1).isSome = true) := fun y hy => by
    rcases S.par y.1 (List.of_mem_zip (a := y.1) (b := y.2) hy).1 with q | q
    · exact .inl q
    · exact .inr ⟨q, PySem.W.cellsFrom_some _ _ _ (.inl q)⟩
  refine codeAny_call_function hr.depth (KX _ _ lk) rfl S.co S.gen rfl (PySem.W.codeRec_of KX hcd) (hb _ _ _ _ (wpAny_newFunctionEnv_cells S.kind kinds fun env he s1 xx => ?_))
  subst he
  refine ⟨lim.keeps xx.toInCall.keep, codeAny_func ?_⟩
  have I := inv_start (CX := L2N.CX P w) (N := N) (qual := x) (E := E) (f := f) (cd := .ref c) S hr.hd e0 hl rv xx
  have g : Good k (cxD P w K mg base N x (defScope st) f (.ref c) A outer s H E) (wxE E) :=
    ⟨L2N.takes_of rfl rfl rfl rfl, passes_of rfl, hr.deeper _, hg, sm, rfl, S.nd⟩
  refine wpAny_mono ((hbody A outer s H E g).run [] s1 _ H I F0 ρ κ (startD N.length ds) _ QD Q S0 (repS_start R0) hsp.2 PQ
      fun F' ρ' κ' H' δ σ c fs cls dd e S R rx q => PE _ _ _ _ _ _ _ _ e S rx q) (fun fl s' hs => ?_) fun e s' hs => hs
  obtain ⟨u, rfl, q⟩ := hs
  exact q
end
/-! ### the call of it -/
/-- data without places -/
def pureD : D → Bool
  | .non => true
  | .bl _ => true
  | .int _ => true
  | .str _ => true
  | .node .tup xs => pureL xs
  | _ => false
where pureL : List D → Bool
  | [] => true
  | x :: xs => pureD x && pureL xs
/-- what a thing that changes nothing is told of the heap: tuples, and the code object at c -/
def dimH (c : Addr) (H : Hp) : Hp := fun b => if b = c then H b else match H b with
  | some (.tup xs) => some (.tup xs)
  | some (.frz o (.tup xs)) => some (.frz o (.tup xs))
  | _ => none
theorem dim_sub {c : Addr} {H : Hp} {b : Addr} {o : HO} (h : dimH c H b = some o) : H b = some o := by
  unfold dimH at h
  by_cases hb : b = c
  · rw [if_pos hb] at h; exact h
  · rw [if_neg hb] at h
    split at h
    · rename_i xs e; rw [e]; exact h
    · rename_i o' xs e; rw [e]; exact h
    · cases h
end DL
namespace DL
open PySem PySem.Spec PyProof.Rows L2 LamX NdefX
section
variable {C : Ctx} {F F' : Hp} {ρ ρ' : Loc0} {κ κ' : Kap} {H H' : Hp} {c : Addr}
theorem dim_keep {G : Hp} {b : Addr} {o : HO} (h : dimH c F b = some o) (e : G b = F b) : dimH c G b = some o := by
  unfold dimH at h ⊢
  rw [e]
  exact h
theorem dim_none {b : Addr} (h : H b = none) : dimH c H b = none := by
  unfold dimH
  by_cases hb : b = c
  · rw [if_pos hb]; exact h
  · rw [if_neg hb, h]
theorem dim_ext {b : Addr} {φ : Heap → Prop} (hb : b ≠ c) (h : H b = some (.ext φ)) : dimH c H b = none := by
  unfold dimH
  rw [if_neg hb, h]
theorem dim_c : dimH c H c = H c := by
  unfold dimH
  rw [if_pos rfl]
theorem dim_tup {b : Addr} {xs : List V} (h : H b = some (.tup xs)) : dimH c H b = some (.tup xs) := by
  unfold dimH
  by_cases hb : b = c
  · rw [if_pos hb]; exact h
  · rw [if_neg hb, h]
theorem dim_frz {b : Addr} {o : Obj} {xs : List V} (h : H b = some (.frz o (.tup xs))) : dimH c H b = some (.frz o (.tup xs)) := by
  unfold dimH
  by_cases hb : b = c
  · rw [if_pos hb]; exact h
  · rw [if_neg hb, h]
theorem dim_st (S : StR C F ρ κ H) : StR C (dimH c F) (fun _ => none) (fun _ => none) (dimH c H) :=
  ⟨fun a o e => dim_keep e (by have h := dim_sub e; rw [h]; exact S.sub a o h), fun n k xs e => (nomatch e), fun n m a k xs k' xs' e => (nomatch e), fun _ _ => rfl, ⟨0, fun _ _ => rfl⟩⟩
/-- what is known of a thing that stays -/
theorem dim_kind {b : Addr} {o : HO} (h : dimH c H b = some o) : b = c ∨ (∃ xs, o = .tup xs) ∨ ∃ ob xs, o = .frz ob (.tup xs) := by
  unfold dimH at h
  by_cases hb : b = c
  · exact .inl hb
  · rw [if_neg hb] at h
    split at h
    · cases h; exact .inr (.inl ⟨_, rfl⟩)
    · cases h; exact .inr (.inr ⟨_, _, rfl⟩)
    · cases h
theorem dim_ok {P : Program} {w : World} {h : Heap} {q : Str} (x : HOk P w H h) (hc : H c = some (CodeO c q)) : HOk P w (dimH c H) h := by
  intro b u e
  have e1 := dim_sub e
  rcases dim_kind e with rfl | ⟨xs, rfl⟩ | ⟨ob, xs, rfl⟩
  · rw [hc] at e1
    cases e1
    exact x b _ hc
  · exact x b _ e1
  · exact x b _ e1
/-- behind the call: what was known, and what came -/
def mrg (H H' : Hp) : Hp := fun b => match H b with
  | some o => some o
  | none => H' b
theorem mrg_old {b : Addr} {o : HO} (h : H b = some o) : mrg H H' b = some o := by unfold mrg; rw [h]
theorem mrg_new {b : Addr} (h : H b = none) : mrg H H' b = H' b := by unfold mrg; rw [h]
structure Came (c : Addr) (H H' : Hp) : Prop where
  old : ∀ b o, H b = some o → H' b = none ∨ H' b = some o
  gone : ∀ b o, H b = some o → dimH c H b = none → H' b = none
  stay : ∀ b o, dimH c H b = some o → H' b = some o
theorem there_of {P : Program} {w : World} {h : Heap} {b : Addr} {o : HO} (x : HOk P w H h) (e : H b = some o) : ∃ ob, h.get? b = some ob := by
  have y := x b o e
  clear x e
  cases o with
  | lst xs => obtain ⟨_, _, _, _, e⟩ := y; exact ⟨_, e⟩
  | tup xs => obtain ⟨_, _, _, p⟩ := y; obtain ⟨_, _, e, _⟩ := p; first | exact ⟨_, e⟩ | exact ⟨_, (by assumption)⟩
  | dK kvs => obtain ⟨_, _, _, _, o, _, _, e, _⟩ := y; exact ⟨_, e⟩
  | dT kvs => obtain ⟨_, _, _, _, o, _, _, e, _⟩ := y; exact ⟨_, e⟩
  | set S n => obtain ⟨o, _, _, _, e, _⟩ := y; exact ⟨_, e⟩
  | ins C dx fs => obtain ⟨_, _, _, e, _⟩ := y; exact ⟨_, e⟩
  | own z => obtain ⟨_, e⟩ := y; exact ⟨_, e⟩
  | xd fs => obtain ⟨_, ⟨_, _, _, e, _⟩, _⟩ := y; exact ⟨_, e⟩
  | rng lo hi => obtain ⟨_, _, _, e⟩ := y; exact ⟨_, e⟩
  | frz ob u => obtain ⟨e, _⟩ := y; exact ⟨_, e⟩
  | tbl ps => exact ⟨_, (show h.get? b = some _ from y)⟩
  | met f z => exact ⟨_, (show h.get? b = some _ from y)⟩
  | ext φ => obtain ⟨_, ⟨_, e⟩, _⟩ := y; exact ⟨_, e⟩
theorem came_of {P : Program} {w : World} {fs : List Addr} {h h' : Heap} (u : Un fs [] (dimH c H) H' h h') (x : HOk P w H h) (hc : H' c = H c) : Came c H H' := by
  have gone : ∀ b o, H b = some o → dimH c H b = none → H' b = none := fun b o e z => by
    obtain ⟨ob, q⟩ := there_of x e
    exact u.free b ob q z (by simp)
  have stay : ∀ b o, dimH c H b = some o → H' b = some o := fun b o e => by
    rcases dim_kind e with rfl | ⟨xs, rfl⟩ | ⟨ob, xs, rfl⟩
    · rw [hc]; exact dim_sub e
    · exact u.tups b xs e
    · exact u.frzs b ob _ e
  refine ⟨fun b o e => ?_, gone, stay⟩
  cases z : dimH c H b with
  | none => exact .inl (gone b o e z)
  | some o' =>
    have := dim_sub z
    rw [e] at this
    cases this
    exact .inr (stay b o z)
theorem Came.sub (m : Came c H H') {b : Addr} {o : HO} (h : H' b = some o) : mrg H H' b = some o := by
  cases z : H b with
  | none => rw [mrg_new z]; exact h
  | some u =>
    rw [mrg_old z]
    rcases m.old b u z with q | q
    · rw [q] at h; cases h
    · rw [q] at h; exact h
theorem mrg_un {fs : List Addr} {h h' : Heap} (u : Un fs [] (dimH c H) H' h h') : Un fs [] H (mrg H H') h h' := by
  refine ⟨fun b o e n => u.keep b o e (dim_none n), fun b o e n => u.slot b o e (dim_none n), fun b o e n hx => ?_, u.there, fun b xs e => mrg_old e, fun b o v e => mrg_old e, fun b ps e => ⟨#[], by rw [mrg_old e]; simp⟩⟩
  rw [mrg_new n]
  exact u.free b o e (dim_none n) hx
theorem mrg_ok {P : Program} {w : World} {fs : List Addr} {h h' : Heap} {q : Str} (u : Un fs [] (dimH c H) H' h h') (m : Came c H H') (x : HOk P w H h) (x' : HOk P w H' h') (hc : H c = some (CodeO c q)) (hf : ∀ b ∈ fs, H b = none) : HOk P w (mrg H H') h' := by
  have keep : ∀ b o, H b = some o → dimH c H b = none → ∀ v, h.get? b = some v → h'.get? b = some v := fun b o e z v g =>
    u.keep b v g z (fun hb => by rw [hf b hb] at e; cases e) (by simp)
  intro b o e
  cases z : H b with
  | none =>
    rw [mrg_new z] at e
    exact (x' b o e).stay (fun _ _ _ g => g) (fun d g => m.sub g) fun d xs g => m.sub g
  | some o1 =>
    rw [mrg_old z] at e
    cases e
    cases y : dimH c H b with
    | none =>
      refine (x b o z).stay (fun d v hd g => ?_) (fun d g => mrg_old g) fun d xs g => mrg_old g
      rcases hd with rfl | hd
      · exact keep d o z y v g
      · refine keep d _ hd ?_ v g
        by_cases hdc : d = c
        · subst hdc
          rw [hc] at hd
          cases hd
        · unfold dimH
          rw [if_neg hdc, hd]
    | some o2 =>
      have y1 := dim_sub y
      rw [z] at y1
      cases y1
      have y2 := x' b _ (m.stay b _ y)
      rcases dim_kind y with rfl | ⟨xs, rfl⟩ | ⟨ob, xs, rfl⟩
      · rw [hc] at z
        cases z
        exact y2
      · exact y2
      · exact y2
theorem holdM_dim {k : Kd} {a : Addr} {vs : List V} {q : Str} (h : HoldM C H k a vs) (hc : H c = some (CodeO c q)) : dimH c H a = none := by
  have go : ∀ o : HO, H a = some o → (∀ φ, o ≠ .ext φ) → (∀ xs, o ≠ .tup xs) → (∀ ob u, o ≠ .frz ob u) → dimH c H a = none := fun o e h1 h2 h3 => by
    cases z : dimH c H a with
    | none => rfl
    | some o' =>
      have z1 := dim_sub z
      rw [e] at z1
      cases z1
      rcases dim_kind z with rfl | ⟨xs, r⟩ | ⟨ob, xs, r⟩
      · rw [hc] at e; cases e; exact absurd rfl (h1 _)
      · exact absurd r (h2 _)
      · exact absurd r (h3 _ _)
  cases k with
  | lst => exact go _ h (fun _ z => nomatch z) (fun _ z => nomatch z) fun _ _ z => nomatch z
  | dct ks => obtain ⟨kvs, h1, _⟩ := h; exact go _ h1 (fun _ z => nomatch z) (fun _ z => nomatch z) fun _ _ z => nomatch z
  | obj c ns => obtain ⟨_, _, _, _, h1, _⟩ := h; exact go _ h1 (fun _ z => nomatch z) (fun _ z => nomatch z) fun _ _ z => nomatch z
  | tbk x => obtain ⟨_, ps, h1, _⟩ := h; exact go _ h1 (fun _ z => nomatch z) (fun _ z => nomatch z) fun _ _ z => nomatch z
  | _ => exact h.elim
theorem mrg_st {q : Str} (S : StR C F ρ κ H) (S' : StR C F' ρ' κ' H') (m : Came c H H') (hc : H c = some (CodeO c q)) : Ext F ρ (mrg F F') ρ ∧ StR C (mrg F F') ρ κ (mrg H H') := by
  have ex : Ext F ρ (mrg F F') ρ := ⟨fun a o e => mrg_old e, fun _ _ e => e⟩
  refine ⟨ex, ⟨fun a o e => ?_, fun n k xs e => ?_, S.inj, S.free, S.fin⟩⟩
  · cases z : F a with
    | none => rw [mrg_new z] at e; exact m.sub (S'.sub a o e)
    | some u => rw [mrg_old z] at e; cases e; exact mrg_old (S.sub a _ z)
  · obtain ⟨a, vs, h1, h2, h3, h4⟩ := S.live n k xs e
    obtain ⟨u, hu⟩ := h3.is
    have z := m.gone a u hu (holdM_dim h3 hc)
    refine ⟨a, vs, h1, ?_, h3.same ((mrg_old hu).trans hu.symm), h4.ext ex⟩
    rw [mrg_new h2]
    cases y : F' a with
    | none => rfl
    | some o => have := S'.sub a o y; rw [z] at this; cases this
theorem mrg_F (S : StR C F ρ κ H) (S' : StR C F' ρ' κ' H') (m : Came c H H') : ∀ a o, F' a = some o → mrg F F' a = some o := fun a o e => by
  cases z : F a with
  | none => rw [mrg_new z]; exact e
  | some u =>
    rw [mrg_old z]
    have h1 := S.sub a u z
    have h2 := S'.sub a o e
    rcases m.old a u h1 with q | q
    · rw [q] at h2; cases h2
    · rw [q] at h2; exact h2
end
mutual
theorem rep_pure {C : Ctx} {F1 F2 : Hp} {ρ1 ρ2 : Loc0} (h : ∀ (a : Addr) (vs : List V), SqT C.K F1 a vs → SqT C.K F2 a vs) : ∀ {d : D} {v : V}, pureD d = true → Rep C F1 ρ1 d v → Rep C F2 ρ2 d v
  | .non, _, _, r => by cases r; exact .non
  | .bl _, _, _, r => by cases r; exact .bl _
  | .int _, _, _, r => by cases r; exact .int _
  | .str _, _, _, r => by cases r; exact .str _
  | .node .tup xs, _, hp, r => by
    cases r with
    | node hk rl => exact .node (h _ _ hk) (repL_pure h (by unfold pureD at hp; exact hp) rl)
  | .ty _, _, hp, _ => by simp [pureD] at hp
  | .glb _, _, hp, _ => by simp [pureD] at hp
  | .cell _, _, hp, _ => by simp [pureD] at hp
  | .node .lst _, _, hp, _ => by simp [pureD] at hp
  | .node .klst _, _, hp, _ => by simp [pureD] at hp
  | .node (.dct _) _, _, hp, _ => by simp [pureD] at hp
  | .node (.obj ..) _, _, hp, _ => by simp [pureD] at hp
  | .node (.exc ..) _, _, hp, _ => by simp [pureD] at hp
  | .node (.exa ..) _, _, hp, _ => by simp [pureD] at hp
  | .node (.cau ..) _, _, hp, _ => by simp [pureD] at hp
  | .node (.tbk ..) _, _, hp, _ => by simp [pureD] at hp
  | .node (.cod ..) _, _, hp, _ => by simp [pureD] at hp
  | .node (.clo ..) _, _, hp, _ => by simp [pureD] at hp
  | .node (.fnk ..) _, _, hp, _ => by simp [pureD] at hp
theorem repL_pure {C : Ctx} {F1 F2 : Hp} {ρ1 ρ2 : Loc0} (h : ∀ (a : Addr) (vs : List V), SqT C.K F1 a vs → SqT C.K F2 a vs) : ∀ {ds : List D} {vs : List V}, pureD.pureL ds = true → RepL C F1 ρ1 ds vs → RepL C F2 ρ2 ds vs
  | [], _, _, r => by cases r; exact .nil
  | d :: ds, _, hp, r => by
    have hp' : (pureD d && pureD.pureL ds) = true := by unfold pureD.pureL at hp; exact hp
    rw [Bool.and_eq_true] at hp'
    cases r with
    | cons a b => exact .cons (rep_pure h hp'.1 a) (repL_pure h hp'.2 b)
end
theorem sqt_dim {K : PySem.W.Frag} {F : Hp} {c a : Addr} {vs : List V} (h : SqT K F a vs) : SqT K (dimH c F) a vs := by
  rcases h with (h | ⟨o, h⟩) | h
  · exact .inl (.inl (dim_tup h))
  · exact .inl (.inr ⟨o, dim_frz h⟩)
  · exact .inr h
theorem pureL_app : ∀ {xs ys : List D}, pureD.pureL (xs ++ ys) = true → pureD.pureL xs = true ∧ pureD.pureL ys = true
  | [], _, h => ⟨rfl, h⟩
  | x :: xs, ys, h => by
    have h' : (pureD x && pureD.pureL (xs ++ ys)) = true := by unfold pureD.pureL at h; exact h
    rw [Bool.and_eq_true] at h'
    have q := pureL_app h'.2
    exact ⟨by unfold pureD.pureL; rw [h'.1, q.1]; rfl, q.2⟩
theorem lamOf_one {C : Ctx} {x : Str} {p p' : Arguments} {e e' : Expr} {s s' : Scope} (h : LamOf C x p e s) (h' : LamOf C x p' e' s') : p = p' ∧ e = e' ∧ s = s' := by
  obtain ⟨f, oc, od, fd, sl, b, h1, h2, h3, h4⟩ := h
  obtain ⟨f', oc', od', fd', sl', b', g1, g2, g3, g4⟩ := h'
  rw [h1] at g1
  cases g1
  rw [h2] at g2
  cases g2
  rw [h3] at g3
  cases g3
  rw [h4] at g4
  cases g4
  exact ⟨rfl, rfl, rfl⟩
def dCallFn (x : Str) (fr : List Str) (i : Nat) (sp : DSp) (as : DA) : DE := fun δ κ X Q => ∃ cs, δ[i]? = some (some (.node (.fnk x fr) (codD x :: cs))) ∧ as δ κ X fun xs κ1 => pureD.pureL (xs ++ cs) = true ∧ sp (xs ++ cs) (fun _ => none) (fun _ _ _ => False) (fun d _ => pureD d = true ∧ Q d κ1)
section
variable {X : Cx} {W : WX} {k i : Nat} {params : Arguments} {body : Expr} {scope : Scope} {ps fr : List Str} {sp : DSp} {y x : Str} {e : Expr} {es : List Expr} {as : DA} {p pos : Pos}
theorem pd_callFn (i : Nat) (G : Good k X W) (FL : FnLam X.prog X.w X.K X.mg X.base k ⟨lamQ x, params, body, scope⟩ ps fr sp) (LO : LamOf (CtxOf X) x params body scope) (ha : PAD X W (e :: es) as) (hN : X.N[i]? = some y := by rfl) (hv : Vis X.env.scope y := by first | exact Or.inl rfl | exact Or.inr (Or.inl rfl) | exact Or.inr (Or.inr rfl))
    (hdb : (y == ("__debug__" : Str)) = false := by decide) (hcd : (y == ("__classdict__" : Str)) = false := by decide)
    (he : starEach (e :: es) X.env = (false, eval e X.env) :: starEach es X.env := by rfl) (hpl : (backTo pos (starEach es X.env)).any (·.1) = false := by rfl) : PED X W (.Call (.Name y p) (e :: es) [] pos) (dCallFn x fr i sp as) := by
  refine ⟨fun pins s σ H Q I ⟨F, ρ, κ, δ, XD, QD, S, R, ⟨cs, h1, h⟩, PQ, PX⟩ => ?_⟩
  obtain ⟨v, hs, rv⟩ := R.2 i _ h1
  cases rv with
  | @node _ _ a _ hk rl =>
    obtain ⟨p1, b1, s1, cl, pm, ctv, c', ws, LO1, hfa, rfl, hcap⟩ := hk
    obtain ⟨rfl, rfl, rfl⟩ := lamOf_one LO LO1
    have fn : ∀ {s : Shared} {H : Hp} {F1 : Hp} {ρ1 : Loc0} {κ1 : Kap}, L2.Inv X pins σ H s → Ext F ρ F1 ρ1 → StR (CtxOf X) F1 ρ1 κ1 H → s.heap.get? a = some (PySem.W.kla_obj "<lambda>" (lamQ x) params body scope cl pm c' ctv) := fun I e S => sameO_at I.hok (S.sub _ _ (e.f _ _ hfa))
    have fa : ∀ {s : Shared} {H : Hp} {F1 : Hp} {ρ1 : Loc0} {κ1 : Kap}, L2.Inv X pins σ H s → Ext F ρ F1 ρ1 → StR (CtxOf X) F1 ρ1 κ1 H → PySem.W.FnAt a s.heap := fun I e S => ⟨_, _, _, _, fn I e S⟩
    refine wpAny_Call_Name_kw (thn ((pe_var (pos := p) hN hv hdb hcd).run pins s σ H (fun v H1 => v = .ref a ∧ H1 = H) I ⟨.ref a, hs, rfl, rfl⟩) fun u s1 ⟨v, H1, I1, r1, q1⟩ => ?_)
    obtain ⟨rfl, rfl⟩ := q1
    obtain rfl : u = Value.ref a := r1
    refine PySem.W.callWith_F (first := []) (fa I1 (Ext.refl _ _) S) (thn (ha.run pos pins s1 σ H1 (fun vs H2 => ∃ F1 ρ1 κ1 xs, Ext F ρ F1 ρ1 ∧ StR (CtxOf X) F1 ρ1 κ1 H2 ∧ RepL (CtxOf X) F1 ρ1 xs vs ∧ pureD.pureL (xs ++ cs) = true ∧ sp (xs ++ cs) (fun _ => none) (fun _ _ _ => False) (fun d _ => pureD d = true ∧ QD d κ1)) I1
      ⟨F, ρ, κ, δ, XD, _, S, R, h, fun F1 ρ1 κ1 H1 xs vs e1 S1 R1 h1 => ⟨F1, ρ1, κ1, xs, e1, S1, R1, h1⟩, PX⟩) fun us s2 ⟨vs, H2, I2, r2, F2, ρ2, κ2, xs, e2, S2, R2, hpure, h2⟩ => ⟨fa I2 e2 S2, ?_⟩) he hpl
    show wpAny _ _ (call (.ref a) us) _ _ _
    have hob := fn I2 e2 S2
    cases rl with
    | cons rc rcs =>
      have hcF : F c' = some (CodeO c' (lamQ x)) := by
        cases rc with
        | node hk2 _ => exact hk2.2
      have hc2 : H2 c' = some (CodeO c' (lamQ x)) := S2.sub _ _ (e2.f _ _ hcF)
      obtain ⟨oc, cvs, ct, hoc, hod, _⟩ := (I2.hok c' _ hc2).1
      have nac : a ≠ c' := fun z => by
        rw [z, hoc] at hob
        cases hob
        cases hod
      have cellO : ∀ {b o}, F b = some (SameO b o) → s2.heap.get? b = some o ∧ H2 b = some (SameO b o) := fun {b o} q => ⟨sameO_at I2.hok (S2.sub _ _ (e2.f _ _ q)), S2.sub _ _ (e2.f _ _ q)⟩
      have cellN : ∀ {b o v}, F b = some (SameO b o) → o.data = .cell v → dimH c' H2 b = none := fun {b o v} q hd => by
        obtain ⟨q1, q2⟩ := cellO q
        refine dim_ext (fun z => ?_) q2
        rw [z, hoc] at q1
        cases q1
        rw [hod] at hd
        cases hd
      have CA : CloAt s2.heap (dimH c' H2) ⟨lamQ x, params, body, scope⟩ a c' cl fr ws := by
        refine ⟨⟨pm, ctv, hob⟩, dim_ext nac (S2.sub _ _ (e2.f _ _ hfa)), ?_⟩
        refine ⟨by rw [List.length_map]; exact hcap.len, fun y b e => ?_, hcap.inj, fun i y e => ?_⟩
        · obtain ⟨o, v, q, hd⟩ := hcap.all y b e
          exact ⟨cellN q hd, v, o, (cellO q).1, hd⟩
        · obtain ⟨b, hb, hv⟩ := hcap.has i y e
          refine ⟨b, hb, fun v ev => ?_⟩
          rw [List.getElem?_map] at ev
          cases z : ws[i]? with
          | none => rw [z] at ev; cases ev
          | some v' =>
            rw [z] at ev
            cases ev
            obtain ⟨u, o, ru, q, hd⟩ := hv _ z
            exact ⟨u, ru, o, (cellO q).1, hd⟩
      have hl : us.length = ps.length := by
        have := FL.len _ _ _ _ h2
        rw [List.length_append, R2.length, Paired.length r2, rcs.length, hcap.len] at this
        omega
      have E2 : Env0 X.prog X.w X.K X.mg X.base X.A X.stack s2 (dimH c' H2) := ⟨I2.env0.frames, I2.env0.mod, fun b o e => ⟨(I2.env0.bs b o e).1, dim_none (I2.env0.bs b o e).2⟩, I2.env0.bsz, I2.env0.funs, fun b hb => dim_none (I2.env0.frf b hb), dim_ok I2.hok hc2, I2.env0.bare⟩
      obtain ⟨pu1, pu2⟩ := pureL_app hpure
      have St := dim_st (c := c') S2
      refine wpAny_call (codeAny_mono (FL.run X.A X.stack s2 (dimH c' H2) a c' cl us vs ws xs cs (dimH c' F2) (fun _ => none) (fun _ => none) (fun _ _ _ => False) _ (fun v H' => ∃ d F' ρ' κ', Ext (dimH c' F2) (fun _ => none) F' ρ' ∧ StR (CtxOf X) F' ρ' κ' H' ∧ Rep (CtxOf X) F' ρ' d v ∧ pureD d = true ∧ QD d κ2) (fun _ _ _ => False) G.rm G.gd E2 CA (dim_c.trans hc2) hl r2 St
        (repL_pure (fun _ _ => sqt_dim) pu1 R2) (repL_pure (fun _ _ => sqt_dim) pu2 (rcs.ext e2)) h2 (fun F' ρ' κ' H' d v e S r q => ⟨d, F', ρ', κ', e, S, r, q.1, q.2⟩) (fun _ _ _ _ _ _ _ _ _ _ _ z => z.elim)) fun rs s' hq => ?_)
      cases rs with
      | error er =>
        obtain ⟨_, _, _, _, _, _, _, _, _, _, _, _, z⟩ := hq
        exact z.elim
      | ok fl =>
        cases fl with
        | next => exact False.elim hq
        | brk => exact False.elim hq
        | cont => exact False.elim hq
        | ret u =>
          obtain ⟨v5, H5, os, bare, un, hok, r5, d, F5, ρ5, κ5, e5, S5, R5, hpd, hQ⟩ := hq
          have hc5 : H5 c' = H2 c' := (S5.sub _ _ (e5.f _ _ (dim_c.trans (e2.f _ _ hcF)))).trans hc2.symm
          have m := came_of un I2.hok hc5
          obtain ⟨ex, S6⟩ := mrg_st S2 S5 m hc2
          have R6 : Rep (CtxOf X) (mrg F2 F5) ρ2 d v5 := rep_pure (fun _ _ q => sqt_ext (mrg_F S2 S5 m) q) hpd R5
          exact I2.after ⟨v5, mrg H2 H5, os, bare, mrg_un un, mrg_ok un m I2.hok hok hc2 I2.env0.frf, r5, PQ _ _ _ _ _ _ (e2.trans ex) S6 R6 hQ⟩
end
end DL
namespace L_k11
open PySem PySem.Spec PyProof.Rows L2 DL
def topS (i : Nat) : Stmt := PySem.Challenge.pw_hintedpoints_k11_rounded_by_periods.main.body.getD i (.Pass ⟨0, 0, 0, 0⟩)
def ktab : List KRow := []
def kt : KTab := ktOf ktab
structure Tz (K : PySem.W.Frag) (mg : Str → Option Value) : Prop where
  kit : KitT K mg kt
  z_abs : mg "abs" = none
  z_bool : mg "bool" = none
  z_int : mg "int" = none
  z_isinstance : mg "isinstance" = none
  z_len : mg "len" = none
  z_max : mg "max" = none
  z_min : mg "min" = none
  z_range : mg "range" = none
  z_tuple : mg "tuple" = none
/-! is_plain -/
abbrev s_is_plain : Stmt := topS 6
theorem sc_is_plain : FnScope ["thing"] ["thing"] (defScope s_is_plain) := ⟨rfl, rfl, rfl, by decide +kernel, rfl, by decide +kernel, by decide +kernel⟩
def b_is_plain : DS := (sRet (dAnd (dB (fIsi kt) (dCons (dVar 0) (dCons (dC (.ty "int")) dNil))) (dNot (dB (fIsi kt) (dCons (dVar 0) (dCons (dC (.ty "bool")) dNil))))))
def sp_is_plain : DSp := spOf 1 1 b_is_plain
theorem fn_is_plain {P : Program} {w : World} {K : PySem.W.Frag} {mg : Str → Option Value} {base : Heap} {f : Addr} {fd : FuncData} (T : Tz K mg) (D : DefAt K mg "is_plain" s_is_plain f fd) (sm : ∃ o, base.get? sysModules = some o)  : FnG P w K mg base 1 f fd ["thing"] sp_is_plain :=
  Fn_ok (k := 0) (b := b_is_plain) D.F sc_is_plain sm fun cdv A outer s H E G => (sd_one (sd_ret (pd_and (pd_callB (call_isiD T.kit) sim_isi T.z_isinstance (pa_consD (pd_var 0) (pa_consD (pd_tyName T.z_int) pa_nilD))) (pd_one (pd_not (pd_callB (call_isiD T.kit) sim_isi T.z_isinstance (pa_consD (pd_var 0) (pa_consD (pd_tyName T.z_bool) pa_nilD))))))))
theorem ok_is_plain {P : Program} {w : World} {K : PySem.W.Frag} {mg : Str → Option Value} {base : Heap} {f : Addr} {fd : FuncData} (T : Tz K mg) (D : DefAt K mg "is_plain" s_is_plain f fd) (sm : ∃ o, base.get? sysModules = some o)  : Ok P w K mg base 1 "is_plain" ["thing"] sp_is_plain := ok_mk D (fn_is_plain T D sm ) (fun _ _ _ _ _ _ us hl => match us, hl with | [_], _ => rfl)
/-! common_part -/
abbrev s_common_part : Stmt := topS 7
theorem sc_common_part : FnScope ["one", "other"] ["one", "other"] (defScope s_common_part) := ⟨rfl, rfl, rfl, by decide +kernel, rfl, by decide +kernel, by decide +kernel⟩
def b_common_part : DS := (sSeq (sPar 0 1 (dCons (dB fAbs (dCons (dVar 0) dNil)) (dCons (dB fAbs (dCons (dVar 1) dNil)) dNil))) (sSeq (sWhile (tBl (dOp fNe (dVar 1) (dC (.int 0)))) (sPar 0 1 (dCons (dVar 1) (dCons (dOp fMod (dVar 0) (dVar 1)) dNil)))) (sRet (dVar 0))))
def sp_common_part : DSp := spOf 2 2 b_common_part
theorem fn_common_part {P : Program} {w : World} {K : PySem.W.Frag} {mg : Str → Option Value} {base : Heap} {f : Addr} {fd : FuncData} (T : Tz K mg) (D : DefAt K mg "common_part" s_common_part f fd) (sm : ∃ o, base.get? sysModules = some o)  : FnG P w K mg base 1 f fd ["one", "other"] sp_common_part :=
  Fn_ok (k := 0) (b := b_common_part) D.F sc_common_part sm fun cdv A outer s H E G => (sd_cons (sd_par 0 1 (fun _ h => ps_par G.calm G.nd rfl rfl (by decide) rfl rfl h (by rfl)) (pa_consD (pd_callB call_abs sim_abs T.z_abs (pa_consD (pd_var 0) pa_nilD)) (pa_consD (pd_callB call_abs sim_abs T.z_abs (pa_consD (pd_var 1) pa_nilD)) pa_nilD))) (sd_cons (sd_while G (pt_ne G (pd_var 1) pd_int) (sd_one (sd_par 0 1 (fun _ h => ps_par G.calm G.nd rfl rfl (by decide) rfl rfl h (by rfl)) (pa_consD (pd_var 1) (pa_consD (pd_mod (pd_var 0) (pd_var 1)) pa_nilD))))) (sd_one (sd_ret (pd_var 0)))))
theorem ok_common_part {P : Program} {w : World} {K : PySem.W.Frag} {mg : Str → Option Value} {base : Heap} {f : Addr} {fd : FuncData} (T : Tz K mg) (D : DefAt K mg "common_part" s_common_part f fd) (sm : ∃ o, base.get? sysModules = some o)  : Ok P w K mg base 1 "common_part" ["one", "other"] sp_common_part := ok_mk D (fn_common_part T D sm ) (fun _ _ _ _ _ _ us hl => match us, hl with | [_, _], _ => rfl)
/-! is_part -/
abbrev s_is_part : Stmt := topS 8
theorem sc_is_part : FnScope ["thing", "top", "base"] ["thing"] (defScope s_is_part) := ⟨rfl, rfl, rfl, by decide +kernel, rfl, by decide +kernel, by decide +kernel⟩
def b_is_part : DS := (sSeq (sIf (tOrD (tNotD (tTru (dB (fIsi kt) (dCons (dVar 0) (dCons (dC (.ty "tuple")) dNil))))) (tBl (dOp fNe (dB fLen (dCons (dVar 0) dNil)) (dC (.int 2))))) (sRet (dC (.bl false))) sNil) (sSeq (sAsg (dVar 0) (gTupD 2 (gConsD (gN 1) (gConsD (gN 2) gNilD)))) (sRet (dAnd (dCall sp_is_plain [] (dCons (dVar 1) dNil)) (dAnd (dCall sp_is_plain [] (dCons (dVar 2) dNil)) (dAnd (dOp fGtS (dVar 2) (dC (.int 1))) (dOp fEq (dCall sp_common_part [] (dCons (dVar 1) (dCons (dVar 2) dNil))) (dC (.int 1)))))))))
def sp_is_part : DSp := spOf 3 1 b_is_part
theorem fn_is_part {P : Program} {w : World} {K : PySem.W.Frag} {mg : Str → Option Value} {base : Heap} {f : Addr} {fd : FuncData} (T : Tz K mg) (D : DefAt K mg "is_part" s_is_part f fd) (sm : ∃ o, base.get? sysModules = some o) (O_common_part : Ok P w K mg base 1 "common_part" ["one", "other"] sp_common_part) (O_is_plain : Ok P w K mg base 1 "is_plain" ["thing"] sp_is_plain) : FnG P w K mg base 2 f fd ["thing"] sp_is_part :=
  Fn_ok (k := 1) (b := b_is_part) D.F sc_is_part sm fun cdv A outer s H E G => (sd_cons (sd_if (PW.pt (pw_orD (pt_notD (pt_truD (pd_callB (call_isiD T.kit) sim_isi T.z_isinstance (pa_consD (pd_var 0) (pa_consD (pd_tyName T.z_tuple) pa_nilD))))) (pw_or1D (pt_ne G (pd_callB call_len sim_len T.z_len (pa_consD (pd_var 0) pa_nilD)) pd_int)))) (sd_one (sd_ret pd_bl)) sd_nil) (sd_cons (sd_asg (pd_var 0) (pg_tupD G.calm (pgs_consD (pg_nameD (i := 1) G.nd) (pgs_consD (pg_nameD (i := 2) G.nd) pgs_nilD)))) (sd_one (sd_ret (pd_and (pd_callN G (O_is_plain.mono (by decide)) (pa_consD (pd_var 1) pa_nilD)) (pd_and (pd_callN G (O_is_plain.mono (by decide)) (pa_consD (pd_var 2) pa_nilD)) (pd_and (pd_gt (pd_var 2) pd_int) (pd_one (pd_eq G (pd_callN G (O_common_part.mono (by decide)) (pa_consD (pd_var 1) (pa_consD (pd_var 2) pa_nilD))) pd_int)))))))))
theorem ok_is_part {P : Program} {w : World} {K : PySem.W.Frag} {mg : Str → Option Value} {base : Heap} {f : Addr} {fd : FuncData} (T : Tz K mg) (D : DefAt K mg "is_part" s_is_part f fd) (sm : ∃ o, base.get? sysModules = some o) (O_common_part : Ok P w K mg base 1 "common_part" ["one", "other"] sp_common_part) (O_is_plain : Ok P w K mg base 1 "is_plain" ["thing"] sp_is_plain) : Ok P w K mg base 2 "is_part" ["thing"] sp_is_part := ok_mk D (fn_is_part T D sm O_common_part O_is_plain) (fun _ _ _ _ _ _ us hl => match us, hl with | [_], _ => rfl)
/-! is_number -/
abbrev s_is_number : Stmt := topS 9
theorem sc_is_number : FnScope ["thing"] ["thing"] (defScope s_is_number) := ⟨rfl, rfl, rfl, by decide +kernel, rfl, by decide +kernel, by decide +kernel⟩
def b_is_number : DS := (sRet (dOr (dCall sp_is_plain [] (dCons (dVar 0) dNil)) (dCall sp_is_part [] (dCons (dVar 0) dNil))))
def sp_is_number : DSp := spOf 1 1 b_is_number
theorem fn_is_number {P : Program} {w : World} {K : PySem.W.Frag} {mg : Str → Option Value} {base : Heap} {f : Addr} {fd : FuncData} (T : Tz K mg) (D : DefAt K mg "is_number" s_is_number f fd) (sm : ∃ o, base.get? sysModules = some o) (O_is_part : Ok P w K mg base 2 "is_part" ["thing"] sp_is_part) (O_is_plain : Ok P w K mg base 1 "is_plain" ["thing"] sp_is_plain) : FnG P w K mg base 3 f fd ["thing"] sp_is_number :=
  Fn_ok (k := 2) (b := b_is_number) D.F sc_is_number sm fun cdv A outer s H E G => (sd_one (sd_ret (pd_or (pd_callN G (O_is_plain.mono (by decide)) (pa_consD (pd_var 0) pa_nilD)) (pd_one (pd_callN G (O_is_part.mono (by decide)) (pa_consD (pd_var 0) pa_nilD))))))
theorem ok_is_number {P : Program} {w : World} {K : PySem.W.Frag} {mg : Str → Option Value} {base : Heap} {f : Addr} {fd : FuncData} (T : Tz K mg) (D : DefAt K mg "is_number" s_is_number f fd) (sm : ∃ o, base.get? sysModules = some o) (O_is_part : Ok P w K mg base 2 "is_part" ["thing"] sp_is_part) (O_is_plain : Ok P w K mg base 1 "is_plain" ["thing"] sp_is_plain) : Ok P w K mg base 3 "is_number" ["thing"] sp_is_number := ok_mk D (fn_is_number T D sm O_is_part O_is_plain) (fun _ _ _ _ _ _ us hl => match us, hl with | [_], _ => rfl)
/-! reckoned -/
abbrev s_reckoned : Stmt := topS 10
theorem sc_reckoned : FnScope ["top", "base", "part"] ["top", "base"] (defScope s_reckoned) := ⟨rfl, rfl, rfl, by decide +kernel, rfl, by decide +kernel, by decide +kernel⟩
def b_reckoned : DS := (sSeq (sAsg (dCall sp_common_part [] (dCons (dVar 0) (dCons (dVar 1) dNil))) (gN 2)) (sSeq (sIf (tBl (dOp fLtS (dVar 1) (dC (.int 0)))) (sAsg (dOp fSub (dC (.int 0)) (dVar 2)) (gN 2)) sNil) (sSeq (sPar 0 1 (dCons (dOp fDiv (dVar 0) (dVar 2)) (dCons (dOp fDiv (dVar 1) (dVar 2)) dNil))) (sRet (dIf (tBl (dOp fEq (dVar 1) (dC (.int 1)))) (dVar 0) (dTup (dCons (dVar 0) (dCons (dVar 1) dNil))))))))
def sp_reckoned : DSp := spOf 3 2 b_reckoned
theorem fn_reckoned {P : Program} {w : World} {K : PySem.W.Frag} {mg : Str → Option Value} {base : Heap} {f : Addr} {fd : FuncData} (T : Tz K mg) (D : DefAt K mg "reckoned" s_reckoned f fd) (sm : ∃ o, base.get? sysModules = some o) (O_common_part : Ok P w K mg base 1 "common_part" ["one", "other"] sp_common_part) : FnG P w K mg base 2 f fd ["top", "base"] sp_reckoned :=
  Fn_ok (k := 1) (b := b_reckoned) D.F sc_reckoned sm fun cdv A outer s H E G => (sd_cons (sd_set 2 G.nd (pd_callN G (O_common_part.mono (by decide)) (pa_consD (pd_var 0) (pa_consD (pd_var 1) pa_nilD)))) (sd_cons (sd_if (pt_lt (pd_var 1) pd_int) (sd_one (sd_set 2 G.nd (pd_sub pd_int (pd_var 2)))) sd_nil) (sd_cons (sd_par 0 1 (fun _ h => ps_par G.calm G.nd rfl rfl (by decide) rfl rfl h (by rfl)) (pa_consD (pd_fdiv (pd_var 0) (pd_var 2)) (pa_consD (pd_fdiv (pd_var 1) (pd_var 2)) pa_nilD))) (sd_one (sd_ret (pd_if (pt_eq G (pd_var 1) pd_int) (pd_var 0) (pd_tup (pa_consD (pd_var 0) (pa_consD (pd_var 1) pa_nilD)))))))))
theorem ok_reckoned {P : Program} {w : World} {K : PySem.W.Frag} {mg : Str → Option Value} {base : Heap} {f : Addr} {fd : FuncData} (T : Tz K mg) (D : DefAt K mg "reckoned" s_reckoned f fd) (sm : ∃ o, base.get? sysModules = some o) (O_common_part : Ok P w K mg base 1 "common_part" ["one", "other"] sp_common_part) : Ok P w K mg base 2 "reckoned" ["top", "base"] sp_reckoned := ok_mk D (fn_reckoned T D sm O_common_part) (fun _ _ _ _ _ _ us hl => match us, hl with | [_, _], _ => rfl)
/-! pair_of -/
abbrev s_pair_of : Stmt := topS 11
theorem sc_pair_of : FnScope ["number"] ["number"] (defScope s_pair_of) := ⟨rfl, rfl, rfl, by decide +kernel, rfl, by decide +kernel, by decide +kernel⟩
def b_pair_of : DS := (sSeq (sIf (tTru (dCall sp_is_plain [] (dCons (dVar 0) dNil))) (sRet (dTup (dCons (dVar 0) (dCons (dC (.int 1)) dNil)))) sNil) (sSeq (sIf (tNotD (tTru (dCall sp_is_part [] (dCons (dVar 0) dNil)))) sNever sNil) (sRet (dVar 0))))
def sp_pair_of : DSp := spOf 1 1 b_pair_of
theorem fn_pair_of {P : Program} {w : World} {K : PySem.W.Frag} {mg : Str → Option Value} {base : Heap} {f : Addr} {fd : FuncData} (T : Tz K mg) (D : DefAt K mg "pair_of" s_pair_of f fd) (sm : ∃ o, base.get? sysModules = some o) (O_is_part : Ok P w K mg base 2 "is_part" ["thing"] sp_is_part) (O_is_plain : Ok P w K mg base 1 "is_plain" ["thing"] sp_is_plain) : FnG P w K mg base 3 f fd ["number"] sp_pair_of :=
  Fn_ok (k := 2) (b := b_pair_of) D.F sc_pair_of sm fun cdv A outer s H E G => (sd_cons (sd_if (pt_truD (pd_callN G (O_is_plain.mono (by decide)) (pa_consD (pd_var 0) pa_nilD))) (sd_one (sd_ret (pd_tup (pa_consD (pd_var 0) (pa_consD pd_int pa_nilD))))) sd_nil) (sd_cons (sd_if (pt_notD (pt_truD (pd_callN G (O_is_part.mono (by decide)) (pa_consD (pd_var 0) pa_nilD)))) (sd_one sd_never) sd_nil) (sd_one (sd_ret (pd_var 0)))))
theorem ok_pair_of {P : Program} {w : World} {K : PySem.W.Frag} {mg : Str → Option Value} {base : Heap} {f : Addr} {fd : FuncData} (T : Tz K mg) (D : DefAt K mg "pair_of" s_pair_of f fd) (sm : ∃ o, base.get? sysModules = some o) (O_is_part : Ok P w K mg base 2 "is_part" ["thing"] sp_is_part) (O_is_plain : Ok P w K mg base 1 "is_plain" ["thing"] sp_is_plain) : Ok P w K mg base 3 "pair_of" ["number"] sp_pair_of := ok_mk D (fn_pair_of T D sm O_is_part O_is_plain) (fun _ _ _ _ _ _ us hl => match us, hl with | [_], _ => rfl)
/-! plus -/
abbrev s_plus : Stmt := topS 12
theorem sc_plus : FnScope ["one", "other", "top", "base", "more", "under"] ["one", "other"] (defScope s_plus) := ⟨rfl, rfl, rfl, by decide +kernel, rfl, by decide +kernel, by decide +kernel⟩
def b_plus : DS := (sSeq (sAsg (dTup (dCons (dCall sp_pair_of [] (dCons (dVar 0) dNil)) (dCons (dCall sp_pair_of [] (dCons (dVar 1) dNil)) dNil))) (gTupD 2 (gConsD (gTupD 2 (gConsD (gN 2) (gConsD (gN 3) gNilD))) (gConsD (gTupD 2 (gConsD (gN 4) (gConsD (gN 5) gNilD))) gNilD)))) (sRet (dCall sp_reckoned [] (dCons (dOp (fAdd false) (dOp fMulI (dVar 2) (dVar 5)) (dOp fMulI (dVar 4) (dVar 3))) (dCons (dOp fMulI (dVar 3) (dVar 5)) dNil)))))
def sp_plus : DSp := spOf 6 2 b_plus
theorem fn_plus {P : Program} {w : World} {K : PySem.W.Frag} {mg : Str → Option Value} {base : Heap} {f : Addr} {fd : FuncData} (T : Tz K mg) (D : DefAt K mg "plus" s_plus f fd) (sm : ∃ o, base.get? sysModules = some o) (O_pair_of : Ok P w K mg base 3 "pair_of" ["number"] sp_pair_of) (O_reckoned : Ok P w K mg base 2 "reckoned" ["top", "base"] sp_reckoned) : FnG P w K mg base 4 f fd ["one", "other"] sp_plus :=
  Fn_ok (k := 3) (b := b_plus) D.F sc_plus sm fun cdv A outer s H E G => (sd_cons (sd_asg (pd_tup (pa_consD (pd_callN G (O_pair_of.mono (by decide)) (pa_consD (pd_var 0) pa_nilD)) (pa_consD (pd_callN G (O_pair_of.mono (by decide)) (pa_consD (pd_var 1) pa_nilD)) pa_nilD))) (pg_tupD G.calm (pgs_consD (pg_tupD G.calm (pgs_consD (pg_nameD (i := 2) G.nd) (pgs_consD (pg_nameD (i := 3) G.nd) pgs_nilD))) (pgs_consD (pg_tupD G.calm (pgs_consD (pg_nameD (i := 4) G.nd) (pgs_consD (pg_nameD (i := 5) G.nd) pgs_nilD))) pgs_nilD)))) (sd_one (sd_ret (pd_callN G (O_reckoned.mono (by decide)) (pa_consD (pd_add false (pd_mulI (pd_var 2) (pd_var 5)) (pd_mulI (pd_var 4) (pd_var 3))) (pa_consD (pd_mulI (pd_var 3) (pd_var 5)) pa_nilD))))))
theorem ok_plus {P : Program} {w : World} {K : PySem.W.Frag} {mg : Str → Option Value} {base : Heap} {f : Addr} {fd : FuncData} (T : Tz K mg) (D : DefAt K mg "plus" s_plus f fd) (sm : ∃ o, base.get? sysModules = some o) (O_pair_of : Ok P w K mg base 3 "pair_of" ["number"] sp_pair_of) (O_reckoned : Ok P w K mg base 2 "reckoned" ["top", "base"] sp_reckoned) : Ok P w K mg base 4 "plus" ["one", "other"] sp_plus := ok_mk D (fn_plus T D sm O_pair_of O_reckoned) (fun _ _ _ _ _ _ us hl => match us, hl with | [_, _], _ => rfl)
/-! minus -/
abbrev s_minus : Stmt := topS 13
theorem sc_minus : FnScope ["one", "other", "top", "base", "more", "under"] ["one", "other"] (defScope s_minus) := ⟨rfl, rfl, rfl, by decide +kernel, rfl, by decide +kernel, by decide +kernel⟩
def b_minus : DS := (sSeq (sAsg (dTup (dCons (dCall sp_pair_of [] (dCons (dVar 0) dNil)) (dCons (dCall sp_pair_of [] (dCons (dVar 1) dNil)) dNil))) (gTupD 2 (gConsD (gTupD 2 (gConsD (gN 2) (gConsD (gN 3) gNilD))) (gConsD (gTupD 2 (gConsD (gN 4) (gConsD (gN 5) gNilD))) gNilD)))) (sRet (dCall sp_reckoned [] (dCons (dOp fSub (dOp fMulI (dVar 2) (dVar 5)) (dOp fMulI (dVar 4) (dVar 3))) (dCons (dOp fMulI (dVar 3) (dVar 5)) dNil)))))
def sp_minus : DSp := spOf 6 2 b_minus
theorem fn_minus {P : Program} {w : World} {K : PySem.W.Frag} {mg : Str → Option Value} {base : Heap} {f : Addr} {fd : FuncData} (T : Tz K mg) (D : DefAt K mg "minus" s_minus f fd) (sm : ∃ o, base.get? sysModules = some o) (O_pair_of : Ok P w K mg base 3 "pair_of" ["number"] sp_pair_of) (O_reckoned : Ok P w K mg base 2 "reckoned" ["top", "base"] sp_reckoned) : FnG P w K mg base 4 f fd ["one", "other"] sp_minus :=
  Fn_ok (k := 3) (b := b_minus) D.F sc_minus sm fun cdv A outer s H E G => (sd_cons (sd_asg (pd_tup (pa_consD (pd_callN G (O_pair_of.mono (by decide)) (pa_consD (pd_var 0) pa_nilD)) (pa_consD (pd_callN G (O_pair_of.mono (by decide)) (pa_consD (pd_var 1) pa_nilD)) pa_nilD))) (pg_tupD G.calm (pgs_consD (pg_tupD G.calm (pgs_consD (pg_nameD (i := 2) G.nd) (pgs_consD (pg_nameD (i := 3) G.nd) pgs_nilD))) (pgs_consD (pg_tupD G.calm (pgs_consD (pg_nameD (i := 4) G.nd) (pgs_consD (pg_nameD (i := 5) G.nd) pgs_nilD))) pgs_nilD)))) (sd_one (sd_ret (pd_callN G (O_reckoned.mono (by decide)) (pa_consD (pd_sub (pd_mulI (pd_var 2) (pd_var 5)) (pd_mulI (pd_var 4) (pd_var 3))) (pa_consD (pd_mulI (pd_var 3) (pd_var 5)) pa_nilD))))))
theorem ok_minus {P : Program} {w : World} {K : PySem.W.Frag} {mg : Str → Option Value} {base : Heap} {f : Addr} {fd : FuncData} (T : Tz K mg) (D : DefAt K mg "minus" s_minus f fd) (sm : ∃ o, base.get? sysModules = some o) (O_pair_of : Ok P w K mg base 3 "pair_of" ["number"] sp_pair_of) (O_reckoned : Ok P w K mg base 2 "reckoned" ["top", "base"] sp_reckoned) : Ok P w K mg base 4 "minus" ["one", "other"] sp_minus := ok_mk D (fn_minus T D sm O_pair_of O_reckoned) (fun _ _ _ _ _ _ us hl => match us, hl with | [_, _], _ => rfl)
/-! times -/
abbrev s_times : Stmt := topS 14
theorem sc_times : FnScope ["one", "other", "top", "base", "more", "under"] ["one", "other"] (defScope s_times) := ⟨rfl, rfl, rfl, by decide +kernel, rfl, by decide +kernel, by decide +kernel⟩
def b_times : DS := (sSeq (sAsg (dTup (dCons (dCall sp_pair_of [] (dCons (dVar 0) dNil)) (dCons (dCall sp_pair_of [] (dCons (dVar 1) dNil)) dNil))) (gTupD 2 (gConsD (gTupD 2 (gConsD (gN 2) (gConsD (gN 3) gNilD))) (gConsD (gTupD 2 (gConsD (gN 4) (gConsD (gN 5) gNilD))) gNilD)))) (sRet (dCall sp_reckoned [] (dCons (dOp fMulI (dVar 2) (dVar 4)) (dCons (dOp fMulI (dVar 3) (dVar 5)) dNil)))))
def sp_times : DSp := spOf 6 2 b_times
theorem fn_times {P : Program} {w : World} {K : PySem.W.Frag} {mg : Str → Option Value} {base : Heap} {f : Addr} {fd : FuncData} (T : Tz K mg) (D : DefAt K mg "times" s_times f fd) (sm : ∃ o, base.get? sysModules = some o) (O_pair_of : Ok P w K mg base 3 "pair_of" ["number"] sp_pair_of) (O_reckoned : Ok P w K mg base 2 "reckoned" ["top", "base"] sp_reckoned) : FnG P w K mg base 4 f fd ["one", "other"] sp_times :=
  Fn_ok (k := 3) (b := b_times) D.F sc_times sm fun cdv A outer s H E G => (sd_cons (sd_asg (pd_tup (pa_consD (pd_callN G (O_pair_of.mono (by decide)) (pa_consD (pd_var 0) pa_nilD)) (pa_consD (pd_callN G (O_pair_of.mono (by decide)) (pa_consD (pd_var 1) pa_nilD)) pa_nilD))) (pg_tupD G.calm (pgs_consD (pg_tupD G.calm (pgs_consD (pg_nameD (i := 2) G.nd) (pgs_consD (pg_nameD (i := 3) G.nd) pgs_nilD))) (pgs_consD (pg_tupD G.calm (pgs_consD (pg_nameD (i := 4) G.nd) (pgs_consD (pg_nameD (i := 5) G.nd) pgs_nilD))) pgs_nilD)))) (sd_one (sd_ret (pd_callN G (O_reckoned.mono (by decide)) (pa_consD (pd_mulI (pd_var 2) (pd_var 4)) (pa_consD (pd_mulI (pd_var 3) (pd_var 5)) pa_nilD))))))
theorem ok_times {P : Program} {w : World} {K : PySem.W.Frag} {mg : Str → Option Value} {base : Heap} {f : Addr} {fd : FuncData} (T : Tz K mg) (D : DefAt K mg "times" s_times f fd) (sm : ∃ o, base.get? sysModules = some o) (O_pair_of : Ok P w K mg base 3 "pair_of" ["number"] sp_pair_of) (O_reckoned : Ok P w K mg base 2 "reckoned" ["top", "base"] sp_reckoned) : Ok P w K mg base 4 "times" ["one", "other"] sp_times := ok_mk D (fn_times T D sm O_pair_of O_reckoned) (fun _ _ _ _ _ _ us hl => match us, hl with | [_, _], _ => rfl)
/-! over -/
abbrev s_over : Stmt := topS 15
theorem sc_over : FnScope ["one", "other", "top", "base", "more", "under"] ["one", "other"] (defScope s_over) := ⟨rfl, rfl, rfl, by decide +kernel, rfl, by decide +kernel, by decide +kernel⟩
def b_over : DS := (sSeq (sAsg (dTup (dCons (dCall sp_pair_of [] (dCons (dVar 0) dNil)) (dCons (dCall sp_pair_of [] (dCons (dVar 1) dNil)) dNil))) (gTupD 2 (gConsD (gTupD 2 (gConsD (gN 2) (gConsD (gN 3) gNilD))) (gConsD (gTupD 2 (gConsD (gN 4) (gConsD (gN 5) gNilD))) gNilD)))) (sSeq (sIf (tBl (dOp fEq (dVar 4) (dC (.int 0)))) sNever sNil) (sRet (dCall sp_reckoned [] (dCons (dOp fMulI (dVar 2) (dVar 5)) (dCons (dOp fMulI (dVar 3) (dVar 4)) dNil))))))
def sp_over : DSp := spOf 6 2 b_over
theorem fn_over {P : Program} {w : World} {K : PySem.W.Frag} {mg : Str → Option Value} {base : Heap} {f : Addr} {fd : FuncData} (T : Tz K mg) (D : DefAt K mg "over" s_over f fd) (sm : ∃ o, base.get? sysModules = some o) (O_pair_of : Ok P w K mg base 3 "pair_of" ["number"] sp_pair_of) (O_reckoned : Ok P w K mg base 2 "reckoned" ["top", "base"] sp_reckoned) : FnG P w K mg base 4 f fd ["one", "other"] sp_over :=
  Fn_ok (k := 3) (b := b_over) D.F sc_over sm fun cdv A outer s H E G => (sd_cons (sd_asg (pd_tup (pa_consD (pd_callN G (O_pair_of.mono (by decide)) (pa_consD (pd_var 0) pa_nilD)) (pa_consD (pd_callN G (O_pair_of.mono (by decide)) (pa_consD (pd_var 1) pa_nilD)) pa_nilD))) (pg_tupD G.calm (pgs_consD (pg_tupD G.calm (pgs_consD (pg_nameD (i := 2) G.nd) (pgs_consD (pg_nameD (i := 3) G.nd) pgs_nilD))) (pgs_consD (pg_tupD G.calm (pgs_consD (pg_nameD (i := 4) G.nd) (pgs_consD (pg_nameD (i := 5) G.nd) pgs_nilD))) pgs_nilD)))) (sd_cons (sd_if (pt_eq G (pd_var 4) pd_int) (sd_one sd_never) sd_nil) (sd_one (sd_ret (pd_callN G (O_reckoned.mono (by decide)) (pa_consD (pd_mulI (pd_var 2) (pd_var 5)) (pa_consD (pd_mulI (pd_var 3) (pd_var 4)) pa_nilD)))))))
theorem ok_over {P : Program} {w : World} {K : PySem.W.Frag} {mg : Str → Option Value} {base : Heap} {f : Addr} {fd : FuncData} (T : Tz K mg) (D : DefAt K mg "over" s_over f fd) (sm : ∃ o, base.get? sysModules = some o) (O_pair_of : Ok P w K mg base 3 "pair_of" ["number"] sp_pair_of) (O_reckoned : Ok P w K mg base 2 "reckoned" ["top", "base"] sp_reckoned) : Ok P w K mg base 4 "over" ["one", "other"] sp_over := ok_mk D (fn_over T D sm O_pair_of O_reckoned) (fun _ _ _ _ _ _ us hl => match us, hl with | [_, _], _ => rfl)
/-! sign_of -/
abbrev s_sign_of : Stmt := topS 16
theorem sc_sign_of : FnScope ["number", "top", "base"] ["number"] (defScope s_sign_of) := ⟨rfl, rfl, rfl, by decide +kernel, rfl, by decide +kernel, by decide +kernel⟩
def b_sign_of : DS := (sSeq (sAsg (dCall sp_pair_of [] (dCons (dVar 0) dNil)) (gTupD 2 (gConsD (gN 1) (gConsD (gN 2) gNilD)))) (sRet (dOp fSub (dB fInt (dCons (dOp fGtS (dVar 1) (dC (.int 0))) dNil)) (dB fInt (dCons (dOp fLtS (dVar 1) (dC (.int 0))) dNil)))))
def sp_sign_of : DSp := spOf 3 1 b_sign_of
theorem fn_sign_of {P : Program} {w : World} {K : PySem.W.Frag} {mg : Str → Option Value} {base : Heap} {f : Addr} {fd : FuncData} (T : Tz K mg) (D : DefAt K mg "sign_of" s_sign_of f fd) (sm : ∃ o, base.get? sysModules = some o) (O_pair_of : Ok P w K mg base 3 "pair_of" ["number"] sp_pair_of) : FnG P w K mg base 4 f fd ["number"] sp_sign_of :=
  Fn_ok (k := 3) (b := b_sign_of) D.F sc_sign_of sm fun cdv A outer s H E G => (sd_cons (sd_asg (pd_callN G (O_pair_of.mono (by decide)) (pa_consD (pd_var 0) pa_nilD)) (pg_tupD G.calm (pgs_consD (pg_nameD (i := 1) G.nd) (pgs_consD (pg_nameD (i := 2) G.nd) pgs_nilD)))) (sd_one (sd_ret (pd_sub (pd_callTy call_int1 sim_int T.z_int (pa_consD (pd_gt (pd_var 1) pd_int) pa_nilD)) (pd_callTy call_int1 sim_int T.z_int (pa_consD (pd_lt (pd_var 1) pd_int) pa_nilD))))))
theorem ok_sign_of {P : Program} {w : World} {K : PySem.W.Frag} {mg : Str → Option Value} {base : Heap} {f : Addr} {fd : FuncData} (T : Tz K mg) (D : DefAt K mg "sign_of" s_sign_of f fd) (sm : ∃ o, base.get? sysModules = some o) (O_pair_of : Ok P w K mg base 3 "pair_of" ["number"] sp_pair_of) : Ok P w K mg base 4 "sign_of" ["number"] sp_sign_of := ok_mk D (fn_sign_of T D sm O_pair_of) (fun _ _ _ _ _ _ us hl => match us, hl with | [_], _ => rfl)
/-! bare_of -/
abbrev s_bare_of : Stmt := topS 17
theorem sc_bare_of : FnScope ["number", "top", "base"] ["number"] (defScope s_bare_of) := ⟨rfl, rfl, rfl, by decide +kernel, rfl, by decide +kernel, by decide +kernel⟩
def b_bare_of : DS := (sSeq (sAsg (dCall sp_pair_of [] (dCons (dVar 0) dNil)) (gTupD 2 (gConsD (gN 1) (gConsD (gN 2) gNilD)))) (sRet (dCall sp_reckoned [] (dCons (dB fAbs (dCons (dVar 1) dNil)) (dCons (dVar 2) dNil)))))
def sp_bare_of : DSp := spOf 3 1 b_bare_of
theorem fn_bare_of {P : Program} {w : World} {K : PySem.W.Frag} {mg : Str → Option Value} {base : Heap} {f : Addr} {fd : FuncData} (T : Tz K mg) (D : DefAt K mg "bare_of" s_bare_of f fd) (sm : ∃ o, base.get? sysModules = some o) (O_pair_of : Ok P w K mg base 3 "pair_of" ["number"] sp_pair_of) (O_reckoned : Ok P w K mg base 2 "reckoned" ["top", "base"] sp_reckoned) : FnG P w K mg base 4 f fd ["number"] sp_bare_of :=
  Fn_ok (k := 3) (b := b_bare_of) D.F sc_bare_of sm fun cdv A outer s H E G => (sd_cons (sd_asg (pd_callN G (O_pair_of.mono (by decide)) (pa_consD (pd_var 0) pa_nilD)) (pg_tupD G.calm (pgs_consD (pg_nameD (i := 1) G.nd) (pgs_consD (pg_nameD (i := 2) G.nd) pgs_nilD)))) (sd_one (sd_ret (pd_callN G (O_reckoned.mono (by decide)) (pa_consD (pd_callB call_abs sim_abs T.z_abs (pa_consD (pd_var 1) pa_nilD)) (pa_consD (pd_var 2) pa_nilD))))))
theorem ok_bare_of {P : Program} {w : World} {K : PySem.W.Frag} {mg : Str → Option Value} {base : Heap} {f : Addr} {fd : FuncData} (T : Tz K mg) (D : DefAt K mg "bare_of" s_bare_of f fd) (sm : ∃ o, base.get? sysModules = some o) (O_pair_of : Ok P w K mg base 3 "pair_of" ["number"] sp_pair_of) (O_reckoned : Ok P w K mg base 2 "reckoned" ["top", "base"] sp_reckoned) : Ok P w K mg base 4 "bare_of" ["number"] sp_bare_of := ok_mk D (fn_bare_of T D sm O_pair_of O_reckoned) (fun _ _ _ _ _ _ us hl => match us, hl with | [_], _ => rfl)
/-! less -/
abbrev s_less : Stmt := topS 18
theorem sc_less : FnScope ["one", "other", "top", "base", "more", "under"] ["one", "other"] (defScope s_less) := ⟨rfl, rfl, rfl, by decide +kernel, rfl, by decide +kernel, by decide +kernel⟩
def b_less : DS := (sSeq (sAsg (dTup (dCons (dCall sp_pair_of [] (dCons (dVar 0) dNil)) (dCons (dCall sp_pair_of [] (dCons (dVar 1) dNil)) dNil))) (gTupD 2 (gConsD (gTupD 2 (gConsD (gN 2) (gConsD (gN 3) gNilD))) (gConsD (gTupD 2 (gConsD (gN 4) (gConsD (gN 5) gNilD))) gNilD)))) (sRet (dOp fLtS (dOp fMulI (dVar 2) (dVar 5)) (dOp fMulI (dVar 4) (dVar 3)))))
def sp_less : DSp := spOf 6 2 b_less
theorem fn_less {P : Program} {w : World} {K : PySem.W.Frag} {mg : Str → Option Value} {base : Heap} {f : Addr} {fd : FuncData} (T : Tz K mg) (D : DefAt K mg "less" s_less f fd) (sm : ∃ o, base.get? sysModules = some o) (O_pair_of : Ok P w K mg base 3 "pair_of" ["number"] sp_pair_of) : FnG P w K mg base 4 f fd ["one", "other"] sp_less :=
  Fn_ok (k := 3) (b := b_less) D.F sc_less sm fun cdv A outer s H E G => (sd_cons (sd_asg (pd_tup (pa_consD (pd_callN G (O_pair_of.mono (by decide)) (pa_consD (pd_var 0) pa_nilD)) (pa_consD (pd_callN G (O_pair_of.mono (by decide)) (pa_consD (pd_var 1) pa_nilD)) pa_nilD))) (pg_tupD G.calm (pgs_consD (pg_tupD G.calm (pgs_consD (pg_nameD (i := 2) G.nd) (pgs_consD (pg_nameD (i := 3) G.nd) pgs_nilD))) (pgs_consD (pg_tupD G.calm (pgs_consD (pg_nameD (i := 4) G.nd) (pgs_consD (pg_nameD (i := 5) G.nd) pgs_nilD))) pgs_nilD)))) (sd_one (sd_ret (pd_lt (pd_mulI (pd_var 2) (pd_var 5)) (pd_mulI (pd_var 4) (pd_var 3))))))
theorem ok_less {P : Program} {w : World} {K : PySem.W.Frag} {mg : Str → Option Value} {base : Heap} {f : Addr} {fd : FuncData} (T : Tz K mg) (D : DefAt K mg "less" s_less f fd) (sm : ∃ o, base.get? sysModules = some o) (O_pair_of : Ok P w K mg base 3 "pair_of" ["number"] sp_pair_of) : Ok P w K mg base 4 "less" ["one", "other"] sp_less := ok_mk D (fn_less T D sm O_pair_of) (fun _ _ _ _ _ _ us hl => match us, hl with | [_, _], _ => rfl)
/-! floor_of -/
abbrev s_floor_of : Stmt := topS 19
theorem sc_floor_of : FnScope ["number", "step", "top", "base", "more", "under"] ["number", "step"] (defScope s_floor_of) := ⟨rfl, rfl, rfl, by decide +kernel, rfl, by decide +kernel, by decide +kernel⟩
def b_floor_of : DS := (sSeq (sAsg (dTup (dCons (dCall sp_pair_of [] (dCons (dVar 0) dNil)) (dCons (dCall sp_pair_of [] (dCons (dVar 1) dNil)) dNil))) (gTupD 2 (gConsD (gTupD 2 (gConsD (gN 2) (gConsD (gN 3) gNilD))) (gConsD (gTupD 2 (gConsD (gN 4) (gConsD (gN 5) gNilD))) gNilD)))) (sSeq (sIf (tBl (dOp fLeS (dVar 4) (dC (.int 0)))) sNever sNil) (sRet (dCall sp_times [] (dCons (dVar 1) (dCons (dOp fDiv (dOp fMulI (dVar 2) (dVar 5)) (dOp fMulI (dVar 3) (dVar 4))) dNil))))))
def sp_floor_of : DSp := spOf 6 2 b_floor_of
theorem fn_floor_of {P : Program} {w : World} {K : PySem.W.Frag} {mg : Str → Option Value} {base : Heap} {f : Addr} {fd : FuncData} (T : Tz K mg) (D : DefD K mg "floor_of" s_floor_of f fd [] [("step", V.int (1))]) (sm : ∃ o, base.get? sysModules = some o) (O_pair_of : Ok P w K mg base 3 "pair_of" ["number"] sp_pair_of) (O_times : Ok P w K mg base 4 "times" ["one", "other"] sp_times) : FnG P w K mg base 5 f fd ["number", "step"] sp_floor_of :=
  Fn_okD (k := 4) (b := b_floor_of) D.F sc_floor_of sm fun cdv A outer s H E G => (sd_cons (sd_asg (pd_tup (pa_consD (pd_callN G (O_pair_of.mono (by decide)) (pa_consD (pd_var 0) pa_nilD)) (pa_consD (pd_callN G (O_pair_of.mono (by decide)) (pa_consD (pd_var 1) pa_nilD)) pa_nilD))) (pg_tupD G.calm (pgs_consD (pg_tupD G.calm (pgs_consD (pg_nameD (i := 2) G.nd) (pgs_consD (pg_nameD (i := 3) G.nd) pgs_nilD))) (pgs_consD (pg_tupD G.calm (pgs_consD (pg_nameD (i := 4) G.nd) (pgs_consD (pg_nameD (i := 5) G.nd) pgs_nilD))) pgs_nilD)))) (sd_cons (sd_if (pt_le (pd_var 4) pd_int) (sd_one sd_never) sd_nil) (sd_one (sd_ret (pd_callN G (O_times.mono (by decide)) (pa_consD (pd_var 1) (pa_consD (pd_fdiv (pd_mulI (pd_var 2) (pd_var 5)) (pd_mulI (pd_var 3) (pd_var 4))) pa_nilD)))))))
theorem okc_floor_of_1 {P : Program} {w : World} {K : PySem.W.Frag} {mg : Str → Option Value} {base : Heap} {f : Addr} {fd : FuncData} (T : Tz K mg) (D : DefD K mg "floor_of" s_floor_of f fd [] [("step", V.int (1))]) (sm : ∃ o, base.get? sysModules = some o) (O_pair_of : Ok P w K mg base 3 "pair_of" ["number"] sp_pair_of) (O_times : Ok P w K mg base 4 "times" ["one", "other"] sp_times) : OkC P w K mg base 5 "floor_of" 1 [] [0, 1] [.int (1)] sp_floor_of := okC_k D (fn_floor_of  T D sm O_pair_of O_times) [("step", V.int (1))] (by simp) (fun q hq => by rw [List.mem_singleton.mp hq]; simp) (fun _ _ => .cons (.int _) (.nil)) (fun _ _ _ _ _ _ us mv ws hl hm hk => match us, mv, ws, hl, hm, hk with | [_], [_], [], _, _, _ => ⟨_, _, _, _, _, _, rfl, rfl, rfl⟩)
/-! with_sign -/
abbrev s_with_sign : Stmt := topS 21
theorem sc_with_sign : FnScope ["size", "distance"] ["size", "distance"] (defScope s_with_sign) := ⟨rfl, rfl, rfl, by decide +kernel, rfl, by decide +kernel, by decide +kernel⟩
def b_with_sign : DS := (sRet (dIf (tBl (dOp fLtS (dCall sp_sign_of [] (dCons (dVar 1) dNil)) (dC (.int 0)))) (dCall sp_times [] (dCons (dVar 0) (dCons (dUn fNeg (dC (.int 1))) dNil))) (dVar 0)))
def sp_with_sign : DSp := spOf 2 2 b_with_sign
theorem fn_with_sign {P : Program} {w : World} {K : PySem.W.Frag} {mg : Str → Option Value} {base : Heap} {f : Addr} {fd : FuncData} (T : Tz K mg) (D : DefAt K mg "with_sign" s_with_sign f fd) (sm : ∃ o, base.get? sysModules = some o) (O_sign_of : Ok P w K mg base 4 "sign_of" ["number"] sp_sign_of) (O_times : Ok P w K mg base 4 "times" ["one", "other"] sp_times) : FnG P w K mg base 5 f fd ["size", "distance"] sp_with_sign :=
  Fn_ok (k := 4) (b := b_with_sign) D.F sc_with_sign sm fun cdv A outer s H E G => (sd_one (sd_ret (pd_if (pt_lt (pd_callN G (O_sign_of.mono (by decide)) (pa_consD (pd_var 1) pa_nilD)) pd_int) (pd_callN G (O_times.mono (by decide)) (pa_consD (pd_var 0) (pa_consD (pd_neg pd_int) pa_nilD))) (pd_var 0))))
theorem ok_with_sign {P : Program} {w : World} {K : PySem.W.Frag} {mg : Str → Option Value} {base : Heap} {f : Addr} {fd : FuncData} (T : Tz K mg) (D : DefAt K mg "with_sign" s_with_sign f fd) (sm : ∃ o, base.get? sysModules = some o) (O_sign_of : Ok P w K mg base 4 "sign_of" ["number"] sp_sign_of) (O_times : Ok P w K mg base 4 "times" ["one", "other"] sp_times) : Ok P w K mg base 5 "with_sign" ["size", "distance"] sp_with_sign := ok_mk D (fn_with_sign T D sm O_sign_of O_times) (fun _ _ _ _ _ _ us hl => match us, hl with | [_, _], _ => rfl)
/-! nearest -/
abbrev s_nearest : Stmt := topS 22
theorem sc_nearest : FnScope ["distance", "period", "phase", "size", "many"] ["distance", "period", "phase"] (defScope s_nearest) := ⟨rfl, rfl, rfl, by decide +kernel, rfl, by decide +kernel, by decide +kernel⟩
def b_nearest : DS := (sSeq (sAsg (dCall sp_bare_of [] (dCons (dVar 0) dNil)) (gN 3)) (sSeq (sAsg (dCallC sp_floor_of 1 0 [0, 1] [.int (1)] (dCons (dCall sp_plus [] (dCons (dCall sp_over [] (dCons (dCall sp_minus [] (dCons (dVar 3) (dCons (dVar 2) dNil))) (dCons (dVar 1) dNil))) (dCons (dTup (dCons (dC (.int 1)) (dCons (dC (.int 2)) dNil))) dNil))) dNil) dNil) (gN 4)) (sRet (dCall sp_with_sign [] (dCons (dCall sp_plus [] (dCons (dVar 2) (dCons (dCall sp_times [] (dCons (dVar 1) (dCons (dB fMax2 (dCons (dC (.int 0)) (dCons (dVar 4) dNil))) dNil))) dNil))) (dCons (dVar 0) dNil))))))
def sp_nearest : DSp := spOf 5 3 b_nearest
theorem fn_nearest {P : Program} {w : World} {K : PySem.W.Frag} {mg : Str → Option Value} {base : Heap} {f : Addr} {fd : FuncData} (T : Tz K mg) (D : DefAt K mg "nearest" s_nearest f fd) (sm : ∃ o, base.get? sysModules = some o) (C_floor_of_1 : OkC P w K mg base 5 "floor_of" 1 [] [0, 1] [.int (1)] sp_floor_of) (O_bare_of : Ok P w K mg base 4 "bare_of" ["number"] sp_bare_of) (O_minus : Ok P w K mg base 4 "minus" ["one", "other"] sp_minus) (O_over : Ok P w K mg base 4 "over" ["one", "other"] sp_over) (O_plus : Ok P w K mg base 4 "plus" ["one", "other"] sp_plus) (O_times : Ok P w K mg base 4 "times" ["one", "other"] sp_times) (O_with_sign : Ok P w K mg base 5 "with_sign" ["size", "distance"] sp_with_sign) : FnG P w K mg base 6 f fd ["distance", "period", "phase"] sp_nearest :=
  Fn_ok (k := 5) (b := b_nearest) D.F sc_nearest sm fun cdv A outer s H E G => (sd_cons (sd_set 3 G.nd (pd_callN G (O_bare_of.mono (by decide)) (pa_consD (pd_var 0) pa_nilD))) (sd_cons (sd_set 4 G.nd (pd_callC G (C_floor_of_1.mono (by decide)) (pa_consD (pd_callN G (O_plus.mono (by decide)) (pa_consD (pd_callN G (O_over.mono (by decide)) (pa_consD (pd_callN G (O_minus.mono (by decide)) (pa_consD (pd_var 3) (pa_consD (pd_var 2) pa_nilD))) (pa_consD (pd_var 1) pa_nilD))) (pa_consD (pd_tup (pa_consD pd_int (pa_consD pd_int pa_nilD))) pa_nilD))) pa_nilD))) (sd_one (sd_ret (pd_callN G (O_with_sign.mono (by decide)) (pa_consD (pd_callN G (O_plus.mono (by decide)) (pa_consD (pd_var 2) (pa_consD (pd_callN G (O_times.mono (by decide)) (pa_consD (pd_var 1) (pa_consD (pd_callB (call_max2 G.calm) sim_max2 T.z_max (pa_consD pd_int (pa_consD (pd_var 4) pa_nilD))) pa_nilD))) pa_nilD))) (pa_consD (pd_var 0) pa_nilD)))))))
theorem ok_nearest {P : Program} {w : World} {K : PySem.W.Frag} {mg : Str → Option Value} {base : Heap} {f : Addr} {fd : FuncData} (T : Tz K mg) (D : DefAt K mg "nearest" s_nearest f fd) (sm : ∃ o, base.get? sysModules = some o) (C_floor_of_1 : OkC P w K mg base 5 "floor_of" 1 [] [0, 1] [.int (1)] sp_floor_of) (O_bare_of : Ok P w K mg base 4 "bare_of" ["number"] sp_bare_of) (O_minus : Ok P w K mg base 4 "minus" ["one", "other"] sp_minus) (O_over : Ok P w K mg base 4 "over" ["one", "other"] sp_over) (O_plus : Ok P w K mg base 4 "plus" ["one", "other"] sp_plus) (O_times : Ok P w K mg base 4 "times" ["one", "other"] sp_times) (O_with_sign : Ok P w K mg base 5 "with_sign" ["size", "distance"] sp_with_sign) : Ok P w K mg base 6 "nearest" ["distance", "period", "phase"] sp_nearest := ok_mk D (fn_nearest T D sm C_floor_of_1 O_bare_of O_minus O_over O_plus O_times O_with_sign) (fun _ _ _ _ _ _ us hl => match us, hl with | [_, _, _], _ => rfl)
/-! by_period -/
abbrev s_by_period : Stmt := topS 23
theorem sc_by_period : FnScope ["period", "phase"] ["period", "phase"] (defScope s_by_period) := ⟨rfl, rfl, rfl, by decide +kernel, rfl, by decide +kernel, by decide +kernel⟩
abbrev e_by_period_0 : Expr := (stV (stAt 2 (defBody s_by_period)))
theorem ns_by_period_0 : NdefX.NScope ["distance", "period", "phase"] ["distance"] ["period", "phase"] (lamS e_by_period_0) := NdefX.nscope_by (by decide +kernel)
def bl_by_period_0 : DE := (dCall sp_nearest [] (dCons (dVar 0) (dCons (dVar 1) (dCons (dVar 2) dNil))))
def spl_by_period_0 : DSp := spLam 3 3 bl_by_period_0
theorem fl_by_period_0 {P : Program} {w : World} {K : PySem.W.Frag} {mg : Str → Option Value} {base : Heap} (T : Tz K mg) (sm : ∃ o, base.get? sysModules = some o) (O_nearest : Ok P w K mg base 6 "nearest" ["distance", "period", "phase"] sp_nearest) : FnLam P w K mg base 7 ⟨lamQ "by_period", lamP e_by_period_0, lamB e_by_period_0, lamS e_by_period_0⟩ ["distance"] ["period", "phase"] spl_by_period_0 :=
  lam_ok (k := 6) (N := ["distance", "period", "phase"]) (ps := ["distance"]) (fr := ["period", "phase"]) (L := ⟨lamQ "by_period", lamP e_by_period_0, lamB e_by_period_0, lamS e_by_period_0⟩) (b := bl_by_period_0) ns_by_period_0 sm (fun _ _ _ _ us hl => match us, hl with | [_], _ => rfl) fun cl c' a A outer s H E G => (pd_callN G (O_nearest.mono (by decide)) (pa_consD (pd_var 0) (pa_consD (pd_var 1) (pa_consD (pd_var 2) pa_nilD))))
def b_by_period : DLm := (lSeq (sIf (tOrD (tNotD (tTru (dCall sp_is_number [] (dCons (dVar 0) dNil)))) (tBl (dOp fLeS (dCall sp_sign_of [] (dCons (dVar 0) dNil)) (dC (.int 0))))) sNever sNil) (lSeq (sIf (tOrD (tNotD (tTru (dCall sp_is_number [] (dCons (dVar 1) dNil)))) (tOrD (tBl (dOp fLtS (dCall sp_sign_of [] (dCons (dVar 1) dNil)) (dC (.int 0)))) (tNotD (tTru (dCall sp_less [] (dCons (dVar 1) (dCons (dVar 0) dNil))))))) sNever sNil) (lRet "by_period" ["period", "phase"] [0, 1])))
def sp_by_period : DSp := spLm 2 2 b_by_period
theorem fn_by_period {P : Program} {w : World} {K : PySem.W.Frag} {mg : Str → Option Value} {base : Heap} {f : Addr} {fd : FuncData} (T : Tz K mg) (D : DefD K mg "by_period" s_by_period f fd [V.int (0)] []) (sm : ∃ o, base.get? sysModules = some o) (L_by_period : LamOf ⟨K, mg⟩ "by_period" (lamP e_by_period_0) (lamB e_by_period_0) (lamS e_by_period_0)) (O_is_number : Ok P w K mg base 3 "is_number" ["thing"] sp_is_number) (O_less : Ok P w K mg base 4 "less" ["one", "other"] sp_less) (O_sign_of : Ok P w K mg base 4 "sign_of" ["number"] sp_sign_of) {tc_by_period tP_by_period : Addr} (TD_by_period : TabD K mg "by_period" tc_by_period tP_by_period) (TB_by_period : LamX.TabB base mg tc_by_period tP_by_period) : FnG P w K mg base 5 f fd ["period", "phase"] sp_by_period :=
  Fn_okLm (k := 4) (b := b_by_period) D sc_by_period sm TD_by_period fun A outer s H E G => (pls_cons rfl (sd_if (PW.pt (pw_orD (pt_notD (pt_truD (pd_callN G (O_is_number.mono (by decide)) (pa_consD (pd_var 0) pa_nilD)))) (pw_or1D (pt_le (pd_callN G (O_sign_of.mono (by decide)) (pa_consD (pd_var 0) pa_nilD)) pd_int)))) (sd_one sd_never) sd_nil) (pls_cons rfl (sd_if (PW.pt (pw_orD (pt_notD (pt_truD (pd_callN G (O_is_number.mono (by decide)) (pa_consD (pd_var 1) pa_nilD)))) (pw_orD (pt_lt (pd_callN G (O_sign_of.mono (by decide)) (pa_consD (pd_var 1) pa_nilD)) pd_int) (pw_or1D (pt_notD (pt_truD (pd_callN G (O_less.mono (by decide)) (pa_consD (pd_var 1) (pa_consD (pd_var 0) pa_nilD))))))))) (sd_one sd_never) sd_nil) (pls_lam rfl TB_by_period rfl TD_by_period.is L_by_period rfl (by rfl) rfl)))
theorem okc_by_period_2 {P : Program} {w : World} {K : PySem.W.Frag} {mg : Str → Option Value} {base : Heap} {f : Addr} {fd : FuncData} (T : Tz K mg) (D : DefD K mg "by_period" s_by_period f fd [V.int (0)] []) (sm : ∃ o, base.get? sysModules = some o) (L_by_period : LamOf ⟨K, mg⟩ "by_period" (lamP e_by_period_0) (lamB e_by_period_0) (lamS e_by_period_0)) (O_is_number : Ok P w K mg base 3 "is_number" ["thing"] sp_is_number) (O_less : Ok P w K mg base 4 "less" ["one", "other"] sp_less) (O_sign_of : Ok P w K mg base 4 "sign_of" ["number"] sp_sign_of) {tc_by_period tP_by_period : Addr} (TD_by_period : TabD K mg "by_period" tc_by_period tP_by_period) (TB_by_period : LamX.TabB base mg tc_by_period tP_by_period) : OkC P w K mg base 5 "by_period" 2 [] [0, 1] [.int (0)] sp_by_period := okC_d D (fn_by_period  T D sm L_by_period O_is_number O_less O_sign_of TD_by_period TB_by_period) (by simp) (fun _ _ => .cons (.int _) (.nil)) (fun _ _ _ _ _ _ _ us its ws hl hi hk => match us, its, ws, hl, hi, hk with | [_, _], [_], [], _, _, _ => ⟨_, rfl, rfl⟩)
theorem okc_by_period_1 {P : Program} {w : World} {K : PySem.W.Frag} {mg : Str → Option Value} {base : Heap} {f : Addr} {fd : FuncData} (T : Tz K mg) (D : DefD K mg "by_period" s_by_period f fd [V.int (0)] []) (sm : ∃ o, base.get? sysModules = some o) (L_by_period : LamOf ⟨K, mg⟩ "by_period" (lamP e_by_period_0) (lamB e_by_period_0) (lamS e_by_period_0)) (O_is_number : Ok P w K mg base 3 "is_number" ["thing"] sp_is_number) (O_less : Ok P w K mg base 4 "less" ["one", "other"] sp_less) (O_sign_of : Ok P w K mg base 4 "sign_of" ["number"] sp_sign_of) {tc_by_period tP_by_period : Addr} (TD_by_period : TabD K mg "by_period" tc_by_period tP_by_period) (TB_by_period : LamX.TabB base mg tc_by_period tP_by_period) : OkC P w K mg base 5 "by_period" 1 [] [0, 1] [.int (0)] sp_by_period := okC_d D (fn_by_period  T D sm L_by_period O_is_number O_less O_sign_of TD_by_period TB_by_period) (by simp) (fun _ _ => .cons (.int _) (.nil)) (fun _ _ _ _ _ _ _ us its ws hl hi hk => match us, its, ws, hl, hi, hk with | [_], [_], [], _, _, _ => ⟨_, rfl, rfl⟩)
theorem okc_by_period_0_phase_period {P : Program} {w : World} {K : PySem.W.Frag} {mg : Str → Option Value} {base : Heap} {f : Addr} {fd : FuncData} (T : Tz K mg) (D : DefD K mg "by_period" s_by_period f fd [V.int (0)] []) (sm : ∃ o, base.get? sysModules = some o) (L_by_period : LamOf ⟨K, mg⟩ "by_period" (lamP e_by_period_0) (lamB e_by_period_0) (lamS e_by_period_0)) (O_is_number : Ok P w K mg base 3 "is_number" ["thing"] sp_is_number) (O_less : Ok P w K mg base 4 "less" ["one", "other"] sp_less) (O_sign_of : Ok P w K mg base 4 "sign_of" ["number"] sp_sign_of) {tc_by_period tP_by_period : Addr} (TD_by_period : TabD K mg "by_period" tc_by_period tP_by_period) (TB_by_period : LamX.TabB base mg tc_by_period tP_by_period) : OkC P w K mg base 5 "by_period" 0 ["phase", "period"] [1, 0] [.int (0)] sp_by_period := okC_d D (fn_by_period  T D sm L_by_period O_is_number O_less O_sign_of TD_by_period TB_by_period) (by simp) (fun _ _ => .cons (.int _) (.nil)) (fun _ _ _ _ _ _ _ us its ws hl hi hk => match us, its, ws, hl, hi, hk with | [], [_], [_, _], _, _, _ => ⟨_, rfl, rfl⟩)
/-! _law_cell -/
abbrev s__law_cell : Stmt := topS 25
theorem sc__law_cell : FnScope ["_law_script", "_law_k"] ["_law_script", "_law_k"] (defScope s__law_cell) := ⟨rfl, rfl, rfl, by decide +kernel, rfl, by decide +kernel, by decide +kernel⟩
def b__law_cell : DS := (sSeq (sIf (tBl (dOp fLtS (dVar 1) (dB fLen (dCons (dVar 0) dNil)))) (sRet (dOp fIx (dVar 0) (dVar 1))) sNil) (sRet (dOp (fAdd false) (dOp fMulI (dC (.int 160481183)) (dVar 1)) (dC (.int 79)))))
def sp__law_cell : DSp := spOf 2 2 b__law_cell
theorem fn__law_cell {P : Program} {w : World} {K : PySem.W.Frag} {mg : Str → Option Value} {base : Heap} {f : Addr} {fd : FuncData} (T : Tz K mg) (D : DefAt K mg "_law_cell" s__law_cell f fd) (sm : ∃ o, base.get? sysModules = some o)  : FnG P w K mg base 1 f fd ["_law_script", "_law_k"] sp__law_cell :=
  Fn_ok (k := 0) (b := b__law_cell) D.F sc__law_cell sm fun cdv A outer s H E G => (sd_cons (sd_if (pt_lt (pd_var 1) (pd_callB call_len sim_len T.z_len (pa_consD (pd_var 0) pa_nilD))) (sd_one (sd_ret (pd_ix (pd_var 0) (pd_var 1)))) sd_nil) (sd_one (sd_ret (pd_add false (pd_mulI pd_int (pd_var 1)) pd_int))))
theorem ok__law_cell {P : Program} {w : World} {K : PySem.W.Frag} {mg : Str → Option Value} {base : Heap} {f : Addr} {fd : FuncData} (T : Tz K mg) (D : DefAt K mg "_law_cell" s__law_cell f fd) (sm : ∃ o, base.get? sysModules = some o)  : Ok P w K mg base 1 "_law_cell" ["_law_script", "_law_k"] sp__law_cell := ok_mk D (fn__law_cell T D sm ) (fun _ _ _ _ _ _ us hl => match us, hl with | [_, _], _ => rfl)
/-! _law_box -/
abbrev s__law_box : Stmt := topS 26
theorem sc__law_box : FnScope ["_law_cell_here"] ["_law_cell_here"] (defScope s__law_box) := ⟨rfl, rfl, rfl, by decide +kernel, rfl, by decide +kernel, by decide +kernel⟩
def b__law_box : DS := (sRet (dLst true (dCons (dB fMax2 (dCons (dC (.int 0)) (dCons (dOp fSub (dVar 0) (dOp fPow (dC (.int 10)) (dC (.int 18)))) dNil))) (dCons (dOp fMod (dVar 0) (dC (.int 2147483629))) (dCons (dC (.int 0)) dNil)))))
def sp__law_box : DSp := spOf 1 1 b__law_box
theorem fn__law_box {P : Program} {w : World} {K : PySem.W.Frag} {mg : Str → Option Value} {base : Heap} {f : Addr} {fd : FuncData} (T : Tz K mg) (D : DefAt K mg "_law_box" s__law_box f fd) (sm : ∃ o, base.get? sysModules = some o)  : FnG P w K mg base 1 f fd ["_law_cell_here"] sp__law_box :=
  Fn_ok (k := 0) (b := b__law_box) D.F sc__law_box sm fun cdv A outer s H E G => (sd_one (sd_ret (pd_lst true (pa_consD (pd_callB (call_max2 G.calm) sim_max2 T.z_max (pa_consD pd_int (pa_consD (pd_sub (pd_var 0) (pd_pow pd_int pd_int)) pa_nilD))) (pa_consD (pd_mod (pd_var 0) pd_int) (pa_consD pd_int pa_nilD))))))
theorem ok__law_box {P : Program} {w : World} {K : PySem.W.Frag} {mg : Str → Option Value} {base : Heap} {f : Addr} {fd : FuncData} (T : Tz K mg) (D : DefAt K mg "_law_box" s__law_box f fd) (sm : ∃ o, base.get? sysModules = some o)  : Ok P w K mg base 1 "_law_box" ["_law_cell_here"] sp__law_box := ok_mk D (fn__law_box T D sm ) (fun _ _ _ _ _ _ us hl => match us, hl with | [_], _ => rfl)
/-! _law_take -/
abbrev s__law_take : Stmt := topS 27
theorem sc__law_take : FnScope ["_law_box_here", "_law_many", "_law_digit", "_law_number_here"] ["_law_box_here", "_law_many"] (defScope s__law_take) := ⟨rfl, rfl, rfl, by decide +kernel, rfl, by decide +kernel, by decide +kernel⟩
def b__law_take : DS := (sSeq (sIf (tBl (dOp fGtS (dOp fIx (dVar 0) (dC (.int 0))) (dC (.int 0)))) (sSeq (sAsg (dOp fMod (dOp fIx (dVar 0) (dC (.int 0))) (dVar 1)) (gN 2)) (sSeq (sAsg (dOp fDiv (dOp fIx (dVar 0) (dC (.int 0))) (dVar 1)) (gSubD (dVar 0) (dC (.int 0)) fSet)) (sRet (dVar 2)))) sNil) (sSeq (sAsg (dOp (fAdd false) (dOp fIx (dVar 0) (dC (.int 2))) (dC (.int 1))) (gSubD (dVar 0) (dC (.int 2)) fSet)) (sSeq (sAsg (dOp fMod (dOp fPow (dOp (fAdd false) (dOp (fAdd false) (dOp fIx (dVar 0) (dC (.int 1))) (dOp fMulI (dC (.int 7207)) (dOp fIx (dVar 0) (dC (.int 2))))) (dC (.int 83))) (dC (.int 5))) (dC (.int 2147483647))) (gN 3)) (sSeq (sAsg (dOp fMod (dOp fPow (dOp (fAdd false) (dVar 3) (dOp fMulI (dC (.int 92849)) (dOp fIx (dVar 0) (dC (.int 2))))) (dC (.int 3))) (dC (.int 2147483587))) (gN 3)) (sRet (dOp fMod (dOp fDiv (dVar 3) (dC (.int 16))) (dVar 1)))))))
def sp__law_take : DSp := spOf 4 2 b__law_take
theorem fn__law_take {P : Program} {w : World} {K : PySem.W.Frag} {mg : Str → Option Value} {base : Heap} {f : Addr} {fd : FuncData} (T : Tz K mg) (D : DefAt K mg "_law_take" s__law_take f fd) (sm : ∃ o, base.get? sysModules = some o)  : FnG P w K mg base 1 f fd ["_law_box_here", "_law_many"] sp__law_take :=
  Fn_ok (k := 0) (b := b__law_take) D.F sc__law_take sm fun cdv A outer s H E G => (sd_cons (sd_if (pt_gt (pd_ix (pd_var 0) pd_int) pd_int) (sd_cons (sd_set 2 G.nd (pd_mod (pd_ix (pd_var 0) pd_int) (pd_var 1))) (sd_cons (sd_asg (pd_fdiv (pd_ix (pd_var 0) pd_int) (pd_var 1)) (pg_subD (pd_var 0) pd_int)) (sd_one (sd_ret (pd_var 2))))) sd_nil) (sd_cons (sd_asg (pd_add false (pd_ix (pd_var 0) pd_int) pd_int) (pg_subD (pd_var 0) pd_int)) (sd_cons (sd_set 3 G.nd (pd_mod (pd_pow (pd_add false (pd_add false (pd_ix (pd_var 0) pd_int) (pd_mulI pd_int (pd_ix (pd_var 0) pd_int))) pd_int) pd_int) pd_int)) (sd_cons (sd_set 3 G.nd (pd_mod (pd_pow (pd_add false (pd_var 3) (pd_mulI pd_int (pd_ix (pd_var 0) pd_int))) pd_int) pd_int)) (sd_one (sd_ret (pd_mod (pd_fdiv (pd_var 3) pd_int) (pd_var 1))))))))
theorem ok__law_take {P : Program} {w : World} {K : PySem.W.Frag} {mg : Str → Option Value} {base : Heap} {f : Addr} {fd : FuncData} (T : Tz K mg) (D : DefAt K mg "_law_take" s__law_take f fd) (sm : ∃ o, base.get? sysModules = some o)  : Ok P w K mg base 1 "_law_take" ["_law_box_here", "_law_many"] sp__law_take := ok_mk D (fn__law_take T D sm ) (fun _ _ _ _ _ _ us hl => match us, hl with | [_, _], _ => rfl)
/-! _law_far -/
abbrev s__law_far : Stmt := topS 28
theorem sc__law_far : FnScope ["_law_box_here", "_law_number_here", "_law_k"] ["_law_box_here"] (defScope s__law_far) := ⟨rfl, rfl, rfl, by decide +kernel, rfl, by decide +kernel, by decide +kernel⟩
def b__law_far : DS := (sSeq (sAsg (dC (.int 0)) (gN 1)) (sSeq (sFor (iRange1 (dCons (dOp (fAdd false) (dC (.int 1)) (dCall sp__law_take [] (dCons (dVar 0) (dCons (dC (.int 10)) dNil)))) dNil)) (gN 2) (sAsg (dOp (fAdd false) (dOp fMulI (dC (.int 1000)) (dVar 1)) (dCall sp__law_take [] (dCons (dVar 0) (dCons (dC (.int 1000)) dNil)))) (gN 1))) (sRet (dOp fIx (dLst false (dCons (dVar 1) (dCons (dOp fSub (dC (.int 0)) (dVar 1)) (dCons (dOp fSub (dOp fMod (dVar 1) (dC (.int 1000))) (dC (.int 500))) dNil)))) (dCall sp__law_take [] (dCons (dVar 0) (dCons (dC (.int 3)) dNil)))))))
def sp__law_far : DSp := spOf 3 1 b__law_far
theorem fn__law_far {P : Program} {w : World} {K : PySem.W.Frag} {mg : Str → Option Value} {base : Heap} {f : Addr} {fd : FuncData} (T : Tz K mg) (D : DefAt K mg "_law_far" s__law_far f fd) (sm : ∃ o, base.get? sysModules = some o) (O__law_take : Ok P w K mg base 1 "_law_take" ["_law_box_here", "_law_many"] sp__law_take) : FnG P w K mg base 2 f fd ["_law_box_here"] sp__law_far :=
  Fn_ok (k := 1) (b := b__law_far) D.F sc__law_far sm fun cdv A outer s H E G => (sd_cons (sd_set 1 G.nd pd_int) (sd_cons (sd_for G (pi_range1D T.z_range (pa_consD (pd_add false pd_int (pd_callN G (O__law_take.mono (by decide)) (pa_consD (pd_var 0) (pa_consD pd_int pa_nilD)))) pa_nilD)) (pg_nameD (i := 2) G.nd) (sd_one (sd_set 1 G.nd (pd_add false (pd_mulI pd_int (pd_var 1)) (pd_callN G (O__law_take.mono (by decide)) (pa_consD (pd_var 0) (pa_consD pd_int pa_nilD))))))) (sd_one (sd_ret (pd_ix (pd_lst false (pa_consD (pd_var 1) (pa_consD (pd_sub pd_int (pd_var 1)) (pa_consD (pd_sub (pd_mod (pd_var 1) pd_int) pd_int) pa_nilD)))) (pd_callN G (O__law_take.mono (by decide)) (pa_consD (pd_var 0) (pa_consD pd_int pa_nilD))))))))
theorem ok__law_far {P : Program} {w : World} {K : PySem.W.Frag} {mg : Str → Option Value} {base : Heap} {f : Addr} {fd : FuncData} (T : Tz K mg) (D : DefAt K mg "_law_far" s__law_far f fd) (sm : ∃ o, base.get? sysModules = some o) (O__law_take : Ok P w K mg base 1 "_law_take" ["_law_box_here", "_law_many"] sp__law_take) : Ok P w K mg base 2 "_law_far" ["_law_box_here"] sp__law_far := ok_mk D (fn__law_far T D sm O__law_take) (fun _ _ _ _ _ _ us hl => match us, hl with | [_], _ => rfl)
/-! _law_number -/
abbrev s__law_number : Stmt := topS 29
theorem sc__law_number : FnScope ["_law_upper", "_law_lower", "_law_left", "_law_right_here"] ["_law_upper", "_law_lower"] (defScope s__law_number) := ⟨rfl, rfl, rfl, by decide +kernel, rfl, by decide +kernel, by decide +kernel⟩
def b__law_number : DS := (sSeq (sPar 2 3 (dCons (dB fAbs (dCons (dVar 0) dNil)) (dCons (dB fAbs (dCons (dVar 1) dNil)) dNil))) (sSeq (sWhile (tBl (dOp fNe (dVar 3) (dC (.int 0)))) (sPar 2 3 (dCons (dVar 3) (dCons (dOp fMod (dVar 2) (dVar 3)) dNil)))) (sSeq (sIf (tBl (dOp fLtS (dVar 1) (dC (.int 0)))) (sAsg (dOp fSub (dC (.int 0)) (dVar 2)) (gN 2)) sNil) (sRet (dIf (tBl (dOp fEq (dOp fDiv (dVar 1) (dVar 2)) (dC (.int 1)))) (dOp fDiv (dVar 0) (dVar 2)) (dTup (dCons (dOp fDiv (dVar 0) (dVar 2)) (dCons (dOp fDiv (dVar 1) (dVar 2)) dNil))))))))
def sp__law_number : DSp := spOf 4 2 b__law_number
theorem fn__law_number {P : Program} {w : World} {K : PySem.W.Frag} {mg : Str → Option Value} {base : Heap} {f : Addr} {fd : FuncData} (T : Tz K mg) (D : DefAt K mg "_law_number" s__law_number f fd) (sm : ∃ o, base.get? sysModules = some o)  : FnG P w K mg base 1 f fd ["_law_upper", "_law_lower"] sp__law_number :=
  Fn_ok (k := 0) (b := b__law_number) D.F sc__law_number sm fun cdv A outer s H E G => (sd_cons (sd_par 2 3 (fun _ h => ps_par G.calm G.nd rfl rfl (by decide) rfl rfl h (by rfl)) (pa_consD (pd_callB call_abs sim_abs T.z_abs (pa_consD (pd_var 0) pa_nilD)) (pa_consD (pd_callB call_abs sim_abs T.z_abs (pa_consD (pd_var 1) pa_nilD)) pa_nilD))) (sd_cons (sd_while G (pt_ne G (pd_var 3) pd_int) (sd_one (sd_par 2 3 (fun _ h => ps_par G.calm G.nd rfl rfl (by decide) rfl rfl h (by rfl)) (pa_consD (pd_var 3) (pa_consD (pd_mod (pd_var 2) (pd_var 3)) pa_nilD))))) (sd_cons (sd_if (pt_lt (pd_var 1) pd_int) (sd_one (sd_set 2 G.nd (pd_sub pd_int (pd_var 2)))) sd_nil) (sd_one (sd_ret (pd_if (pt_eq G (pd_fdiv (pd_var 1) (pd_var 2)) pd_int) (pd_fdiv (pd_var 0) (pd_var 2)) (pd_tup (pa_consD (pd_fdiv (pd_var 0) (pd_var 2)) (pa_consD (pd_fdiv (pd_var 1) (pd_var 2)) pa_nilD)))))))))
theorem ok__law_number {P : Program} {w : World} {K : PySem.W.Frag} {mg : Str → Option Value} {base : Heap} {f : Addr} {fd : FuncData} (T : Tz K mg) (D : DefAt K mg "_law_number" s__law_number f fd) (sm : ∃ o, base.get? sysModules = some o)  : Ok P w K mg base 1 "_law_number" ["_law_upper", "_law_lower"] sp__law_number := ok_mk D (fn__law_number T D sm ) (fun _ _ _ _ _ _ us hl => match us, hl with | [_, _], _ => rfl)
/-! _law_pair -/
abbrev s__law_pair : Stmt := topS 30
theorem sc__law_pair : FnScope ["_law_number_here"] ["_law_number_here"] (defScope s__law_pair) := ⟨rfl, rfl, rfl, by decide +kernel, rfl, by decide +kernel, by decide +kernel⟩
def b__law_pair : DS := (sRet (dIf (tTru (dB (fIsi kt) (dCons (dVar 0) (dCons (dC (.ty "tuple")) dNil)))) (dVar 0) (dTup (dCons (dVar 0) (dCons (dC (.int 1)) dNil)))))
def sp__law_pair : DSp := spOf 1 1 b__law_pair
theorem fn__law_pair {P : Program} {w : World} {K : PySem.W.Frag} {mg : Str → Option Value} {base : Heap} {f : Addr} {fd : FuncData} (T : Tz K mg) (D : DefAt K mg "_law_pair" s__law_pair f fd) (sm : ∃ o, base.get? sysModules = some o)  : FnG P w K mg base 1 f fd ["_law_number_here"] sp__law_pair :=
  Fn_ok (k := 0) (b := b__law_pair) D.F sc__law_pair sm fun cdv A outer s H E G => (sd_one (sd_ret (pd_if (pt_truD (pd_callB (call_isiD T.kit) sim_isi T.z_isinstance (pa_consD (pd_var 0) (pa_consD (pd_tyName T.z_tuple) pa_nilD)))) (pd_var 0) (pd_tup (pa_consD (pd_var 0) (pa_consD pd_int pa_nilD))))))
theorem ok__law_pair {P : Program} {w : World} {K : PySem.W.Frag} {mg : Str → Option Value} {base : Heap} {f : Addr} {fd : FuncData} (T : Tz K mg) (D : DefAt K mg "_law_pair" s__law_pair f fd) (sm : ∃ o, base.get? sysModules = some o)  : Ok P w K mg base 1 "_law_pair" ["_law_number_here"] sp__law_pair := ok_mk D (fn__law_pair T D sm ) (fun _ _ _ _ _ _ us hl => match us, hl with | [_], _ => rfl)
/-! _law_is -/
abbrev s__law_is : Stmt := topS 31
theorem sc__law_is : FnScope ["_law_found", "_law_due"] ["_law_found", "_law_due"] (defScope s__law_is) := ⟨rfl, rfl, rfl, by decide +kernel, rfl, by decide +kernel, by decide +kernel⟩
def b__law_is (r : DSp) : DS := (sSeq (sIf (tTru (dB (fIsi kt) (dCons (dVar 1) (dCons (dC (.ty "tuple")) dNil)))) (sRet (dAnd (dB (fIsi kt) (dCons (dVar 0) (dCons (dC (.ty "tuple")) dNil))) (dAnd (dOp fEq (dVar 0) (dVar 1)) (dAnd (dCall r [] (dCons (dOp fIx (dVar 0) (dC (.int 0))) (dCons (dOp fIx (dVar 1) (dC (.int 0))) dNil))) (dCall r [] (dCons (dOp fIx (dVar 0) (dC (.int 1))) (dCons (dOp fIx (dVar 1) (dC (.int 1))) dNil))))))) sNil) (sRet (dAnd (dB (fIsi kt) (dCons (dVar 0) (dCons (dC (.ty "int")) dNil))) (dAnd (dNot (dB (fIsi kt) (dCons (dVar 0) (dCons (dC (.ty "bool")) dNil)))) (dOp fEq (dVar 0) (dVar 1))))))
def sp__law_is : Nat → DSp
  | 0 => fun _ _ _ _ => False
  | n + 1 => spOf 2 2 (b__law_is (sp__law_is n))
theorem fn__law_is {P : Program} {w : World} {K : PySem.W.Frag} {mg : Str → Option Value} {base : Heap} {f : Addr} {fd : FuncData} (T : Tz K mg) (D : DefAt K mg "_law_is" s__law_is f fd) (sm : ∃ o, base.get? sysModules = some o)  : ∀ n : Nat, FnG P w K mg base (0 + n) f fd ["_law_found", "_law_due"] (sp__law_is n)
  | 0 => fnG_no
  | n + 1 => by
    have O__law_is : Ok P w K mg base (0 + n) "_law_is" ["_law_found", "_law_due"] (sp__law_is n) := ok_mk D (fn__law_is T D sm  n) (fun _ _ _ _ _ _ us hl => match us, hl with | [_, _], _ => rfl)
    exact Fn_ok (k := 0 + n) (b := b__law_is (sp__law_is n)) D.F sc__law_is sm fun cdv A outer s H E G => (sd_cons (sd_if (pt_truD (pd_callB (call_isiD T.kit) sim_isi T.z_isinstance (pa_consD (pd_var 1) (pa_consD (pd_tyName T.z_tuple) pa_nilD)))) (sd_one (sd_ret (pd_and (pd_callB (call_isiD T.kit) sim_isi T.z_isinstance (pa_consD (pd_var 0) (pa_consD (pd_tyName T.z_tuple) pa_nilD))) (pd_and (pd_eq G (pd_var 0) (pd_var 1)) (pd_and (pd_callN G (O__law_is.mono (by omega)) (pa_consD (pd_ix (pd_var 0) pd_int) (pa_consD (pd_ix (pd_var 1) pd_int) pa_nilD))) (pd_one (pd_callN G (O__law_is.mono (by omega)) (pa_consD (pd_ix (pd_var 0) pd_int) (pa_consD (pd_ix (pd_var 1) pd_int) pa_nilD))))))))) sd_nil) (sd_one (sd_ret (pd_and (pd_callB (call_isiD T.kit) sim_isi T.z_isinstance (pa_consD (pd_var 0) (pa_consD (pd_tyName T.z_int) pa_nilD))) (pd_and (pd_not (pd_callB (call_isiD T.kit) sim_isi T.z_isinstance (pa_consD (pd_var 0) (pa_consD (pd_tyName T.z_bool) pa_nilD)))) (pd_one (pd_eq G (pd_var 0) (pd_var 1))))))))
theorem ok__law_is {P : Program} {w : World} {K : PySem.W.Frag} {mg : Str → Option Value} {base : Heap} {f : Addr} {fd : FuncData} (T : Tz K mg) (D : DefAt K mg "_law_is" s__law_is f fd) (sm : ∃ o, base.get? sysModules = some o)  : Ok P w K mg base 2 "_law_is" ["_law_found", "_law_due"] (sp__law_is 2) := ok_mk D (fn__law_is T D sm  2) (fun _ _ _ _ _ _ us hl => match us, hl with | [_, _], _ => rfl)
/-! _law_drawn -/
abbrev s__law_drawn : Stmt := topS 32
theorem sc__law_drawn : FnScope ["_law_box_here", "_law_upper", "_law_lower"] ["_law_box_here"] (defScope s__law_drawn) := ⟨rfl, rfl, rfl, by decide +kernel, rfl, by decide +kernel, by decide +kernel⟩
def b__law_drawn : DS := (sSeq (sAsg (dOp fIx (dLst false (dCons (dOp fSub (dCall sp__law_take [] (dCons (dVar 0) (dCons (dC (.int 41)) dNil))) (dC (.int 20))) (dCons (dCall sp__law_far [] (dCons (dVar 0) dNil)) dNil))) (dCall sp__law_take [] (dCons (dVar 0) (dCons (dC (.int 2)) dNil)))) (gN 1)) (sSeq (sAsg (dOp fIx (dLst false (dCons (dC (.int 1)) (dCons (dC (.int 1)) (dCons (dOp (fAdd false) (dC (.int 1)) (dCall sp__law_take [] (dCons (dVar 0) (dCons (dC (.int 12)) dNil)))) (dCons (dOp (fAdd false) (dC (.int 1)) (dB fAbs (dCons (dCall sp__law_far [] (dCons (dVar 0) dNil)) dNil))) dNil))))) (dCall sp__law_take [] (dCons (dVar 0) (dCons (dC (.int 4)) dNil)))) (gN 2)) (sRet (dCall sp__law_number [] (dCons (dVar 1) (dCons (dVar 2) dNil))))))
def sp__law_drawn : DSp := spOf 3 1 b__law_drawn
theorem fn__law_drawn {P : Program} {w : World} {K : PySem.W.Frag} {mg : Str → Option Value} {base : Heap} {f : Addr} {fd : FuncData} (T : Tz K mg) (D : DefAt K mg "_law_drawn" s__law_drawn f fd) (sm : ∃ o, base.get? sysModules = some o) (O__law_far : Ok P w K mg base 2 "_law_far" ["_law_box_here"] sp__law_far) (O__law_number : Ok P w K mg base 1 "_law_number" ["_law_upper", "_law_lower"] sp__law_number) (O__law_take : Ok P w K mg base 1 "_law_take" ["_law_box_here", "_law_many"] sp__law_take) : FnG P w K mg base 3 f fd ["_law_box_here"] sp__law_drawn :=
  Fn_ok (k := 2) (b := b__law_drawn) D.F sc__law_drawn sm fun cdv A outer s H E G => (sd_cons (sd_set 1 G.nd (pd_ix (pd_lst false (pa_consD (pd_sub (pd_callN G (O__law_take.mono (by decide)) (pa_consD (pd_var 0) (pa_consD pd_int pa_nilD))) pd_int) (pa_consD (pd_callN G (O__law_far.mono (by decide)) (pa_consD (pd_var 0) pa_nilD)) pa_nilD))) (pd_callN G (O__law_take.mono (by decide)) (pa_consD (pd_var 0) (pa_consD pd_int pa_nilD))))) (sd_cons (sd_set 2 G.nd (pd_ix (pd_lst false (pa_consD pd_int (pa_consD pd_int (pa_consD (pd_add false pd_int (pd_callN G (O__law_take.mono (by decide)) (pa_consD (pd_var 0) (pa_consD pd_int pa_nilD)))) (pa_consD (pd_add false pd_int (pd_callB call_abs sim_abs T.z_abs (pa_consD (pd_callN G (O__law_far.mono (by decide)) (pa_consD (pd_var 0) pa_nilD)) pa_nilD))) pa_nilD))))) (pd_callN G (O__law_take.mono (by decide)) (pa_consD (pd_var 0) (pa_consD pd_int pa_nilD))))) (sd_one (sd_ret (pd_callN G (O__law_number.mono (by decide)) (pa_consD (pd_var 1) (pa_consD (pd_var 2) pa_nilD)))))))
theorem ok__law_drawn {P : Program} {w : World} {K : PySem.W.Frag} {mg : Str → Option Value} {base : Heap} {f : Addr} {fd : FuncData} (T : Tz K mg) (D : DefAt K mg "_law_drawn" s__law_drawn f fd) (sm : ∃ o, base.get? sysModules = some o) (O__law_far : Ok P w K mg base 2 "_law_far" ["_law_box_here"] sp__law_far) (O__law_number : Ok P w K mg base 1 "_law_number" ["_law_upper", "_law_lower"] sp__law_number) (O__law_take : Ok P w K mg base 1 "_law_take" ["_law_box_here", "_law_many"] sp__law_take) : Ok P w K mg base 3 "_law_drawn" ["_law_box_here"] sp__law_drawn := ok_mk D (fn__law_drawn T D sm O__law_far O__law_number O__law_take) (fun _ _ _ _ _ _ us hl => match us, hl with | [_], _ => rfl)
/-! _law_sum -/
abbrev s__law_sum : Stmt := topS 33
theorem sc__law_sum : FnScope ["_law_first", "_law_second", "_law_a", "_law_b", "_law_c", "_law_d"] ["_law_first", "_law_second"] (defScope s__law_sum) := ⟨rfl, rfl, rfl, by decide +kernel, rfl, by decide +kernel, by decide +kernel⟩
def b__law_sum : DS := (sSeq (sAsg (dCall sp__law_pair [] (dCons (dVar 0) dNil)) (gTupD 2 (gConsD (gN 2) (gConsD (gN 3) gNilD)))) (sSeq (sAsg (dCall sp__law_pair [] (dCons (dVar 1) dNil)) (gTupD 2 (gConsD (gN 4) (gConsD (gN 5) gNilD)))) (sRet (dCall sp__law_number [] (dCons (dOp (fAdd false) (dOp fMulI (dVar 2) (dVar 5)) (dOp fMulI (dVar 4) (dVar 3))) (dCons (dOp fMulI (dVar 3) (dVar 5)) dNil))))))
def sp__law_sum : DSp := spOf 6 2 b__law_sum
theorem fn__law_sum {P : Program} {w : World} {K : PySem.W.Frag} {mg : Str → Option Value} {base : Heap} {f : Addr} {fd : FuncData} (T : Tz K mg) (D : DefAt K mg "_law_sum" s__law_sum f fd) (sm : ∃ o, base.get? sysModules = some o) (O__law_number : Ok P w K mg base 1 "_law_number" ["_law_upper", "_law_lower"] sp__law_number) (O__law_pair : Ok P w K mg base 1 "_law_pair" ["_law_number_here"] sp__law_pair) : FnG P w K mg base 2 f fd ["_law_first", "_law_second"] sp__law_sum :=
  Fn_ok (k := 1) (b := b__law_sum) D.F sc__law_sum sm fun cdv A outer s H E G => (sd_cons (sd_asg (pd_callN G (O__law_pair.mono (by decide)) (pa_consD (pd_var 0) pa_nilD)) (pg_tupD G.calm (pgs_consD (pg_nameD (i := 2) G.nd) (pgs_consD (pg_nameD (i := 3) G.nd) pgs_nilD)))) (sd_cons (sd_asg (pd_callN G (O__law_pair.mono (by decide)) (pa_consD (pd_var 1) pa_nilD)) (pg_tupD G.calm (pgs_consD (pg_nameD (i := 4) G.nd) (pgs_consD (pg_nameD (i := 5) G.nd) pgs_nilD)))) (sd_one (sd_ret (pd_callN G (O__law_number.mono (by decide)) (pa_consD (pd_add false (pd_mulI (pd_var 2) (pd_var 5)) (pd_mulI (pd_var 4) (pd_var 3))) (pa_consD (pd_mulI (pd_var 3) (pd_var 5)) pa_nilD)))))))
theorem ok__law_sum {P : Program} {w : World} {K : PySem.W.Frag} {mg : Str → Option Value} {base : Heap} {f : Addr} {fd : FuncData} (T : Tz K mg) (D : DefAt K mg "_law_sum" s__law_sum f fd) (sm : ∃ o, base.get? sysModules = some o) (O__law_number : Ok P w K mg base 1 "_law_number" ["_law_upper", "_law_lower"] sp__law_number) (O__law_pair : Ok P w K mg base 1 "_law_pair" ["_law_number_here"] sp__law_pair) : Ok P w K mg base 2 "_law_sum" ["_law_first", "_law_second"] sp__law_sum := ok_mk D (fn__law_sum T D sm O__law_number O__law_pair) (fun _ _ _ _ _ _ us hl => match us, hl with | [_, _], _ => rfl)
/-! _law_product -/
abbrev s__law_product : Stmt := topS 34
theorem sc__law_product : FnScope ["_law_first", "_law_second", "_law_a", "_law_b", "_law_c", "_law_d"] ["_law_first", "_law_second"] (defScope s__law_product) := ⟨rfl, rfl, rfl, by decide +kernel, rfl, by decide +kernel, by decide +kernel⟩
def b__law_product : DS := (sSeq (sAsg (dCall sp__law_pair [] (dCons (dVar 0) dNil)) (gTupD 2 (gConsD (gN 2) (gConsD (gN 3) gNilD)))) (sSeq (sAsg (dCall sp__law_pair [] (dCons (dVar 1) dNil)) (gTupD 2 (gConsD (gN 4) (gConsD (gN 5) gNilD)))) (sRet (dCall sp__law_number [] (dCons (dOp fMulI (dVar 2) (dVar 4)) (dCons (dOp fMulI (dVar 3) (dVar 5)) dNil))))))
def sp__law_product : DSp := spOf 6 2 b__law_product
theorem fn__law_product {P : Program} {w : World} {K : PySem.W.Frag} {mg : Str → Option Value} {base : Heap} {f : Addr} {fd : FuncData} (T : Tz K mg) (D : DefAt K mg "_law_product" s__law_product f fd) (sm : ∃ o, base.get? sysModules = some o) (O__law_number : Ok P w K mg base 1 "_law_number" ["_law_upper", "_law_lower"] sp__law_number) (O__law_pair : Ok P w K mg base 1 "_law_pair" ["_law_number_here"] sp__law_pair) : FnG P w K mg base 2 f fd ["_law_first", "_law_second"] sp__law_product :=
  Fn_ok (k := 1) (b := b__law_product) D.F sc__law_product sm fun cdv A outer s H E G => (sd_cons (sd_asg (pd_callN G (O__law_pair.mono (by decide)) (pa_consD (pd_var 0) pa_nilD)) (pg_tupD G.calm (pgs_consD (pg_nameD (i := 2) G.nd) (pgs_consD (pg_nameD (i := 3) G.nd) pgs_nilD)))) (sd_cons (sd_asg (pd_callN G (O__law_pair.mono (by decide)) (pa_consD (pd_var 1) pa_nilD)) (pg_tupD G.calm (pgs_consD (pg_nameD (i := 4) G.nd) (pgs_consD (pg_nameD (i := 5) G.nd) pgs_nilD)))) (sd_one (sd_ret (pd_callN G (O__law_number.mono (by decide)) (pa_consD (pd_mulI (pd_var 2) (pd_var 4)) (pa_consD (pd_mulI (pd_var 3) (pd_var 5)) pa_nilD)))))))
theorem ok__law_product {P : Program} {w : World} {K : PySem.W.Frag} {mg : Str → Option Value} {base : Heap} {f : Addr} {fd : FuncData} (T : Tz K mg) (D : DefAt K mg "_law_product" s__law_product f fd) (sm : ∃ o, base.get? sysModules = some o) (O__law_number : Ok P w K mg base 1 "_law_number" ["_law_upper", "_law_lower"] sp__law_number) (O__law_pair : Ok P w K mg base 1 "_law_pair" ["_law_number_here"] sp__law_pair) : Ok P w K mg base 2 "_law_product" ["_law_first", "_law_second"] sp__law_product := ok_mk D (fn__law_product T D sm O__law_number O__law_pair) (fun _ _ _ _ _ _ us hl => match us, hl with | [_, _], _ => rfl)
/-! _law_minus -/
abbrev s__law_minus : Stmt := topS 35
theorem sc__law_minus : FnScope ["_law_first", "_law_second"] ["_law_first", "_law_second"] (defScope s__law_minus) := ⟨rfl, rfl, rfl, by decide +kernel, rfl, by decide +kernel, by decide +kernel⟩
def b__law_minus : DS := (sRet (dCall sp__law_sum [] (dCons (dVar 0) (dCons (dCall sp__law_product [] (dCons (dVar 1) (dCons (dOp fSub (dC (.int 0)) (dC (.int 1))) dNil))) dNil))))
def sp__law_minus : DSp := spOf 2 2 b__law_minus
theorem fn__law_minus {P : Program} {w : World} {K : PySem.W.Frag} {mg : Str → Option Value} {base : Heap} {f : Addr} {fd : FuncData} (T : Tz K mg) (D : DefAt K mg "_law_minus" s__law_minus f fd) (sm : ∃ o, base.get? sysModules = some o) (O__law_product : Ok P w K mg base 2 "_law_product" ["_law_first", "_law_second"] sp__law_product) (O__law_sum : Ok P w K mg base 2 "_law_sum" ["_law_first", "_law_second"] sp__law_sum) : FnG P w K mg base 3 f fd ["_law_first", "_law_second"] sp__law_minus :=
  Fn_ok (k := 2) (b := b__law_minus) D.F sc__law_minus sm fun cdv A outer s H E G => (sd_one (sd_ret (pd_callN G (O__law_sum.mono (by decide)) (pa_consD (pd_var 0) (pa_consD (pd_callN G (O__law_product.mono (by decide)) (pa_consD (pd_var 1) (pa_consD (pd_sub pd_int pd_int) pa_nilD))) pa_nilD)))))
theorem ok__law_minus {P : Program} {w : World} {K : PySem.W.Frag} {mg : Str → Option Value} {base : Heap} {f : Addr} {fd : FuncData} (T : Tz K mg) (D : DefAt K mg "_law_minus" s__law_minus f fd) (sm : ∃ o, base.get? sysModules = some o) (O__law_product : Ok P w K mg base 2 "_law_product" ["_law_first", "_law_second"] sp__law_product) (O__law_sum : Ok P w K mg base 2 "_law_sum" ["_law_first", "_law_second"] sp__law_sum) : Ok P w K mg base 3 "_law_minus" ["_law_first", "_law_second"] sp__law_minus := ok_mk D (fn__law_minus T D sm O__law_product O__law_sum) (fun _ _ _ _ _ _ us hl => match us, hl with | [_, _], _ => rfl)
/-! _law_above -/
abbrev s__law_above : Stmt := topS 36
theorem sc__law_above : FnScope ["_law_number_here"] ["_law_number_here"] (defScope s__law_above) := ⟨rfl, rfl, rfl, by decide +kernel, rfl, by decide +kernel, by decide +kernel⟩
def b__law_above : DS := (sRet (dOp fGtS (dOp fIx (dCall sp__law_pair [] (dCons (dVar 0) dNil)) (dC (.int 0))) (dC (.int 0))))
def sp__law_above : DSp := spOf 1 1 b__law_above
theorem fn__law_above {P : Program} {w : World} {K : PySem.W.Frag} {mg : Str → Option Value} {base : Heap} {f : Addr} {fd : FuncData} (T : Tz K mg) (D : DefAt K mg "_law_above" s__law_above f fd) (sm : ∃ o, base.get? sysModules = some o) (O__law_pair : Ok P w K mg base 1 "_law_pair" ["_law_number_here"] sp__law_pair) : FnG P w K mg base 2 f fd ["_law_number_here"] sp__law_above :=
  Fn_ok (k := 1) (b := b__law_above) D.F sc__law_above sm fun cdv A outer s H E G => (sd_one (sd_ret (pd_gt (pd_ix (pd_callN G (O__law_pair.mono (by decide)) (pa_consD (pd_var 0) pa_nilD)) pd_int) pd_int)))
theorem ok__law_above {P : Program} {w : World} {K : PySem.W.Frag} {mg : Str → Option Value} {base : Heap} {f : Addr} {fd : FuncData} (T : Tz K mg) (D : DefAt K mg "_law_above" s__law_above f fd) (sm : ∃ o, base.get? sysModules = some o) (O__law_pair : Ok P w K mg base 1 "_law_pair" ["_law_number_here"] sp__law_pair) : Ok P w K mg base 2 "_law_above" ["_law_number_here"] sp__law_above := ok_mk D (fn__law_above T D sm O__law_pair) (fun _ _ _ _ _ _ us hl => match us, hl with | [_], _ => rfl)
/-! _law_period -/
abbrev s__law_period : Stmt := topS 37
theorem sc__law_period : FnScope ["_law_box_here", "_law_a", "_law_b", "_law_size", "_law_parts"] ["_law_box_here"] (defScope s__law_period) := ⟨rfl, rfl, rfl, by decide +kernel, rfl, by decide +kernel, by decide +kernel⟩
def b__law_period : DS := (sSeq (sAsg (dCall sp__law_pair [] (dCons (dCall sp__law_drawn [] (dCons (dVar 0) dNil)) dNil)) (gTupD 2 (gConsD (gN 1) (gConsD (gN 2) gNilD)))) (sSeq (sAsg (dCall sp__law_number [] (dCons (dB fMax2 (dCons (dC (.int 1)) (dCons (dB fAbs (dCons (dVar 1) dNil)) dNil))) (dCons (dVar 2) dNil))) (gN 3)) (sSeq (sAsg (dOp (fAdd false) (dC (.int 1)) (dCall sp__law_take [] (dCons (dVar 0) (dCons (dC (.int 12)) dNil)))) (gN 4)) (sRet (dTup (dCons (dVar 3) (dCons (dCall sp__law_product [] (dCons (dVar 3) (dCons (dCall sp__law_number [] (dCons (dCall sp__law_take [] (dCons (dVar 0) (dCons (dVar 4) dNil))) (dCons (dVar 4) dNil))) dNil))) dNil)))))))
def sp__law_period : DSp := spOf 5 1 b__law_period
theorem fn__law_period {P : Program} {w : World} {K : PySem.W.Frag} {mg : Str → Option Value} {base : Heap} {f : Addr} {fd : FuncData} (T : Tz K mg) (D : DefAt K mg "_law_period" s__law_period f fd) (sm : ∃ o, base.get? sysModules = some o) (O__law_drawn : Ok P w K mg base 3 "_law_drawn" ["_law_box_here"] sp__law_drawn) (O__law_number : Ok P w K mg base 1 "_law_number" ["_law_upper", "_law_lower"] sp__law_number) (O__law_pair : Ok P w K mg base 1 "_law_pair" ["_law_number_here"] sp__law_pair) (O__law_product : Ok P w K mg base 2 "_law_product" ["_law_first", "_law_second"] sp__law_product) (O__law_take : Ok P w K mg base 1 "_law_take" ["_law_box_here", "_law_many"] sp__law_take) : FnG P w K mg base 4 f fd ["_law_box_here"] sp__law_period :=
  Fn_ok (k := 3) (b := b__law_period) D.F sc__law_period sm fun cdv A outer s H E G => (sd_cons (sd_asg (pd_callN G (O__law_pair.mono (by decide)) (pa_consD (pd_callN G (O__law_drawn.mono (by decide)) (pa_consD (pd_var 0) pa_nilD)) pa_nilD)) (pg_tupD G.calm (pgs_consD (pg_nameD (i := 1) G.nd) (pgs_consD (pg_nameD (i := 2) G.nd) pgs_nilD)))) (sd_cons (sd_set 3 G.nd (pd_callN G (O__law_number.mono (by decide)) (pa_consD (pd_callB (call_max2 G.calm) sim_max2 T.z_max (pa_consD pd_int (pa_consD (pd_callB call_abs sim_abs T.z_abs (pa_consD (pd_var 1) pa_nilD)) pa_nilD))) (pa_consD (pd_var 2) pa_nilD)))) (sd_cons (sd_set 4 G.nd (pd_add false pd_int (pd_callN G (O__law_take.mono (by decide)) (pa_consD (pd_var 0) (pa_consD pd_int pa_nilD))))) (sd_one (sd_ret (pd_tup (pa_consD (pd_var 3) (pa_consD (pd_callN G (O__law_product.mono (by decide)) (pa_consD (pd_var 3) (pa_consD (pd_callN G (O__law_number.mono (by decide)) (pa_consD (pd_callN G (O__law_take.mono (by decide)) (pa_consD (pd_var 0) (pa_consD (pd_var 4) pa_nilD))) (pa_consD (pd_var 4) pa_nilD))) pa_nilD))) pa_nilD))))))))
theorem ok__law_period {P : Program} {w : World} {K : PySem.W.Frag} {mg : Str → Option Value} {base : Heap} {f : Addr} {fd : FuncData} (T : Tz K mg) (D : DefAt K mg "_law_period" s__law_period f fd) (sm : ∃ o, base.get? sysModules = some o) (O__law_drawn : Ok P w K mg base 3 "_law_drawn" ["_law_box_here"] sp__law_drawn) (O__law_number : Ok P w K mg base 1 "_law_number" ["_law_upper", "_law_lower"] sp__law_number) (O__law_pair : Ok P w K mg base 1 "_law_pair" ["_law_number_here"] sp__law_pair) (O__law_product : Ok P w K mg base 2 "_law_product" ["_law_first", "_law_second"] sp__law_product) (O__law_take : Ok P w K mg base 1 "_law_take" ["_law_box_here", "_law_many"] sp__law_take) : Ok P w K mg base 4 "_law_period" ["_law_box_here"] sp__law_period := ok_mk D (fn__law_period T D sm O__law_drawn O__law_number O__law_pair O__law_product O__law_take) (fun _ _ _ _ _ _ us hl => match us, hl with | [_], _ => rfl)
/-! _law_distance -/
abbrev s__law_distance : Stmt := topS 38
theorem sc__law_distance : FnScope ["_law_box_here", "_law_size", "_law_shift", "_law_many", "_law_place", "_law_turn"] ["_law_box_here", "_law_size", "_law_shift"] (defScope s__law_distance) := ⟨rfl, rfl, rfl, by decide +kernel, rfl, by decide +kernel, by decide +kernel⟩
def b__law_distance : DS := (sSeq (sAsg (dCall sp__law_take [] (dCons (dVar 0) (dCons (dC (.int 9)) dNil))) (gN 3)) (sSeq (sAsg (dCall sp__law_sum [] (dCons (dVar 2) (dCons (dCall sp__law_product [] (dCons (dVar 1) (dCons (dCall sp__law_number [] (dCons (dOp (fAdd false) (dVar 3) (dCall sp__law_take [] (dCons (dVar 0) (dCons (dC (.int 3)) dNil)))) (dCons (dOp fIx (dLst false (dCons (dC (.int 1)) (dCons (dC (.int 2)) dNil))) (dCall sp__law_take [] (dCons (dVar 0) (dCons (dC (.int 2)) dNil)))) dNil))) dNil))) dNil))) (gN 4)) (sSeq (sAsg (dCall sp__law_take [] (dCons (dVar 0) (dCons (dC (.int 4)) dNil))) (gN 5)) (sSeq (sIf (tBl (dOp fEq (dVar 5) (dC (.int 0)))) (sAsg (dCall sp__law_sum [] (dCons (dVar 4) (dCons (dTup (dCons (dC (.int 1)) (dCons (dOp (fAdd false) (dC (.int 2)) (dCall sp__law_take [] (dCons (dVar 0) (dCons (dC (.int 1000)) dNil)))) dNil))) dNil))) (gN 4)) sNil) (sSeq (sIf (tBl (dOp fEq (dVar 5) (dC (.int 1)))) (sAsg (dCall sp__law_minus [] (dCons (dVar 4) (dCons (dTup (dCons (dC (.int 1)) (dCons (dOp (fAdd false) (dC (.int 2)) (dCall sp__law_take [] (dCons (dVar 0) (dCons (dC (.int 1000)) dNil)))) dNil))) dNil))) (gN 4)) sNil) (sSeq (sIf (tBl (dOp fEq (dVar 5) (dC (.int 2)))) (sAsg (dCall sp__law_drawn [] (dCons (dVar 0) dNil)) (gN 4)) sNil) (sRet (dVar 4))))))))
def sp__law_distance : DSp := spOf 6 3 b__law_distance
theorem fn__law_distance {P : Program} {w : World} {K : PySem.W.Frag} {mg : Str → Option Value} {base : Heap} {f : Addr} {fd : FuncData} (T : Tz K mg) (D : DefAt K mg "_law_distance" s__law_distance f fd) (sm : ∃ o, base.get? sysModules = some o) (O__law_drawn : Ok P w K mg base 3 "_law_drawn" ["_law_box_here"] sp__law_drawn) (O__law_minus : Ok P w K mg base 3 "_law_minus" ["_law_first", "_law_second"] sp__law_minus) (O__law_number : Ok P w K mg base 1 "_law_number" ["_law_upper", "_law_lower"] sp__law_number) (O__law_product : Ok P w K mg base 2 "_law_product" ["_law_first", "_law_second"] sp__law_product) (O__law_sum : Ok P w K mg base 2 "_law_sum" ["_law_first", "_law_second"] sp__law_sum) (O__law_take : Ok P w K mg base 1 "_law_take" ["_law_box_here", "_law_many"] sp__law_take) : FnG P w K mg base 4 f fd ["_law_box_here", "_law_size", "_law_shift"] sp__law_distance :=
  Fn_ok (k := 3) (b := b__law_distance) D.F sc__law_distance sm fun cdv A outer s H E G => (sd_cons (sd_set 3 G.nd (pd_callN G (O__law_take.mono (by decide)) (pa_consD (pd_var 0) (pa_consD pd_int pa_nilD)))) (sd_cons (sd_set 4 G.nd (pd_callN G (O__law_sum.mono (by decide)) (pa_consD (pd_var 2) (pa_consD (pd_callN G (O__law_product.mono (by decide)) (pa_consD (pd_var 1) (pa_consD (pd_callN G (O__law_number.mono (by decide)) (pa_consD (pd_add false (pd_var 3) (pd_callN G (O__law_take.mono (by decide)) (pa_consD (pd_var 0) (pa_consD pd_int pa_nilD)))) (pa_consD (pd_ix (pd_lst false (pa_consD pd_int (pa_consD pd_int pa_nilD))) (pd_callN G (O__law_take.mono (by decide)) (pa_consD (pd_var 0) (pa_consD pd_int pa_nilD)))) pa_nilD))) pa_nilD))) pa_nilD)))) (sd_cons (sd_set 5 G.nd (pd_callN G (O__law_take.mono (by decide)) (pa_consD (pd_var 0) (pa_consD pd_int pa_nilD)))) (sd_cons (sd_if (pt_eq G (pd_var 5) pd_int) (sd_one (sd_set 4 G.nd (pd_callN G (O__law_sum.mono (by decide)) (pa_consD (pd_var 4) (pa_consD (pd_tup (pa_consD pd_int (pa_consD (pd_add false pd_int (pd_callN G (O__law_take.mono (by decide)) (pa_consD (pd_var 0) (pa_consD pd_int pa_nilD)))) pa_nilD))) pa_nilD))))) sd_nil) (sd_cons (sd_if (pt_eq G (pd_var 5) pd_int) (sd_one (sd_set 4 G.nd (pd_callN G (O__law_minus.mono (by decide)) (pa_consD (pd_var 4) (pa_consD (pd_tup (pa_consD pd_int (pa_consD (pd_add false pd_int (pd_callN G (O__law_take.mono (by decide)) (pa_consD (pd_var 0) (pa_consD pd_int pa_nilD)))) pa_nilD))) pa_nilD))))) sd_nil) (sd_cons (sd_if (pt_eq G (pd_var 5) pd_int) (sd_one (sd_set 4 G.nd (pd_callN G (O__law_drawn.mono (by decide)) (pa_consD (pd_var 0) pa_nilD)))) sd_nil) (sd_one (sd_ret (pd_var 4)))))))))
theorem ok__law_distance {P : Program} {w : World} {K : PySem.W.Frag} {mg : Str → Option Value} {base : Heap} {f : Addr} {fd : FuncData} (T : Tz K mg) (D : DefAt K mg "_law_distance" s__law_distance f fd) (sm : ∃ o, base.get? sysModules = some o) (O__law_drawn : Ok P w K mg base 3 "_law_drawn" ["_law_box_here"] sp__law_drawn) (O__law_minus : Ok P w K mg base 3 "_law_minus" ["_law_first", "_law_second"] sp__law_minus) (O__law_number : Ok P w K mg base 1 "_law_number" ["_law_upper", "_law_lower"] sp__law_number) (O__law_product : Ok P w K mg base 2 "_law_product" ["_law_first", "_law_second"] sp__law_product) (O__law_sum : Ok P w K mg base 2 "_law_sum" ["_law_first", "_law_second"] sp__law_sum) (O__law_take : Ok P w K mg base 1 "_law_take" ["_law_box_here", "_law_many"] sp__law_take) : Ok P w K mg base 4 "_law_distance" ["_law_box_here", "_law_size", "_law_shift"] sp__law_distance := ok_mk D (fn__law_distance T D sm O__law_drawn O__law_minus O__law_number O__law_product O__law_sum O__law_take) (fun _ _ _ _ _ _ us hl => match us, hl with | [_, _, _], _ => rfl)
/-! _law_told_right -/
abbrev s__law_told_right : Stmt := topS 39
theorem sc__law_told_right : FnScope ["_law_found", "_law_distance_here", "_law_size", "_law_shift", "_law_many", "_law_apart", "_law_half"] ["_law_found", "_law_distance_here", "_law_size", "_law_shift"] (defScope s__law_told_right) := ⟨rfl, rfl, rfl, by decide +kernel, rfl, by decide +kernel, by decide +kernel⟩
def b__law_told_right : DS := (sSeq (sAsg (dCall sp__law_product [] (dCons (dCall sp__law_minus [] (dCons (dVar 0) (dCons (dVar 3) dNil))) (dCons (dCall sp__law_number [] (dCons (dOp fIx (dCall sp__law_pair [] (dCons (dVar 2) dNil)) (dC (.int 1))) (dCons (dOp fIx (dCall sp__law_pair [] (dCons (dVar 2) dNil)) (dC (.int 0))) dNil))) dNil))) (gN 4)) (sSeq (sIf (tOrD (tTru (dB (fIsi kt) (dCons (dVar 4) (dCons (dC (.ty "tuple")) dNil)))) (tBl (dOp fLtS (dVar 4) (dC (.int 0))))) (sRet (dC (.bl false))) sNil) (sSeq (sAsg (dCall sp__law_minus [] (dCons (dVar 1) (dCons (dVar 0) dNil))) (gN 5)) (sSeq (sAsg (dCall sp__law_product [] (dCons (dVar 2) (dCons (dTup (dCons (dC (.int 1)) (dCons (dC (.int 2)) dNil))) dNil))) (gN 6)) (sSeq (sIf (tNotD (tTru (dCall sp__law_above [] (dCons (dCall sp__law_minus [] (dCons (dVar 6) (dCons (dVar 5) dNil))) dNil)))) (sRet (dC (.bl false))) sNil) (sRet (dOr (dOp fEq (dVar 4) (dC (.int 0))) (dNot (dCall sp__law_above [] (dCons (dCall sp__law_minus [] (dCons (dCall sp__law_product [] (dCons (dVar 5) (dCons (dOp fSub (dC (.int 0)) (dC (.int 1))) dNil))) (dCons (dVar 6) dNil))) dNil))))))))))
def sp__law_told_right : DSp := spOf 7 4 b__law_told_right
theorem fn__law_told_right {P : Program} {w : World} {K : PySem.W.Frag} {mg : Str → Option Value} {base : Heap} {f : Addr} {fd : FuncData} (T : Tz K mg) (D : DefAt K mg "_law_told_right" s__law_told_right f fd) (sm : ∃ o, base.get? sysModules = some o) (O__law_above : Ok P w K mg base 2 "_law_above" ["_law_number_here"] sp__law_above) (O__law_minus : Ok P w K mg base 3 "_law_minus" ["_law_first", "_law_second"] sp__law_minus) (O__law_number : Ok P w K mg base 1 "_law_number" ["_law_upper", "_law_lower"] sp__law_number) (O__law_pair : Ok P w K mg base 1 "_law_pair" ["_law_number_here"] sp__law_pair) (O__law_product : Ok P w K mg base 2 "_law_product" ["_law_first", "_law_second"] sp__law_product) : FnG P w K mg base 4 f fd ["_law_found", "_law_distance_here", "_law_size", "_law_shift"] sp__law_told_right :=
  Fn_ok (k := 3) (b := b__law_told_right) D.F sc__law_told_right sm fun cdv A outer s H E G => (sd_cons (sd_set 4 G.nd (pd_callN G (O__law_product.mono (by decide)) (pa_consD (pd_callN G (O__law_minus.mono (by decide)) (pa_consD (pd_var 0) (pa_consD (pd_var 3) pa_nilD))) (pa_consD (pd_callN G (O__law_number.mono (by decide)) (pa_consD (pd_ix (pd_callN G (O__law_pair.mono (by decide)) (pa_consD (pd_var 2) pa_nilD)) pd_int) (pa_consD (pd_ix (pd_callN G (O__law_pair.mono (by decide)) (pa_consD (pd_var 2) pa_nilD)) pd_int) pa_nilD))) pa_nilD)))) (sd_cons (sd_if (PW.pt (pw_orD (pt_truD (pd_callB (call_isiD T.kit) sim_isi T.z_isinstance (pa_consD (pd_var 4) (pa_consD (pd_tyName T.z_tuple) pa_nilD)))) (pw_or1D (pt_lt (pd_var 4) pd_int)))) (sd_one (sd_ret pd_bl)) sd_nil) (sd_cons (sd_set 5 G.nd (pd_callN G (O__law_minus.mono (by decide)) (pa_consD (pd_var 1) (pa_consD (pd_var 0) pa_nilD)))) (sd_cons (sd_set 6 G.nd (pd_callN G (O__law_product.mono (by decide)) (pa_consD (pd_var 2) (pa_consD (pd_tup (pa_consD pd_int (pa_consD pd_int pa_nilD))) pa_nilD)))) (sd_cons (sd_if (pt_notD (pt_truD (pd_callN G (O__law_above.mono (by decide)) (pa_consD (pd_callN G (O__law_minus.mono (by decide)) (pa_consD (pd_var 6) (pa_consD (pd_var 5) pa_nilD))) pa_nilD)))) (sd_one (sd_ret pd_bl)) sd_nil) (sd_one (sd_ret (pd_or (pd_eq G (pd_var 4) pd_int) (pd_one (pd_not (pd_callN G (O__law_above.mono (by decide)) (pa_consD (pd_callN G (O__law_minus.mono (by decide)) (pa_consD (pd_callN G (O__law_product.mono (by decide)) (pa_consD (pd_var 5) (pa_consD (pd_sub pd_int pd_int) pa_nilD))) (pa_consD (pd_var 6) pa_nilD))) pa_nilD))))))))))))
theorem ok__law_told_right {P : Program} {w : World} {K : PySem.W.Frag} {mg : Str → Option Value} {base : Heap} {f : Addr} {fd : FuncData} (T : Tz K mg) (D : DefAt K mg "_law_told_right" s__law_told_right f fd) (sm : ∃ o, base.get? sysModules = some o) (O__law_above : Ok P w K mg base 2 "_law_above" ["_law_number_here"] sp__law_above) (O__law_minus : Ok P w K mg base 3 "_law_minus" ["_law_first", "_law_second"] sp__law_minus) (O__law_number : Ok P w K mg base 1 "_law_number" ["_law_upper", "_law_lower"] sp__law_number) (O__law_pair : Ok P w K mg base 1 "_law_pair" ["_law_number_here"] sp__law_pair) (O__law_product : Ok P w K mg base 2 "_law_product" ["_law_first", "_law_second"] sp__law_product) : Ok P w K mg base 4 "_law_told_right" ["_law_found", "_law_distance_here", "_law_size", "_law_shift"] sp__law_told_right := ok_mk D (fn__law_told_right T D sm O__law_above O__law_minus O__law_number O__law_pair O__law_product) (fun _ _ _ _ _ _ us hl => match us, hl with | [_, _, _, _], _ => rfl)
/-! _law_right -/
abbrev s__law_right : Stmt := topS 40
theorem sc__law_right : FnScope ["_law_deed", "_law_distance_here", "_law_size", "_law_shift", "_law_a", "_law_b", "_law_found", "_law_back"] ["_law_deed", "_law_distance_here", "_law_size", "_law_shift"] (defScope s__law_right) := ⟨rfl, rfl, rfl, by decide +kernel, rfl, by decide +kernel, by decide +kernel⟩
def b__law_right : DS := (sSeq (sAsg (dCall sp__law_pair [] (dCons (dVar 1) dNil)) (gTupD 2 (gConsD (gN 4) (gConsD (gN 5) gNilD)))) (sSeq (sAsg (dCallFn "by_period" ["period", "phase"] 0 spl_by_period_0 (dCons (dCall sp__law_number [] (dCons (dB fAbs (dCons (dVar 4) dNil)) (dCons (dVar 5) dNil))) dNil)) (gN 6)) (sSeq (sIf (tNotD (tTru (dCall (sp__law_is 2) [] (dCons (dVar 6) (dCons (dCall sp__law_number [] (dCons (dOp fIx (dCall sp__law_pair [] (dCons (dVar 6) dNil)) (dC (.int 0))) (dCons (dOp fIx (dCall sp__law_pair [] (dCons (dVar 6) dNil)) (dC (.int 1))) dNil))) dNil))))) (sRet (dC (.bl false))) sNil) (sSeq (sIf (tNotD (tTru (dCall sp__law_told_right [] (dCons (dVar 6) (dCons (dCall sp__law_number [] (dCons (dB fAbs (dCons (dVar 4) dNil)) (dCons (dVar 5) dNil))) (dCons (dVar 2) (dCons (dVar 3) dNil))))))) (sRet (dC (.bl false))) sNil) (sSeq (sAsg (dCallFn "by_period" ["period", "phase"] 0 spl_by_period_0 (dCons (dCall sp__law_number [] (dCons (dOp fSub (dC (.int 0)) (dB fAbs (dCons (dVar 4) dNil))) (dCons (dVar 5) dNil))) dNil)) (gN 7)) (sRet (dCall (sp__law_is 2) [] (dCons (dVar 7) (dCons (dIf (tBl (dOp fNe (dVar 4) (dC (.int 0)))) (dCall sp__law_product [] (dCons (dVar 6) (dCons (dOp fSub (dC (.int 0)) (dC (.int 1))) dNil))) (dVar 6)) dNil)))))))))
def sp__law_right : DSp := spOf 8 4 b__law_right
theorem fn__law_right {P : Program} {w : World} {K : PySem.W.Frag} {mg : Str → Option Value} {base : Heap} {f : Addr} {fd : FuncData} (T : Tz K mg) (D : DefAt K mg "_law_right" s__law_right f fd) (sm : ∃ o, base.get? sysModules = some o) (L_by_period : LamOf ⟨K, mg⟩ "by_period" (lamP e_by_period_0) (lamB e_by_period_0) (lamS e_by_period_0)) (O__law_is : Ok P w K mg base 2 "_law_is" ["_law_found", "_law_due"] (sp__law_is 2)) (O__law_number : Ok P w K mg base 1 "_law_number" ["_law_upper", "_law_lower"] sp__law_number) (O__law_pair : Ok P w K mg base 1 "_law_pair" ["_law_number_here"] sp__law_pair) (O__law_product : Ok P w K mg base 2 "_law_product" ["_law_first", "_law_second"] sp__law_product) (O__law_told_right : Ok P w K mg base 4 "_law_told_right" ["_law_found", "_law_distance_here", "_law_size", "_law_shift"] sp__law_told_right) (O_nearest : Ok P w K mg base 6 "nearest" ["distance", "period", "phase"] sp_nearest) : FnG P w K mg base 8 f fd ["_law_deed", "_law_distance_here", "_law_size", "_law_shift"] sp__law_right :=
  Fn_ok (k := 7) (b := b__law_right) D.F sc__law_right sm fun cdv A outer s H E G => (sd_cons (sd_asg (pd_callN G (O__law_pair.mono (by decide)) (pa_consD (pd_var 1) pa_nilD)) (pg_tupD G.calm (pgs_consD (pg_nameD (i := 4) G.nd) (pgs_consD (pg_nameD (i := 5) G.nd) pgs_nilD)))) (sd_cons (sd_set 6 G.nd (pd_callFn 0 (G.mono (j := 7) (by decide)) (fl_by_period_0 T sm O_nearest) L_by_period (pa_consD (pd_callN G (O__law_number.mono (by decide)) (pa_consD (pd_callB call_abs sim_abs T.z_abs (pa_consD (pd_var 4) pa_nilD)) (pa_consD (pd_var 5) pa_nilD))) pa_nilD))) (sd_cons (sd_if (pt_notD (pt_truD (pd_callN G (O__law_is.mono (by decide)) (pa_consD (pd_var 6) (pa_consD (pd_callN G (O__law_number.mono (by decide)) (pa_consD (pd_ix (pd_callN G (O__law_pair.mono (by decide)) (pa_consD (pd_var 6) pa_nilD)) pd_int) (pa_consD (pd_ix (pd_callN G (O__law_pair.mono (by decide)) (pa_consD (pd_var 6) pa_nilD)) pd_int) pa_nilD))) pa_nilD))))) (sd_one (sd_ret pd_bl)) sd_nil) (sd_cons (sd_if (pt_notD (pt_truD (pd_callN G (O__law_told_right.mono (by decide)) (pa_consD (pd_var 6) (pa_consD (pd_callN G (O__law_number.mono (by decide)) (pa_consD (pd_callB call_abs sim_abs T.z_abs (pa_consD (pd_var 4) pa_nilD)) (pa_consD (pd_var 5) pa_nilD))) (pa_consD (pd_var 2) (pa_consD (pd_var 3) pa_nilD))))))) (sd_one (sd_ret pd_bl)) sd_nil) (sd_cons (sd_set 7 G.nd (pd_callFn 0 (G.mono (j := 7) (by decide)) (fl_by_period_0 T sm O_nearest) L_by_period (pa_consD (pd_callN G (O__law_number.mono (by decide)) (pa_consD (pd_sub pd_int (pd_callB call_abs sim_abs T.z_abs (pa_consD (pd_var 4) pa_nilD))) (pa_consD (pd_var 5) pa_nilD))) pa_nilD))) (sd_one (sd_ret (pd_callN G (O__law_is.mono (by decide)) (pa_consD (pd_var 7) (pa_consD (pd_if (pt_ne G (pd_var 4) pd_int) (pd_callN G (O__law_product.mono (by decide)) (pa_consD (pd_var 6) (pa_consD (pd_sub pd_int pd_int) pa_nilD))) (pd_var 6)) pa_nilD))))))))))
theorem ok__law_right {P : Program} {w : World} {K : PySem.W.Frag} {mg : Str → Option Value} {base : Heap} {f : Addr} {fd : FuncData} (T : Tz K mg) (D : DefAt K mg "_law_right" s__law_right f fd) (sm : ∃ o, base.get? sysModules = some o) (L_by_period : LamOf ⟨K, mg⟩ "by_period" (lamP e_by_period_0) (lamB e_by_period_0) (lamS e_by_period_0)) (O__law_is : Ok P w K mg base 2 "_law_is" ["_law_found", "_law_due"] (sp__law_is 2)) (O__law_number : Ok P w K mg base 1 "_law_number" ["_law_upper", "_law_lower"] sp__law_number) (O__law_pair : Ok P w K mg base 1 "_law_pair" ["_law_number_here"] sp__law_pair) (O__law_product : Ok P w K mg base 2 "_law_product" ["_law_first", "_law_second"] sp__law_product) (O__law_told_right : Ok P w K mg base 4 "_law_told_right" ["_law_found", "_law_distance_here", "_law_size", "_law_shift"] sp__law_told_right) (O_nearest : Ok P w K mg base 6 "nearest" ["distance", "period", "phase"] sp_nearest) : Ok P w K mg base 8 "_law_right" ["_law_deed", "_law_distance_here", "_law_size", "_law_shift"] sp__law_right := ok_mk D (fn__law_right T D sm L_by_period O__law_is O__law_number O__law_pair O__law_product O__law_told_right O_nearest) (fun _ _ _ _ _ _ us hl => match us, hl with | [_, _, _, _], _ => rfl)
/-! law -/
abbrev s_law : Stmt := topS 41
theorem sc_law : FnScope ["_law_script", "_law_ahead", "_law_k", "_law_box_here", "_law_size", "_law_shift", "_law_here", "_law_turn", "_law_side", "_law_distance_here"] ["_law_script"] (defScope s_law) := ⟨rfl, rfl, rfl, by decide +kernel, rfl, by decide +kernel, by decide +kernel⟩
def b_law : DS := (sSeq (sAsg (dC .non) (gN 1)) (sSeq (sFor (iRange1 (dCons (dB fMax2 (dCons (dC (.int 2)) (dCons (dB fMin2 (dCons (dC (.int 8)) (dCons (dB fLen (dCons (dVar 0) dNil)) dNil))) dNil))) dNil)) (gN 2) (sSeq (sAsg (dCall sp__law_box [] (dCons (dCall sp__law_cell [] (dCons (dVar 0) (dCons (dVar 2) dNil))) dNil)) (gN 3)) (sSeq (sAsg (dCall sp__law_period [] (dCons (dVar 3) dNil)) (gTupD 2 (gConsD (gN 4) (gConsD (gN 5) gNilD)))) (sSeq (sIf (tBl (dOp fEq (dCall sp__law_take [] (dCons (dVar 3) (dCons (dC (.int 3)) dNil))) (dC (.int 0)))) (sAsg (dC (.int 0)) (gN 5)) sNil) (sSeq (sAsg (dLst true (dCons (dCallC sp_by_period 2 0 [0, 1] [.int (0)] (dCons (dVar 4) (dCons (dVar 5) dNil)) dNil) (dCons (dVar 4) (dCons (dVar 5) dNil)))) (gN 6)) (sSeq (sIf (tBl (dOp fEq (dVar 5) (dC (.int 0)))) (sAsg (dIf (tBl (dOp fEq (dOp fMod (dVar 2) (dC (.int 2))) (dC (.int 0)))) (dCallC sp_by_period 1 0 [0, 1] [.int (0)] (dCons (dVar 4) dNil) dNil) (dCallC sp_by_period 0 2 [1, 0] [.int (0)] dNil (dCons (dC (.int 0)) (dCons (dVar 4) dNil)))) (gSubD (dVar 6) (dC (.int 0)) fSet)) sNil) (sSeq (sFor (iRange1 (dCons (dC (.int 5)) dNil)) (gN 7) (sFor (iSeq (dLst false (dCons (dVar 6) (dCons (dVar 1) dNil)))) (gN 8) (sSeq (sIf (tBl (dOp fIs (dVar 8) (dC .non))) sCon sNil) (sFor (iSeq (dLst false (dCons (dCall sp__law_distance [] (dCons (dVar 3) (dCons (dOp fIx (dVar 8) (dC (.int 1))) (dCons (dOp fIx (dVar 8) (dC (.int 2))) dNil)))) (dCons (dC (.int 0)) dNil)))) (gN 9) (sIf (tNotD (tTru (dCall sp__law_right [] (dCons (dOp fIx (dVar 8) (dC (.int 0))) (dCons (dVar 9) (dCons (dOp fIx (dVar 8) (dC (.int 1))) (dCons (dOp fIx (dVar 8) (dC (.int 2))) dNil))))))) (sRet (dC (.bl false))) sNil))))) (sAsg (dVar 6) (gN 1))))))))) (sRet (dC (.bl true)))))
def sp_law : DSp := spOf 10 1 b_law
theorem fn_law {P : Program} {w : World} {K : PySem.W.Frag} {mg : Str → Option Value} {base : Heap} {f : Addr} {fd : FuncData} (T : Tz K mg) (D : DefAt K mg "law" s_law f fd) (sm : ∃ o, base.get? sysModules = some o) (C_by_period_0_phase_period : OkC P w K mg base 5 "by_period" 0 ["phase", "period"] [1, 0] [.int (0)] sp_by_period) (C_by_period_1 : OkC P w K mg base 5 "by_period" 1 [] [0, 1] [.int (0)] sp_by_period) (C_by_period_2 : OkC P w K mg base 5 "by_period" 2 [] [0, 1] [.int (0)] sp_by_period) (O__law_box : Ok P w K mg base 1 "_law_box" ["_law_cell_here"] sp__law_box) (O__law_cell : Ok P w K mg base 1 "_law_cell" ["_law_script", "_law_k"] sp__law_cell) (O__law_distance : Ok P w K mg base 4 "_law_distance" ["_law_box_here", "_law_size", "_law_shift"] sp__law_distance) (O__law_period : Ok P w K mg base 4 "_law_period" ["_law_box_here"] sp__law_period) (O__law_right : Ok P w K mg base 8 "_law_right" ["_law_deed", "_law_distance_here", "_law_size", "_law_shift"] sp__law_right) (O__law_take : Ok P w K mg base 1 "_law_take" ["_law_box_here", "_law_many"] sp__law_take) : FnG P w K mg base 9 f fd ["_law_script"] sp_law :=
  Fn_ok (k := 8) (b := b_law) D.F sc_law sm fun cdv A outer s H E G => (sd_cons (sd_set 1 G.nd pd_non) (sd_cons (sd_for G (pi_range1D T.z_range (pa_consD (pd_callB (call_max2 G.calm) sim_max2 T.z_max (pa_consD pd_int (pa_consD (pd_callB (call_min2 G.calm) sim_min2 T.z_min (pa_consD pd_int (pa_consD (pd_callB call_len sim_len T.z_len (pa_consD (pd_var 0) pa_nilD)) pa_nilD))) pa_nilD))) pa_nilD)) (pg_nameD (i := 2) G.nd) (sd_cons (sd_set 3 G.nd (pd_callN G (O__law_box.mono (by decide)) (pa_consD (pd_callN G (O__law_cell.mono (by decide)) (pa_consD (pd_var 0) (pa_consD (pd_var 2) pa_nilD))) pa_nilD))) (sd_cons (sd_asg (pd_callN G (O__law_period.mono (by decide)) (pa_consD (pd_var 3) pa_nilD)) (pg_tupD G.calm (pgs_consD (pg_nameD (i := 4) G.nd) (pgs_consD (pg_nameD (i := 5) G.nd) pgs_nilD)))) (sd_cons (sd_if (pt_eq G (pd_callN G (O__law_take.mono (by decide)) (pa_consD (pd_var 3) (pa_consD pd_int pa_nilD))) pd_int) (sd_one (sd_set 5 G.nd pd_int)) sd_nil) (sd_cons (sd_set 6 G.nd (pd_lst true (pa_consD (pd_callC G (C_by_period_2.mono (by decide)) (pa_consD (pd_var 4) (pa_consD (pd_var 5) pa_nilD))) (pa_consD (pd_var 4) (pa_consD (pd_var 5) pa_nilD))))) (sd_cons (sd_if (pt_eq G (pd_var 5) pd_int) (sd_one (sd_asg (pd_if (pt_eq G (pd_mod (pd_var 2) pd_int) pd_int) (pd_callC G (C_by_period_1.mono (by decide)) (pa_consD (pd_var 4) pa_nilD)) (pd_callCK0 G (C_by_period_0_phase_period.mono (by decide)) (pk_consD pd_int (pk_consD (pd_var 4) pk_nilD)))) (pg_subD (pd_var 6) pd_int))) sd_nil) (sd_cons (sd_for G (pi_range1D T.z_range (pa_consD pd_int pa_nilD)) (pg_nameD (i := 7) G.nd) (sd_one (sd_for G (pi_seqD (pd_lst false (pa_consD (pd_var 6) (pa_consD (pd_var 1) pa_nilD)))) (pg_nameD (i := 8) G.nd) (sd_cons (sd_if (pt_is (pd_var 8) pd_non) (sd_one sd_con) sd_nil) (sd_one (sd_for G (pi_seqD (pd_lst false (pa_consD (pd_callN G (O__law_distance.mono (by decide)) (pa_consD (pd_var 3) (pa_consD (pd_ix (pd_var 8) pd_int) (pa_consD (pd_ix (pd_var 8) pd_int) pa_nilD)))) (pa_consD pd_int pa_nilD)))) (pg_nameD (i := 9) G.nd) (sd_one (sd_if (pt_notD (pt_truD (pd_callN G (O__law_right.mono (by decide)) (pa_consD (pd_ix (pd_var 8) pd_int) (pa_consD (pd_var 9) (pa_consD (pd_ix (pd_var 8) pd_int) (pa_consD (pd_ix (pd_var 8) pd_int) pa_nilD))))))) (sd_one (sd_ret pd_bl)) sd_nil)))))))) (sd_one (sd_set 1 G.nd (pd_var 6)))))))))) (sd_one (sd_ret pd_bl))))
end L_k11
namespace L_k11
open PySem DL
local macro_rules | `(tactic| walk_at "st") => `(tactic| with_reducible first
  | refine s_seq ?_ | refine s_nil ?_ | refine s_asg ?_ | refine s_exp ?_ | refine s_ret ?_ | refine s_retN ?_ | refine s_brk ?_ | refine s_con ?_ | refine s_if ?_ | refine s_par ?_ | refine s_for ?_ | refine x_par ?_ | refine s_par3 ?_ | refine x_par3 ?_ | refine s_rz ?_ | refine s_rz3 rfl (by simp only [List.length_cons, List.length_nil]; decide) (by rfl) ?_ | refine s_try ?_ | refine e_xf (by with_unfolding_all rfl) (by decide +kernel) (by first | exact fld_1 | exact fld_2 (by decide +kernel) fld_1) ?_ | refine e_bm ?_ | refine isq_node ?_ | refine e_lcG ?_ | refine k_for ?_ | refine k_elt ?_ | refine i_en ?_ | refine en_N ?_ | refine e_tupOf ?_ | refine tp_L ?_ | refine tp_T ?_ | refine e_rev ?_ | refine rv_N ?_ | refine sl_N ?_ | refine s_aug (by with_unfolding_all rfl) ?_ | refine f_adII ?_ | refine f_ik3 ?_ | refine f_ic3 (by assumption) ?_ | refine f_se3 (by assumption) ?_ | refine r_1 ?_ | refine r_q (by omega) (by omega) ?_ | refine q_seq ?_ | refine q_S ?_ | refine q_L ?_ | refine q_K ?_ | refine q_T ?_ | refine p_nil ?_ | refine p_cons ?_
  | refine e_var (by with_unfolding_all rfl) ?_ | refine e_c ?_ | refine e_op ?_ | refine e_un ?_ | refine e_nil ?_ | refine e_cons ?_ | refine e_B ?_ | refine e_tup ?_ | refine e_lst ?_ | refine e_dct0 ?_ | refine e_sz (by simp only [List.length_cons, List.length_nil, sizeLine]; decide) ?_ | refine e_nwf ?_
  | refine e_and ?_ | refine e_or ?_ | refine e_not ?_ | refine e_if ?_ | refine e_chain ?_ | refine e_sl ?_ | refine e_no ?_ | refine e_part ?_ | refine e_call ?_ | refine e_callC ?_ | refine c_C rfl rfl (by with_unfolding_all simp only [pick, List.cons_append, List.nil_append, List.append_nil, List.getElem?_cons_zero, List.getElem?_cons_succ]; rfl) ?_ | refine e_m1 ?_ | refine e_m0 ?_ | refine e_lc ?_ | refine e_lcm ?_
  | refine t_yes ?_ | refine t_tru ?_ | refine t_bl ?_ | refine t_and ?_ | refine t_or ?_ | refine t_not ?_ | refine w_bl ?_ | refine w_non ?_ | refine w_int ?_ | refine x_bl ?_ | refine x_int ?_ | refine x_str ?_
  | refine i_T ?_ | refine i_F ?_ | refine i_not ?_ | refine i_dT (by first | assumption | omega | (simp only [List.length_cons, List.length_nil]; omega)) ?_ | refine i_dF (by first | assumption | omega | (simp only [List.length_cons, List.length_nil]; omega)) ?_
  | refine g_nil ?_ | refine g_cons ?_ | refine g_tup (by with_unfolding_all rfl) ?_ | refine g_sub ?_
  | refine f_adI ?_ | refine f_adT (by assumption) (by assumption) (by decide) fun _ => ?_ | refine f_slT (by assumption) (by decide) fun _ => ?_ | refine f_lnTx (by assumption) (by decide) fun _ => ?_ | refine f_adS (by unfold sizeLine; omega) ?_ | refine f_adL (by unfold sizeLine; simp only [List.length_append, List.length_cons, List.length_nil]; omega) ?_ | refine f_sub ?_ | refine f_mod (by first | decide | omega) ?_ | refine f_div (by first | exact cdiv64 (by first | decide | omega) (by first | decide | omega)) ?_ | refine f_mul (by first | exact cmul64 (by first | decide | omega) (by first | decide | omega)) ?_ | refine f_pow (cpow_of (by decide) (by decide) (by first | decide | omega)) ?_ | refine f_neg ?_
  | refine f_ltI ?_ | refine f_leI ?_ | refine f_gtI ?_ | refine f_geI ?_ | refine f_leS ?_ | refine f_ltS ?_ | refine f_eqI ?_ | refine f_neI ?_ | refine f_inS ?_ | refine f_intB ?_ | refine f_intI ?_ | refine f_abs ?_ | refine f_max ?_ | refine f_min ?_ | refine f_lnS (by first | assumption | (unfold sizeLine; omega)) ?_ | refine f_lnL ?_ | refine f_lnK ?_ | refine f_lnT ?_ | refine f_stI (by assumption) ?_ | refine f_slS (by first | assumption | (unfold sizeLine; omega)) ?_
  | refine f_ix0 ?_ | refine f_ix1 ?_ | refine f_ix2 ?_ | refine f_ik0 ?_ | refine f_ik1 ?_ | refine f_ik2 ?_ | refine f_ic0 (by assumption) ?_ | refine f_ic1 (by assumption) ?_ | refine f_ic2 (by assumption) ?_ | refine f_se0 (by assumption) ?_ | refine f_se2 (by assumption) ?_ | refine f_it0 ?_ | refine f_it1 ?_ | refine f_it2 ?_
  | refine g_n0 ?_ | refine g_n1 ?_ | refine g_n2 ?_ | refine g_n3 ?_ | refine g_n4 ?_ | refine g_n5 ?_ | refine g_n6 ?_ | refine g_n7 ?_ | refine g_n8 ?_ | refine g_n9 ?_ | refine g_n10 ?_ | refine g_n11 ?_ | refine g_set (by simp only [List.set_cons_zero, List.set_cons_succ]; rfl) ?_)
theorem take_spec {b m : Nat} {κ : Kap} {X : Str → List D → Kap → Prop} {Q : DQ} {w : Int} (hB : Bx b m κ) (hm : m ≤ 2 ^ 40) (w0 : 0 < w) (w1 : w < 2 ^ 64)
    (h : ∀ r κ', 0 ≤ r → r < w → Bx b (m + 1) κ' → Fr b κ κ' → Q (.int r) κ') : sp__law_take [.cell b, .int w] κ X Q := by
  obtain ⟨x, y, z, e, hy, hy2, hz, hzm⟩ := hB
  (unfold sp__law_take; refine s_sp rfl ?_; simp only [startD, List.map_cons, List.map_nil, List.length_cons, List.length_nil, Nat.zero_add, Nat.reduceAdd, Nat.reduceSub, List.replicate, List.cons_append, List.nil_append]; unfold b__law_take)
  (repeat walk_at "st")
  refine i_d (fun h0 => ?_) fun h0 => ?_
  · have hw := fm_bd x w w0
    (repeat walk_at "st")
    exact h _ _ hw.1 hw.2 ⟨_, y, z, kset_same, hy, hy2, hz, by omega⟩ Fr.box
  · (repeat walk_at "st")
    generalize hq : Int.fmod _ 2147483647 = q
    have h1 : 0 ≤ q ∧ q < 2147483647 := by rw [← hq]; exact fm_bd _ 2147483647 (by decide)
    (repeat walk_at "st")
    generalize Int.fdiv _ 16 = v
    have hw := fm_bd v w w0
    exact h _ _ hw.1 hw.2 ⟨_, y, z + 1, kset_same, hy, hy2, by omega, by omega⟩ Fr.box
theorem box_spec {κ : Kap} {X : Str → List D → Kap → Prop} {Q : DQ} {c : Int}
    (h : ∀ b κ', κ b = none → Bx b 0 κ' → (∀ n c, κ n = some c → κ' n = some c) → Q (.cell b) κ') : sp__law_box [.int c] κ X Q := by
  (unfold sp__law_box; refine s_sp rfl ?_; simp only [startD, List.map_cons, List.map_nil, List.length_cons, List.length_nil, Nat.zero_add, Nat.reduceAdd, Nat.reduceSub, List.replicate, List.cons_append, List.nil_append]; unfold b__law_box)
  (repeat walk_at "st")
  refine e_nwt fun n hn => ?_
  have hw := fm_bd c 2147483629 (by decide)
  refine h n _ hn ⟨_, _, 0, kset_same, hw.1, by omega, by decide, by decide⟩ fun m c e => ?_
  rw [kset_ne (kne e hn)]
  exact e
theorem cell_spec {κ : Kap} {X : Str → List D → Kap → Prop} {Q : DQ} {ns : List Int} {k : Nat} (hk : k < 100)
    (h : ∀ c : Int, Q (.int c) κ) : sp__law_cell [.node .klst (ns.map D.int), .int (k : Int)] κ X Q := by
  (unfold sp__law_cell; refine s_sp rfl ?_; simp only [startD, List.map_cons, List.map_nil, List.length_cons, List.length_nil, Nat.zero_add, Nat.reduceAdd, Nat.reduceSub, List.replicate, List.cons_append, List.nil_append]; unfold b__law_cell)
  (repeat walk_at "st")
  refine i_d (fun h0 => ?_) fun h0 => ?_
  · rw [List.length_map] at h0
    (repeat walk_at "st")
    have hk : k < ns.length := by omega
    exact ⟨_, at_nat (a := .int ns[k]) (by rw [List.getElem?_map, List.getElem?_eq_getElem hk]; rfl), h _⟩
  · (repeat walk_at "st")
    exact h _
theorem far_spec {b m : Nat} {κ : Kap} {X : Str → List D → Kap → Prop} {Q : DQ} (hB : Bx b m κ) (hm : m ≤ 2 ^ 39)
    (h : ∀ r κ', -(10 ^ 33) < r → r < 10 ^ 33 → Bx b (m + 12) κ' → Fr b κ κ' → Q (.int r) κ') : sp__law_far [.cell b] κ X Q := by
  (unfold sp__law_far; refine s_sp rfl ?_; simp only [startD, List.map_cons, List.map_nil, List.length_cons, List.length_nil, Nat.zero_add, Nat.reduceAdd, Nat.reduceSub, List.replicate, List.cons_append, List.nil_append]; unfold b__law_far)
  (repeat walk_at "st")
  refine take_spec hB (by omega) (by decide) (by decide) fun r κ1 r0 r1 B1 f1 => ?_
  (repeat walk_at "st")
  refine dl_ix (fun i δ κ' => ∃ v k, δ = [some (.cell b), some (.int v), k] ∧ 0 ≤ v ∧ v < 1000 ^ i ∧ Bx b (m + 1 + i) κ' ∧ Fr b κ κ') ?_ ?_ ⟨0, none, rfl, by decide, by decide, B1, f1⟩
  · rintro δ κ' ⟨v, k, rfl, v0, v1, B2, f2⟩
    rw [rangeD_len] at v1 B2
    have hv : v < 1000 ^ 10 := Int.lt_of_lt_of_le v1 (ipow_le (by decide) (by omega))
    refine ⟨trivial, ?_⟩
    (repeat walk_at "st")
    refine take_spec B2 (by omega) (by decide) (by decide) fun q κ3 q0 q1 B3 f3 => ?_
    have hw := fm_bd v 1000 (by decide)
    refine ix_mem q0 q1 fun d hd => ?_
    have B4 := B3.mono (m' := m + 12) (by omega)
    simp only [List.mem_cons, List.not_mem_nil, or_false] at hd
    rcases hd with rfl | rfl | rfl
    · exact h _ _ (by omega) (by omega) B4 (f2.trans f3)
    · exact h _ _ (by omega) (by omega) B4 (f2.trans f3)
    · exact h _ _ (by omega) (by omega) B4 (f2.trans f3)
  · rintro i d δ κ' L hd hL ⟨v, k, rfl, v0, v1, B2, f2⟩
    obtain ⟨hi, rfl⟩ := rangeD_get hd
    have hv : v < 1000 ^ 10 := Int.lt_of_lt_of_le v1 (ipow_le (by decide) (by omega))
    refine ⟨trivial, ?_⟩
    (repeat walk_at "st")
    refine f_mul (cmul_of 64 110 (by decide) (by omega) (by decide)) ?_
    (repeat walk_at "st")
    refine take_spec B2 (by omega) (by decide) (by decide) fun q κ3 q0 q1 B3 f3 => ?_
    (repeat walk_at "st")
    refine hL _ _ ⟨_, _, rfl, by omega, ?_, B3, f2.trans f3⟩
    rw [Int.pow_succ]
    omega
theorem plain_int {κ : Kap} {X : Str → List D → Kap → Prop} {Q : DQ} {i : Int} (h : Q (.bl true) κ) : sp_is_plain [.int i] κ X Q := by
  (unfold sp_is_plain; refine s_sp rfl ?_; simp only [startD, List.map_cons, List.map_nil, List.length_cons, List.length_nil, Nat.zero_add, Nat.reduceAdd, Nat.reduceSub, List.replicate, List.cons_append, List.nil_append]; unfold b_is_plain)
  (repeat walk_at "st")
  refine isi_in _ true rfl (by decide +kernel) ?_
  (repeat walk_at "st")
  refine isi_in _ false rfl (by decide +kernel) ?_
  (repeat walk_at "st")
  exact h
theorem plain_tup {κ : Kap} {X : Str → List D → Kap → Prop} {Q : DQ} {xs : List D} (h : Q (.bl false) κ) : sp_is_plain [.node .tup xs] κ X Q := by
  (unfold sp_is_plain; refine s_sp rfl ?_; simp only [startD, List.map_cons, List.map_nil, List.length_cons, List.length_nil, Nat.zero_add, Nat.reduceAdd, Nat.reduceSub, List.replicate, List.cons_append, List.nil_append]; unfold b_is_plain)
  (repeat walk_at "st")
  refine isi_in _ false rfl (by decide +kernel) ?_
  (repeat walk_at "st")
  exact h
theorem common_part_spec {κ : Kap} {X : Str → List D → Kap → Prop} {Q : DQ} {u l : Int} (h : Q (.int (Int.gcd u l : Int)) κ) : sp_common_part [.int u, .int l] κ X Q := by
  (unfold sp_common_part; refine s_sp rfl ?_; simp only [startD, List.map_cons, List.map_nil, List.length_cons, List.length_nil, Nat.zero_add, Nat.reduceAdd, Nat.reduceSub, List.replicate, List.cons_append, List.nil_append]; unfold b_common_part)
  (repeat walk_at "st")
  refine s_while (fun m δ κ' => κ' = κ ∧ ∃ x y : Nat, δ = [some (.int x), some (.int y)] ∧ Nat.gcd x y = Int.gcd u l ∧ y = m) ⟨_, rfl, u.natAbs, l.natAbs, by rw [abs_nat, abs_nat]; rfl, rfl, rfl⟩ ?_
  rintro m δ κ' L hL ⟨rfl, x, y, rfl, hg, rfl⟩
  (repeat walk_at "st")
  refine i_d (fun h0 => ?_) fun h0 => ?_
  · (repeat walk_at "st")
    have hy : y = 0 := by omega
    subst hy
    rw [Nat.gcd_zero_right] at hg
    rw [hg]
    exact h
  · (repeat walk_at "st")
    have hy : y ≠ 0 := by omega
    refine hL (x % y) _ _ (Nat.mod_lt _ (by omega)) ⟨rfl, y, x % y, ?_, by rw [gcd_step hy]; exact hg, rfl⟩
    rw [← Int.ofNat_fmod]
    rfl
theorem is_part_pair {κ : Kap} {X : Str → List D → Kap → Prop} {Q : DQ} {a b : Int} (n : NOk a b) (hb : b ≠ 1) (h : Q (.bl true) κ) : sp_is_part [.node .tup [.int a, .int b]] κ X Q := by
  have n1 := n.1
  (unfold sp_is_part; refine s_sp rfl ?_; simp only [startD, List.map_cons, List.map_nil, List.length_cons, List.length_nil, Nat.zero_add, Nat.reduceAdd, Nat.reduceSub, List.replicate, List.cons_append, List.nil_append]; unfold b_is_part)
  (repeat walk_at "st")
  refine isi_in _ true rfl (by decide +kernel) ?_
  (repeat walk_at "st")
  refine plain_int ?_
  (repeat walk_at "st")
  refine plain_int ?_
  (repeat walk_at "st")
  refine common_part_spec ?_
  rw [n.2]
  (repeat walk_at "st")
  rw [decide_eq_true (by rfl)]
  exact h
theorem reckoned_spec {κ : Kap} {X : Str → List D → Kap → Prop} {Q : DQ} {u l : Int} (hl : l ≠ 0) (hb : l.natAbs < 2 ^ 8000) (h : Q (nb (rtn u l) (rtd u l)) κ) : sp_reckoned [.int u, .int l] κ X Q := by
  have hg := Int.gcd_pos_of_ne_zero_right u hl
  have hgl := Int.gcd_le_natAbs_right u hl
  have hc : ∀ c : Int, c = cpt u l → Q (if decide (l.fdiv c = 1) = true then .int (u.fdiv c) else .node .tup [.int (u.fdiv c), .int (l.fdiv c)]) κ := by
    rintro c rfl
    have : nb (rtn u l) (rtd u l) = if decide (l.fdiv (cpt u l) = 1) = true then .int (u.fdiv (cpt u l)) else .node .tup [.int (u.fdiv (cpt u l)), .int (l.fdiv (cpt u l))] := by
      unfold nb rtn rtd
      by_cases h : l.fdiv (cpt u l) = 1
      · rw [if_pos h, if_pos (decide_eq_true h)]
      · rw [if_neg h, if_neg (by rw [decide_eq_false h]; decide)]
    rw [← this]
    exact h
  (unfold sp_reckoned; refine s_sp rfl ?_; simp only [startD, List.map_cons, List.map_nil, List.length_cons, List.length_nil, Nat.zero_add, Nat.reduceAdd, Nat.reduceSub, List.replicate, List.cons_append, List.nil_append]; unfold b_reckoned)
  (repeat walk_at "st")
  refine common_part_spec ?_
  (repeat walk_at "st")
  refine i_d (fun h0 => ?_) fun h0 => ?_
  · have hc := hc (0 - (Int.gcd u l : Int)) (by unfold cpt; rw [if_pos h0])
    generalize hcc : 0 - (Int.gcd u l : Int) = c at hc
    have hc0 : c ≠ 0 := by omega
    have hd : ∀ i, CDivD i c := fun i => cdiv_of 8000 hc0 (by omega) (by decide)
    (repeat walk_at "st")
    rw [hcc]
    refine f_div (hd _) ?_
    (repeat walk_at "st")
    refine f_div (hd _) ?_
    (repeat walk_at "st")
    refine i_d (fun h1 => ?_) fun h1 => ?_
    · rw [if_pos (decide_eq_true h1)] at hc
      (repeat walk_at "st")
      exact hc
    · rw [if_neg (by rw [decide_eq_false h1]; decide)] at hc
      (repeat walk_at "st")
      exact hc
  · have hc := hc (Int.gcd u l : Int) (by unfold cpt; rw [if_neg h0])
    generalize (Int.gcd u l) = c at hc hg hgl
    have hc0 : (c : Int) ≠ 0 := by omega
    have hd : ∀ i, CDivD i (c : Int) := fun i => cdiv_of 8000 hc0 (by omega) (by decide)
    (repeat walk_at "st")
    refine f_div (hd _) ?_
    (repeat walk_at "st")
    refine f_div (hd _) ?_
    (repeat walk_at "st")
    refine i_d (fun h1 => ?_) fun h1 => ?_
    · rw [if_pos (decide_eq_true h1)] at hc
      (repeat walk_at "st")
      exact hc
    · rw [if_neg (by rw [decide_eq_false h1]; decide)] at hc
      (repeat walk_at "st")
      exact hc
theorem pair_of_spec {κ : Kap} {X : Str → List D → Kap → Prop} {Q : DQ} {a b : Int} (n : NOk a b) (h : Q (.node .tup [.int a, .int b]) κ) : sp_pair_of [nb a b] κ X Q := by
  by_cases hb : b = 1
  · subst hb
    rw [nb_1]
    (unfold sp_pair_of; refine s_sp rfl ?_; simp only [startD, List.map_cons, List.map_nil, List.length_cons, List.length_nil, Nat.zero_add, Nat.reduceAdd, Nat.reduceSub, List.replicate, List.cons_append, List.nil_append]; unfold b_pair_of)
    (repeat walk_at "st")
    refine plain_int ?_
    (repeat walk_at "st")
    exact h
  · rw [nb_p hb]
    (unfold sp_pair_of; refine s_sp rfl ?_; simp only [startD, List.map_cons, List.map_nil, List.length_cons, List.length_nil, Nat.zero_add, Nat.reduceAdd, Nat.reduceSub, List.replicate, List.cons_append, List.nil_append]; unfold b_pair_of)
    (repeat walk_at "st")
    refine plain_tup ?_
    (repeat walk_at "st")
    refine is_part_pair n hb ?_
    (repeat walk_at "st")
    exact h
section
variable {κ : Kap} {X : Str → List D → Kap → Prop} {Q : DQ} {k : Nat} {a b c d : Int}
theorem times_spec (n : Nd k a b) (n' : Nd k c d) (hk : k ≤ 3000) (h : Q (nb (tN a b c d) (tD a b c d)) κ) : sp_times [nb a b, nb c d] κ X Q := by
  have hm1 : L2.CMulW a c := cmul_of k k n.tb n'.tb (by omega)
  have hm3 : L2.CMulW b d := cmul_of k k n.bb n'.bb (by omega)
  (unfold sp_times; refine s_sp rfl ?_; simp only [startD, List.map_cons, List.map_nil, List.length_cons, List.length_nil, Nat.zero_add, Nat.reduceAdd, Nat.reduceSub, List.replicate, List.cons_append, List.nil_append]; unfold b_times)
  (repeat walk_at "st")
  refine pair_of_spec n.ok ?_
  (repeat walk_at "st")
  refine pair_of_spec n'.ok ?_
  (repeat walk_at "st")
  refine f_mul hm1 ?_
  (repeat walk_at "st")
  refine f_mul hm3 ?_
  (repeat walk_at "st")
  exact reckoned_spec (n.bd0 n') (bd_mono (mul_bd n.bb n'.bb) (by omega)) h
end
section
variable {κ : Kap} {X : Str → List D → Kap → Prop} {Q : DQ} {k : Nat} {a b c d : Int}
theorem sign_spec (n : Nd k a b) (h : Q (.int ((if decide (0 < a) = true then 1 else 0) - (if decide (a < 0) = true then 1 else 0))) κ) : sp_sign_of [nb a b] κ X Q := by
  (unfold sp_sign_of; refine s_sp rfl ?_; simp only [startD, List.map_cons, List.map_nil, List.length_cons, List.length_nil, Nat.zero_add, Nat.reduceAdd, Nat.reduceSub, List.replicate, List.cons_append, List.nil_append]; unfold b_sign_of)
  (repeat walk_at "st")
  refine pair_of_spec n.ok ?_
  (repeat walk_at "st")
  exact h
theorem bare_spec (n : Nd k a b) (hk : k ≤ 3000) (h : Q (nb (rtn (if a < 0 then -a else a) b) (rtd (if a < 0 then -a else a) b)) κ) : sp_bare_of [nb a b] κ X Q := by
  (unfold sp_bare_of; refine s_sp rfl ?_; simp only [startD, List.map_cons, List.map_nil, List.length_cons, List.length_nil, Nat.zero_add, Nat.reduceAdd, Nat.reduceSub, List.replicate, List.cons_append, List.nil_append]; unfold b_bare_of)
  (repeat walk_at "st")
  refine pair_of_spec n.ok ?_
  (repeat walk_at "st")
  exact reckoned_spec n.b0 (bd_mono n.bb (by omega)) h
theorem less_spec (n : Nd k a b) (n' : Nd k c d) (hk : k ≤ 3000) (h : Q (.bl (decide (a * d < c * b))) κ) : sp_less [nb a b, nb c d] κ X Q := by
  have hm1 : L2.CMulW a d := cmul_of k k n.tb n'.bb (by omega)
  have hm2 : L2.CMulW c b := cmul_of k k n'.tb n.bb (by omega)
  (unfold sp_less; refine s_sp rfl ?_; simp only [startD, List.map_cons, List.map_nil, List.length_cons, List.length_nil, Nat.zero_add, Nat.reduceAdd, Nat.reduceSub, List.replicate, List.cons_append, List.nil_append]; unfold b_less)
  (repeat walk_at "st")
  refine pair_of_spec n.ok ?_
  (repeat walk_at "st")
  refine pair_of_spec n'.ok ?_
  (repeat walk_at "st")
  refine f_mul hm1 ?_
  (repeat walk_at "st")
  refine f_mul hm2 ?_
  (repeat walk_at "st")
  exact h
theorem floor_spec (n : Nd k a b) (n' : Nd k c d) (h0 : 0 < c) (hk : k ≤ 1000) (h : Q (nb (rtn (c * (a * d).fdiv (b * c)) d) (rtd (c * (a * d).fdiv (b * c)) d)) κ) : sp_floor_of [nb a b, nb c d] κ X Q := by
  have hm1 : L2.CMulW a d := cmul_of k k n.tb n'.bb (by omega)
  have hm2 : L2.CMulW b c := cmul_of k k n.bb n'.tb (by omega)
  have hbc : 0 < b * c := Int.mul_pos n.ok.1 h0
  have hd : CDivD (a * d) (b * c) := cdiv_of (k + k) (Int.ne_of_gt hbc) (mul_bd n.bb n'.tb) (by omega)
  have hq : ((a * d).fdiv (b * c)).natAbs < 2 ^ (k + k + 1) := by
    refine Nat.lt_of_le_of_lt (fdiv_abs_le hbc) ?_
    exact Nat.lt_of_lt_of_le (Nat.succ_lt_succ (mul_bd n.tb n'.bb)) (by rw [Nat.pow_succ]; have := Nat.one_le_two_pow (n := k + k); omega)
  (unfold sp_floor_of; refine s_sp rfl ?_; simp only [startD, List.map_cons, List.map_nil, List.length_cons, List.length_nil, Nat.zero_add, Nat.reduceAdd, Nat.reduceSub, List.replicate, List.cons_append, List.nil_append]; unfold b_floor_of)
  (repeat walk_at "st")
  refine pair_of_spec n.ok ?_
  (repeat walk_at "st")
  refine pair_of_spec n'.ok ?_
  (repeat walk_at "st")
  refine f_mul hm1 ?_
  (repeat walk_at "st")
  refine f_mul hm2 ?_
  (repeat walk_at "st")
  refine f_div hd ?_
  (repeat walk_at "st")
  generalize (a * d).fdiv (b * c) = q at hq h
  refine times_spec (k := k + k + 1) (c := q) (d := 1) (n'.mono (by omega)) ⟨.one q, hq, Nat.one_lt_two_pow (by omega)⟩ (by omega) ?_
  unfold tN tD
  rw [Int.mul_one]
  exact h
end
section
variable {κ : Kap} {X : Str → List D → Kap → Prop} {Q : DQ}
theorem number_yes {a b : Int} (n : NOk a b) (h : Q (.bl true) κ) : sp_is_number [nb a b] κ X Q := by
  by_cases hb : b = 1
  · subst hb
    rw [nb_1]
    (unfold sp_is_number; refine s_sp rfl ?_; simp only [startD, List.map_cons, List.map_nil, List.length_cons, List.length_nil, Nat.zero_add, Nat.reduceAdd, Nat.reduceSub, List.replicate, List.cons_append, List.nil_append]; unfold b_is_number)
    (repeat walk_at "st")
    refine plain_int ?_
    (repeat walk_at "st")
    exact h
  · rw [nb_p hb]
    (unfold sp_is_number; refine s_sp rfl ?_; simp only [startD, List.map_cons, List.map_nil, List.length_cons, List.length_nil, Nat.zero_add, Nat.reduceAdd, Nat.reduceSub, List.replicate, List.cons_append, List.nil_append]; unfold b_is_number)
    (repeat walk_at "st")
    refine plain_tup ?_
    (repeat walk_at "st")
    exact is_part_pair n hb h
end
theorem law_number_spec {κ : Kap} {X : Str → List D → Kap → Prop} {Q : DQ} {u l : Int} (hl : l ≠ 0) (hb : l.natAbs < 2 ^ 8000) (h : Q (nb (rtn u l) (rtd u l)) κ) : sp__law_number [.int u, .int l] κ X Q := by
  have hg := Int.gcd_pos_of_ne_zero_right u hl
  have hgl := Int.gcd_le_natAbs_right u hl
  have hc : ∀ c : Int, c = cpt u l → Q (if decide (l.fdiv c = 1) = true then .int (u.fdiv c) else .node .tup [.int (u.fdiv c), .int (l.fdiv c)]) κ := by
    rintro c rfl
    have : nb (rtn u l) (rtd u l) = if decide (l.fdiv (cpt u l) = 1) = true then .int (u.fdiv (cpt u l)) else .node .tup [.int (u.fdiv (cpt u l)), .int (l.fdiv (cpt u l))] := by
      unfold nb rtn rtd
      by_cases h : l.fdiv (cpt u l) = 1
      · rw [if_pos h, if_pos (decide_eq_true h)]
      · rw [if_neg h, if_neg (by rw [decide_eq_false h]; decide)]
    rw [← this]
    exact h
  (unfold sp__law_number; refine s_sp rfl ?_; simp only [startD, List.map_cons, List.map_nil, List.length_cons, List.length_nil, Nat.zero_add, Nat.reduceAdd, Nat.reduceSub, List.replicate, List.cons_append, List.nil_append]; unfold b__law_number)
  (repeat walk_at "st")
  refine s_while (fun m δ κ' => κ' = κ ∧ ∃ x y : Nat, δ = [some (.int u), some (.int l), some (.int x), some (.int y)] ∧ Nat.gcd x y = Int.gcd u l ∧ y = m) ⟨_, rfl, u.natAbs, l.natAbs, by rw [abs_nat, abs_nat]; rfl, rfl, rfl⟩ ?_
  rintro m δ κ' L hL ⟨rfl, x, y, rfl, hgg, rfl⟩
  (repeat walk_at "st")
  refine i_d (fun h0 => ?_) fun h0 => ?_
  · have hy : y = 0 := by omega
    subst hy
    rw [Nat.gcd_zero_right] at hgg
    subst hgg
    (repeat walk_at "st")
    refine i_d (fun h0 => ?_) fun h0 => ?_
    · have hc := hc (0 - (Int.gcd u l : Int)) (by unfold cpt; rw [if_pos h0])
      generalize hcc : 0 - (Int.gcd u l : Int) = c at hc
      have hc0 : c ≠ 0 := by omega
      have hd : ∀ i, CDivD i c := fun i => cdiv_of 8000 hc0 (by omega) (by decide)
      (repeat walk_at "st")
      rw [hcc]
      refine f_div (hd _) ?_
      (repeat walk_at "st")
      refine i_d (fun h1 => ?_) fun h1 => ?_
      · rw [if_pos (decide_eq_true h1)] at hc
        (repeat walk_at "st")
        refine f_div (hd _) ?_
        exact hc
      · rw [if_neg (by rw [decide_eq_false h1]; decide)] at hc
        (repeat walk_at "st")
        refine f_div (hd _) ?_
        (repeat walk_at "st")
        refine f_div (hd _) ?_
        (repeat walk_at "st")
        exact hc
    · have hc := hc (Int.gcd u l : Int) (by unfold cpt; rw [if_neg h0])
      generalize (Int.gcd u l) = c at hc hg hgl
      have hc0 : (c : Int) ≠ 0 := by omega
      have hd : ∀ i, CDivD i (c : Int) := fun i => cdiv_of 8000 hc0 (by omega) (by decide)
      (repeat walk_at "st")
      refine f_div (hd _) ?_
      (repeat walk_at "st")
      refine i_d (fun h1 => ?_) fun h1 => ?_
      · rw [if_pos (decide_eq_true h1)] at hc
        (repeat walk_at "st")
        refine f_div (hd _) ?_
        exact hc
      · rw [if_neg (by rw [decide_eq_false h1]; decide)] at hc
        (repeat walk_at "st")
        refine f_div (hd _) ?_
        (repeat walk_at "st")
        refine f_div (hd _) ?_
        (repeat walk_at "st")
        exact hc
  · (repeat walk_at "st")
    have hy : y ≠ 0 := by omega
    refine hL (x % y) _ _ (Nat.mod_lt _ (by omega)) ⟨rfl, y, x % y, ?_, by rw [gcd_step hy]; exact hgg, rfl⟩
    rw [← Int.ofNat_fmod]
    rfl
theorem law_pair_spec {κ : Kap} {X : Str → List D → Kap → Prop} {Q : DQ} {a b : Int} (h : Q (.node .tup [.int a, .int b]) κ) : sp__law_pair [nb a b] κ X Q := by
  by_cases hb : b = 1
  · subst hb
    rw [nb_1]
    (unfold sp__law_pair; refine s_sp rfl ?_; simp only [startD, List.map_cons, List.map_nil, List.length_cons, List.length_nil, Nat.zero_add, Nat.reduceAdd, Nat.reduceSub, List.replicate, List.cons_append, List.nil_append]; unfold b__law_pair)
    (repeat walk_at "st")
    refine isi_in _ false rfl (by decide +kernel) ?_
    (repeat walk_at "st")
    exact h
  · rw [nb_p hb]
    (unfold sp__law_pair; refine s_sp rfl ?_; simp only [startD, List.map_cons, List.map_nil, List.length_cons, List.length_nil, Nat.zero_add, Nat.reduceAdd, Nat.reduceSub, List.replicate, List.cons_append, List.nil_append]; unfold b__law_pair)
    (repeat walk_at "st")
    refine isi_in _ true rfl (by decide +kernel) ?_
    (repeat walk_at "st")
    exact h
theorem is_int {κ : Kap} {X : Str → List D → Kap → Prop} {Q : DQ} {n : Nat} {i j : Int} (h : Q (.bl (decide (i = j))) κ) : sp__law_is (n + 1) [.int i, .int j] κ X Q := by
  (unfold sp__law_is; refine s_sp rfl ?_; simp only [startD, List.map_cons, List.map_nil, List.length_cons, List.length_nil, Nat.zero_add, Nat.reduceAdd, Nat.reduceSub, List.replicate, List.cons_append, List.nil_append]; unfold b__law_is)
  (repeat walk_at "st")
  refine isi_in _ false rfl (by decide +kernel) ?_
  (repeat walk_at "st")
  refine isi_in _ true rfl (by decide +kernel) ?_
  (repeat walk_at "st")
  refine isi_in _ false rfl (by decide +kernel) ?_
  (repeat walk_at "st")
  exact h
theorem is_spec {κ : Kap} {X : Str → List D → Kap → Prop} {Q : DQ} {a b : Int} (h : Q (.bl true) κ) : sp__law_is 2 [nb a b, nb a b] κ X Q := by
  have hh : ∀ p : Prop, [Decidable p] → p → Q (.bl (decide p)) κ := fun p _ hp => by rw [decide_eq_true hp]; exact h
  by_cases hb : b = 1
  · subst hb
    rw [nb_1]
    exact is_int (hh _ rfl)
  · rw [nb_p hb]
    show sp__law_is (1 + 1) _ κ X Q
    (unfold sp__law_is; refine s_sp rfl ?_; simp only [startD, List.map_cons, List.map_nil, List.length_cons, List.length_nil, Nat.zero_add, Nat.reduceAdd, Nat.reduceSub, List.replicate, List.cons_append, List.nil_append]; unfold b__law_is)
    (repeat walk_at "st")
    refine isi_in _ true rfl (by decide +kernel) ?_
    (repeat walk_at "st")
    refine isi_in _ true rfl (by decide +kernel) ?_
    (repeat walk_at "st")
    refine f_eqP ?_
    (repeat walk_at "st")
    refine is_int ?_
    (repeat walk_at "st")
    refine is_int ?_
    exact hh _ rfl
theorem drawn_spec {b m : Nat} {κ : Kap} {X : Str → List D → Kap → Prop} {Q : DQ} (hB : Bx b m κ) (hm : m ≤ 2 ^ 38)
    (h : ∀ u l κ', Nd 128 u l → Bx b (m + 40) κ' → Fr b κ κ' → Q (nb u l) κ') : sp__law_drawn [.cell b] κ X Q := by
  (unfold sp__law_drawn; refine s_sp rfl ?_; simp only [startD, List.map_cons, List.map_nil, List.length_cons, List.length_nil, Nat.zero_add, Nat.reduceAdd, Nat.reduceSub, List.replicate, List.cons_append, List.nil_append]; unfold b__law_drawn)
  (repeat walk_at "st")
  refine take_spec hB (by omega) (by decide) (by decide) fun t1 κ1 _ _ B1 f1 => ?_
  (repeat walk_at "st")
  refine far_spec B1 (by omega) fun t2 κ2 _ _ B2 f2 => ?_
  (repeat walk_at "st")
  refine take_spec B2 (by omega) (by decide) (by decide) fun t3 κ3 c0 c1 B3 f3 => ?_
  refine ix_mem c0 c1 fun d1 hd1 => ?_
  have e1 : ∃ u : Int, d1 = .int u ∧ u.natAbs < 2 ^ 128 := by
    simp only [List.mem_cons, List.not_mem_nil, or_false] at hd1
    rcases hd1 with rfl | rfl
    · exact ⟨_, rfl, by omega⟩
    · exact ⟨_, rfl, by omega⟩
  obtain ⟨u, rfl, hu⟩ := e1
  (repeat walk_at "st")
  refine take_spec B3 (by omega) (by decide) (by decide) fun t4 κ4 _ _ B4 f4 => ?_
  (repeat walk_at "st")
  refine far_spec B4 (by omega) fun t5 κ5 _ _ B5 f5 => ?_
  (repeat walk_at "st")
  refine take_spec B5 (by omega) (by decide) (by decide) fun t6 κ6 c2 c3 B6 f6 => ?_
  refine ix_mem c2 c3 fun d2 hd2 => ?_
  have e2 : ∃ l : Int, d2 = .int l ∧ 0 < l ∧ l.natAbs < 2 ^ 128 := by
    simp only [List.mem_cons, List.not_mem_nil, or_false] at hd2
    rcases hd2 with rfl | rfl | rfl | rfl
    · exact ⟨_, rfl, by omega, by omega⟩
    · exact ⟨_, rfl, by omega, by omega⟩
    · exact ⟨_, rfl, by omega, by omega⟩
    · exact ⟨_, rfl, by split <;> omega, by split <;> omega⟩
  obtain ⟨l, rfl, hl, hl2⟩ := e2
  (repeat walk_at "st")
  exact law_number_spec (by omega) (bd_mono hl2 (by decide)) (h _ _ _ (.rt (by omega) hu hl2) (B6.mono (by omega)) (f1.trans (f2.trans (f3.trans (f4.trans (f5.trans f6))))))
section
variable {κ : Kap} {X : Str → List D → Kap → Prop} {Q : DQ} {k j : Nat} {p q : Rat}
theorem pair_q (h : Q (.node .tup [.int q.num, .int q.den]) κ) : sp_pair_of [nq q] κ X Q := pair_of_spec (nq_ok q) h
theorem reckoned_q {u l : Int} (hl : l ≠ 0) (hb : l.natAbs < 2 ^ 8000) (h : Q (nq (Rat.divInt u l)) κ) : sp_reckoned [.int u, .int l] κ X Q := reckoned_spec hl hb (by rw [nb_rt hl]; exact h)
theorem number_q (h : Q (.bl true) κ) : sp_is_number [nq q] κ X Q := number_yes (nq_ok q) h
theorem plus_q (n : Sz k p) (n' : Sz j q) (hk : k + j ≤ 8000) (h : Q (nq (p + q)) κ) : sp_plus [nq p, nq q] κ X Q := by
  have hm1 : L2.CMulW p.num q.den := cmul_of k j n.1 n'.db (by omega)
  have hm2 : L2.CMulW q.num p.den := cmul_of j k n'.1 n.db (by omega)
  have hm3 : L2.CMulW (p.den : Int) q.den := cmul_of k j n.db n'.db (by omega)
  (unfold sp_plus; refine s_sp rfl ?_; simp only [startD, List.map_cons, List.map_nil, List.length_cons, List.length_nil, Nat.zero_add, Nat.reduceAdd, Nat.reduceSub, List.replicate, List.cons_append, List.nil_append]; unfold b_plus)
  (repeat walk_at "st")
  refine pair_q ?_
  (repeat walk_at "st")
  refine pair_q ?_
  (repeat walk_at "st")
  refine f_mul hm1 ?_
  (repeat walk_at "st")
  refine f_mul hm2 ?_
  (repeat walk_at "st")
  refine f_mul hm3 ?_
  (repeat walk_at "st")
  refine reckoned_q (Sz.dd p q) (bd_mono (mul_bd n.db n'.db) (by omega)) ?_
  rw [← q_add]
  exact h
theorem minus_q (n : Sz k p) (n' : Sz j q) (hk : k + j ≤ 8000) (h : Q (nq (p - q)) κ) : sp_minus [nq p, nq q] κ X Q := by
  have hm1 : L2.CMulW p.num q.den := cmul_of k j n.1 n'.db (by omega)
  have hm2 : L2.CMulW q.num p.den := cmul_of j k n'.1 n.db (by omega)
  have hm3 : L2.CMulW (p.den : Int) q.den := cmul_of k j n.db n'.db (by omega)
  (unfold sp_minus; refine s_sp rfl ?_; simp only [startD, List.map_cons, List.map_nil, List.length_cons, List.length_nil, Nat.zero_add, Nat.reduceAdd, Nat.reduceSub, List.replicate, List.cons_append, List.nil_append]; unfold b_minus)
  (repeat walk_at "st")
  refine pair_q ?_
  (repeat walk_at "st")
  refine pair_q ?_
  (repeat walk_at "st")
  refine f_mul hm1 ?_
  (repeat walk_at "st")
  refine f_mul hm2 ?_
  (repeat walk_at "st")
  refine f_mul hm3 ?_
  (repeat walk_at "st")
  refine reckoned_q (Sz.dd p q) (bd_mono (mul_bd n.db n'.db) (by omega)) ?_
  rw [← q_sub]
  exact h
theorem times_q (n : Sz k p) (n' : Sz j q) (hk : k + j ≤ 8000) (h : Q (nq (p * q)) κ) : sp_times [nq p, nq q] κ X Q := by
  have hm1 : L2.CMulW p.num q.num := cmul_of k j n.1 n'.1 (by omega)
  have hm3 : L2.CMulW (p.den : Int) q.den := cmul_of k j n.db n'.db (by omega)
  (unfold sp_times; refine s_sp rfl ?_; simp only [startD, List.map_cons, List.map_nil, List.length_cons, List.length_nil, Nat.zero_add, Nat.reduceAdd, Nat.reduceSub, List.replicate, List.cons_append, List.nil_append]; unfold b_times)
  (repeat walk_at "st")
  refine pair_q ?_
  (repeat walk_at "st")
  refine pair_q ?_
  (repeat walk_at "st")
  refine f_mul hm1 ?_
  (repeat walk_at "st")
  refine f_mul hm3 ?_
  (repeat walk_at "st")
  refine reckoned_q (Sz.dd p q) (bd_mono (mul_bd n.db n'.db) (by omega)) ?_
  rw [← q_mul]
  exact h
theorem over_q (n : Sz k p) (n' : Sz j q) (h0 : q ≠ 0) (hk : k + j ≤ 8000) (h : Q (nq (p / q)) κ) : sp_over [nq p, nq q] κ X Q := by
  have hm1 : L2.CMulW p.num q.den := cmul_of k j n.1 n'.db (by omega)
  have hm3 : L2.CMulW (p.den : Int) q.num := cmul_of k j n.db n'.1 (by omega)
  have hq := q_num0 h0
  (unfold sp_over; refine s_sp rfl ?_; simp only [startD, List.map_cons, List.map_nil, List.length_cons, List.length_nil, Nat.zero_add, Nat.reduceAdd, Nat.reduceSub, List.replicate, List.cons_append, List.nil_append]; unfold b_over)
  (repeat walk_at "st")
  refine pair_q ?_
  (repeat walk_at "st")
  refine pair_q ?_
  (repeat walk_at "st")
  refine f_mul hm1 ?_
  (repeat walk_at "st")
  refine f_mul hm3 ?_
  (repeat walk_at "st")
  refine reckoned_q (Int.mul_ne_zero (Sz.d0 p) hq) (bd_mono (mul_bd n.db n'.1) (by omega)) ?_
  rw [← q_div]
  exact h
/-! the law's own -/
theorem lnum_q {u l : Int} (hl : l ≠ 0) (hb : l.natAbs < 2 ^ 8000) (h : Q (nq (Rat.divInt u l)) κ) : sp__law_number [.int u, .int l] κ X Q := law_number_spec hl hb (by rw [nb_rt hl]; exact h)
theorem lpair_q (h : Q (.node .tup [.int q.num, .int q.den]) κ) : sp__law_pair [nq q] κ X Q := law_pair_spec h
theorem is_q (e : p = q) (h : Q (.bl true) κ) : sp__law_is 2 [nq p, nq q] κ X Q := by
  rw [e]
  exact is_spec h
theorem sum_q (n : Sz k p) (n' : Sz j q) (hk : k + j ≤ 8000) (h : Q (nq (p + q)) κ) : sp__law_sum [nq p, nq q] κ X Q := by
  have hm1 : L2.CMulW p.num q.den := cmul_of k j n.1 n'.db (by omega)
  have hm2 : L2.CMulW q.num p.den := cmul_of j k n'.1 n.db (by omega)
  have hm3 : L2.CMulW (p.den : Int) q.den := cmul_of k j n.db n'.db (by omega)
  (unfold sp__law_sum; refine s_sp rfl ?_; simp only [startD, List.map_cons, List.map_nil, List.length_cons, List.length_nil, Nat.zero_add, Nat.reduceAdd, Nat.reduceSub, List.replicate, List.cons_append, List.nil_append]; unfold b__law_sum)
  (repeat walk_at "st")
  refine lpair_q ?_
  (repeat walk_at "st")
  refine lpair_q ?_
  (repeat walk_at "st")
  refine f_mul hm1 ?_
  (repeat walk_at "st")
  refine f_mul hm2 ?_
  (repeat walk_at "st")
  refine f_mul hm3 ?_
  (repeat walk_at "st")
  refine lnum_q (Sz.dd p q) (bd_mono (mul_bd n.db n'.db) (by omega)) ?_
  rw [← q_add]
  exact h
theorem prod_q (n : Sz k p) (n' : Sz j q) (hk : k + j ≤ 8000) (h : Q (nq (p * q)) κ) : sp__law_product [nq p, nq q] κ X Q := by
  have hm1 : L2.CMulW p.num q.num := cmul_of k j n.1 n'.1 (by omega)
  have hm3 : L2.CMulW (p.den : Int) q.den := cmul_of k j n.db n'.db (by omega)
  (unfold sp__law_product; refine s_sp rfl ?_; simp only [startD, List.map_cons, List.map_nil, List.length_cons, List.length_nil, Nat.zero_add, Nat.reduceAdd, Nat.reduceSub, List.replicate, List.cons_append, List.nil_append]; unfold b__law_product)
  (repeat walk_at "st")
  refine lpair_q ?_
  (repeat walk_at "st")
  refine lpair_q ?_
  (repeat walk_at "st")
  refine f_mul hm1 ?_
  (repeat walk_at "st")
  refine f_mul hm3 ?_
  (repeat walk_at "st")
  refine lnum_q (Sz.dd p q) (bd_mono (mul_bd n.db n'.db) (by omega)) ?_
  rw [← q_mul]
  exact h
end
theorem drawn_q {b m : Nat} {κ : Kap} {X : Str → List D → Kap → Prop} {Q : DQ} (hB : Bx b m κ) (hm : m ≤ 2 ^ 38)
    (h : ∀ q κ', Sz 128 q → Bx b (m + 40) κ' → Fr b κ κ' → Q (nq q) κ') : sp__law_drawn [.cell b] κ X Q := drawn_spec hB hm fun u l κ' n B f => by
  have hl := n.b0
  have e := rt_self n.ok
  have : nb u l = nq (Rat.divInt u l) := by rw [← nb_rt hl, e.1, e.2]
  rw [this]
  exact h _ _ (.divInt hl n.tb n.bb) B f
/-! the plain law of kinds of rounding -/
def qab (q : Rat) : Rat := if q < 0 then -q else q
def qT (q : Rat) : Int := if q.num < 0 then -q.num else q.num
def qsg (s d : Rat) : Rat := if d < 0 then s * ((-1 : Int) : Rat) else s
theorem q_neg {q : Rat} : q < 0 ↔ q.num < 0 := by
  constructor
  · intro h
    refine Int.not_le.mp fun z => ?_
    exact Rat.not_le.mpr h (Rat.num_nonneg.mp z)
  · intro h
    refine Rat.not_le.mp fun z => ?_
    have := Rat.num_nonneg.mpr z
    omega
theorem qab_num (q : Rat) : (qab q).num = qT q := by
  unfold qab qT
  by_cases h : q < 0
  · rw [if_pos h, if_pos (q_neg.mp h), Rat.neg_num]
  · rw [if_neg h, if_neg (fun z => h (q_neg.mpr z))]
theorem qab_den (q : Rat) : (qab q).den = q.den := by
  unfold qab
  split
  · rw [Rat.neg_den]
  · rfl
theorem qab_div (q : Rat) : qab q = Rat.divInt (qT q) q.den := by
  rw [← qab_num, ← qab_den, Rat.num_divInt_den]
theorem qab_0 (q : Rat) : 0 ≤ qab q := by
  unfold qab
  split <;> grind
theorem fl_is {y : Rat} {n : Int} (h1 : (n : Rat) ≤ y) (h2 : y < ((n + 1 : Int) : Rat)) : y.floor = n := by
  have a := Rat.le_floor_iff.mpr h1
  have c := Rat.floor_lt_iff.mpr h2
  omega
theorem fdm {u l : Int} (hl : 0 < l) : u.fdiv l * l ≤ u := by
  rw [Int.fdiv_eq_ediv_of_nonneg _ (by omega)]
  exact Int.ediv_mul_le u (by omega)
theorem fl_div {u l : Int} (hl : 0 < l) : (Rat.divInt u l).floor = u.fdiv l := by
  have hlr : (0 : Rat) < (l : Rat) := by exact_mod_cast hl
  rw [divInt_q]
  refine fl_is ?_ ?_
  · have h := fdm (u := u) hl
    have h2 : ((u.fdiv l : Int) : Rat) * (l : Rat) ≤ (u : Rat) := by exact_mod_cast h
    exact Rat.not_lt.mp fun z => Rat.not_lt.mpr h2 ((Rat.div_lt_iff hlr).mp z)
  · have h := Int.lt_fdiv_add_one_mul_self u hl
    have h2 : (u : Rat) < (((u.fdiv l + 1 : Int)) : Rat) * (l : Rat) := by exact_mod_cast h
    exact (Rat.div_lt_iff hlr).mpr h2
theorem sz_ab {k : Nat} {q : Rat} (h : Sz k q) : Sz k (qab q) := by
  refine ⟨?_, by rw [qab_den]; exact h.2⟩
  rw [qab_num]
  have := h.1
  unfold qT
  split <;> omega
theorem sz_fl {k : Nat} {q : Rat} (h : Sz k q) : q.floor.natAbs < 2 ^ k := by
  rw [Rat.floor_def]
  exact Nat.lt_of_le_of_lt (Int.natAbs_ediv_le_natAbs _ _) h.1
theorem sz_z {k : Nat} {i : Int} (h : i.natAbs < 2 ^ k) (hk : 1 ≤ k := by decide) : Sz k ((i : Int) : Rat) := .int h hk
section
variable {κ : Kap} {X : Str → List D → Kap → Prop} {Q : DQ} {k j : Nat} {p q : Rat}
theorem bare_q (n : Sz k q) (hk : k ≤ 3000) (h : Q (nq (qab q)) κ) : sp_bare_of [nq q] κ X Q := bare_spec (nq_nd n) hk (by
  rw [nb_rt (Sz.d0 q)]
  rw [qab_div] at h
  exact h)
theorem less_q (n : Sz k p) (n' : Sz k q) (hk : k ≤ 3000) (h : Q (.bl (decide (p < q))) κ) : sp_less [nq p, nq q] κ X Q := less_spec (nq_nd n) (nq_nd n') hk (by
  rw [decide_eq_decide.mpr (Rat.lt_iff p q)] at h
  exact h)
theorem q_pos (h : 0 < q) : 0 < q.num := by
  have a : 0 ≤ q.num := Rat.num_nonneg.mpr (Rat.le_of_lt h)
  have b : q.num ≠ 0 := fun z => by
    rw [Rat.num_eq_zero.mp z] at h
    exact absurd h (by decide)
  omega
theorem floor_q (n : Sz k p) (n' : Sz k q) (h0 : 0 < q) (hk : k ≤ 1000) (h : Q (nq (q * (((p / q).floor : Int) : Rat))) κ) : sp_floor_of [nq p, nq q] κ X Q := floor_spec (nq_nd n) (nq_nd n') (q_pos h0) hk (by
  have e : ((p.num * q.den).fdiv (p.den * q.num)) = (p / q).floor := by
    rw [q_div, fl_div]
    exact Int.mul_pos (by have := p.den_pos; omega) (q_pos h0)
  rw [nb_rt (Sz.d0 q), e]
  rw [q_mul] at h
  have e2 : ((q.den : Int) * (((p / q).floor : Int) : Rat).den) = q.den := by rw [Rat.den_intCast]; simp
  rw [e2, Rat.num_intCast] at h
  exact h)
theorem wsg_q (n : Sz k p) (n' : Sz j q) (hk : k ≤ 7000) (h : Q (nq (qsg p q)) κ) : sp_with_sign [nq p, nq q] κ X Q := by
  (unfold sp_with_sign; refine s_sp rfl ?_; simp only [startD, List.map_cons, List.map_nil, List.length_cons, List.length_nil, Nat.zero_add, Nat.reduceAdd, Nat.reduceSub, List.replicate, List.cons_append, List.nil_append]; unfold b_with_sign)
  (repeat walk_at "st")
  refine sign_spec (nq_nd n') ?_
  (repeat walk_at "st")
  refine i_d (fun e1 => ?_) fun e1 => ?_
  · have : q < 0 := q_neg.mpr (by
      simp only [decide_eq_true_eq] at e1
      split at e1 <;> split at e1 <;> omega)
    unfold qsg at h
    rw [if_pos this] at h
    (repeat walk_at "st")
    exact times_q (q := ((-1 : Int) : Rat)) (j := 1) n (sz_z (by decide)) (by omega) h
  · have : ¬ q < 0 := fun z => by
      have := q_neg.mp z
      simp only [decide_eq_true_eq] at e1
      split at e1 <;> (try split at e1) <;> omega
    unfold qsg at h
    rw [if_neg this] at h
    (repeat walk_at "st")
    exact h
theorem half_q : (D.node .tup [.int 1, .int 2] : D) = nq (1 / ((2 : Int) : Rat)) := by rw [nq_inv (by decide), nb_p (by decide)]
theorem floor1_q {y : Rat} (n : Sz k y) (hk : k ≤ 1000) (hk1 : 1 ≤ k) (h : Q (.int y.floor) κ) : sp_floor_of [nq y, .int 1] κ X Q := by
  refine floor_q (q := ((1 : Int) : Rat)) n (sz_z (Nat.one_lt_two_pow (by omega)) hk1) (by decide) hk ?_
  have e : ((1 : Int) : Rat) * ((((y / ((1 : Int) : Rat)).floor : Int)) : Rat) = ((y.floor : Int) : Rat) := by
    rw [Rat.intCast_one, Rat.one_mul, show y / 1 = y by grind]
  rw [e]
  exact h
end
/-! what lies nearest -/
def qmany (P S d : Rat) : Int := if ((d - S) / P + 1 / ((2 : Int) : Rat)).floor > 0 then ((d - S) / P + 1 / ((2 : Int) : Rat)).floor else 0
def qn (P S d : Rat) : Rat := S + P * (qmany P S d : Rat)
theorem qab_pos {d : Rat} (h : 0 ≤ d) : qab d = d := by
  unfold qab
  rw [if_neg (Rat.not_lt.mpr h)]
theorem half_is : (1 / ((2 : Int) : Rat)) = (1 : Rat) / 2 := rfl
theorem qn_many {P S d : Rat} (hP : 0 < P) : (qn P S d - S) * (1 / P) = (qmany P S d : Rat) := by
  have hp : P ≠ 0 := fun z => by rw [z] at hP; exact absurd hP (by decide)
  unfold qn
  generalize ((qmany P S d : Int) : Rat) = M
  have : P * P⁻¹ = 1 := Rat.mul_inv_cancel P hp
  rw [Rat.div_def]
  grind
theorem qmany_0 (P S d : Rat) : 0 ≤ qmany P S d := by
  unfold qmany
  split <;> omega
theorem qn_low {P S d : Rat} (hP : 0 < P) : 0 < P * (1 / ((2 : Int) : Rat)) - (d - qn P S d) := by
  have hp : P ≠ 0 := fun z => by rw [z] at hP; exact absurd hP (by decide)
  have hz : (d - S) / P * P = d - S := Rat.div_mul_cancel hp
  have h1 := Rat.lt_floor_add_one ((d - S) / P + 1 / ((2 : Int) : Rat))
  have h2 : (((((d - S) / P + 1 / ((2 : Int) : Rat)).floor + 1 : Int)) : Rat) ≤ ((qmany P S d + 1 : Int) : Rat) := by
    refine Rat.intCast_le_intCast.mpr ?_
    unfold qmany
    split <;> omega
  have h3 := Std.lt_of_lt_of_le h1 h2
  rw [half_is] at h3 ⊢
  unfold qn
  rw [Rat.intCast_add, Rat.intCast_one] at h3
  generalize ((qmany P S d : Int) : Rat) = M at h3
  generalize (d - S) / P = z at hz h3
  have key : P * (1 / 2) - (d - (S + P * M)) = P * (M + 1 / 2 - z) := by grind
  rw [key]
  refine Rat.mul_pos hP ?_
  grind
theorem qn_high {P S d : Rat} (hP : 0 < P) (hM : qmany P S d ≠ 0) : (d - qn P S d) * ((-1 : Int) : Rat) - P * (1 / ((2 : Int) : Rat)) ≤ 0 := by
  have hp : P ≠ 0 := fun z => by rw [z] at hP; exact absurd hP (by decide)
  have hz : (d - S) / P * P = d - S := Rat.div_mul_cancel hp
  have h1 := Rat.floor_le ((d - S) / P + 1 / ((2 : Int) : Rat))
  have h2 : qmany P S d = ((d - S) / P + 1 / ((2 : Int) : Rat)).floor := by
    unfold qmany at hM ⊢
    split
    · rfl
    · rename_i z; rw [if_neg z] at hM; exact absurd rfl hM
  rw [← h2] at h1
  rw [half_is] at h1 ⊢
  unfold qn
  generalize ((qmany P S d : Int) : Rat) = M at h1
  generalize (d - S) / P = z at hz h1
  have key : (d - (S + P * M)) * ((-1 : Int) : Rat) - P * (1 / 2) = -(P * (z + 1 / 2 - M)) := by
    have e : ((-1 : Int) : Rat) = -1 := rfl
    rw [e]
    grind
  rw [key]
  have := Rat.mul_nonneg (Rat.le_of_lt hP) (show 0 ≤ z + 1 / 2 - M by grind)
  grind
section
variable {κ : Kap} {X : Str → List D → Kap → Prop} {Q : DQ} {k j : Nat} {p q P S d f : Rat}
theorem lminus_q (n : Sz k p) (n' : Sz j q) (hk : k + j + 1 ≤ 8000) (h : Q (nq (p - q)) κ) : sp__law_minus [nq p, nq q] κ X Q := by
  (unfold sp__law_minus; refine s_sp rfl ?_; simp only [startD, List.map_cons, List.map_nil, List.length_cons, List.length_nil, Nat.zero_add, Nat.reduceAdd, Nat.reduceSub, List.replicate, List.cons_append, List.nil_append]; unfold b__law_minus)
  (repeat walk_at "st")
  rw [show ((0 : Int) - 1) = -1 from rfl]
  refine prod_q (q := ((-1 : Int) : Rat)) (j := 1) n' (sz_z (by decide)) (by omega) ?_
  (repeat walk_at "st")
  refine sum_q n (n'.mul (j := 1) (q := ((-1 : Int) : Rat)) (sz_z (by decide))) (by omega) ?_
  have e : p + q * ((-1 : Int) : Rat) = p - q := by
    have e : ((-1 : Int) : Rat) = -1 := rfl
    rw [e]
    grind
  rw [e]
  exact h
theorem above_yes (h0 : 0 < q) (h : Q (.bl true) κ) : sp__law_above [nq q] κ X Q := by
  have := q_pos h0
  (unfold sp__law_above; refine s_sp rfl ?_; simp only [startD, List.map_cons, List.map_nil, List.length_cons, List.length_nil, Nat.zero_add, Nat.reduceAdd, Nat.reduceSub, List.replicate, List.cons_append, List.nil_append]; unfold b__law_above)
  (repeat walk_at "st")
  refine lpair_q ?_
  (repeat walk_at "st")
  rw [decide_eq_true (show q.num > 0 from this)]
  exact h
theorem above_no (h0 : q ≤ 0) (h : Q (.bl false) κ) : sp__law_above [nq q] κ X Q := by
  have : ¬ q.num > 0 := fun z => by
    have a : 0 ≤ q := Rat.num_nonneg.mp (by omega)
    have e : q = 0 := Rat.le_antisymm h0 a
    rw [e] at z
    exact absurd z (by decide)
  (unfold sp__law_above; refine s_sp rfl ?_; simp only [startD, List.map_cons, List.map_nil, List.length_cons, List.length_nil, Nat.zero_add, Nat.reduceAdd, Nat.reduceSub, List.replicate, List.cons_append, List.nil_append]; unfold b__law_above)
  (repeat walk_at "st")
  refine lpair_q ?_
  (repeat walk_at "st")
  rw [decide_eq_false this]
  exact h
theorem nearest_p (n : Sz 280 q) (nP : Sz 128 P) (nS : Sz 132 S) (hP : 0 < P) (h : Q (nq (qsg (qn P S (qab q)) q)) κ) : sp_nearest [nq q, nq P, nq S] κ X Q := by
  have P0 : P ≠ 0 := fun z => by rw [z] at hP; exact absurd hP (by decide)
  have n1 : Sz 413 (qab q - S) := (sz_ab n).sub nS
  have n2 : Sz 541 ((qab q - S) / P) := n1.div nP P0
  have nh : Sz 3 (1 / ((2 : Int) : Rat)) := Sz.div (k := 1) (j := 2) (p := ((1 : Int) : Rat)) (sz_z (by decide)) (sz_z (by decide)) (by decide)
  have n3 : Sz 545 ((qab q - S) / P + 1 / ((2 : Int) : Rat)) := n2.add nh
  (unfold sp_nearest; refine s_sp rfl ?_; simp only [startD, List.map_cons, List.map_nil, List.length_cons, List.length_nil, Nat.zero_add, Nat.reduceAdd, Nat.reduceSub, List.replicate, List.cons_append, List.nil_append]; unfold b_nearest)
  (repeat walk_at "st")
  refine bare_q n (by decide) ?_
  (repeat walk_at "st")
  refine minus_q (sz_ab n) nS (by decide) ?_
  (repeat walk_at "st")
  refine over_q n1 nP P0 (by decide) ?_
  (repeat walk_at "st")
  rw [half_q]
  refine plus_q n2 nh (by decide) ?_
  (repeat walk_at "st")
  refine floor1_q n3 (by decide) (by decide) ?_
  (repeat walk_at "st")
  unfold qn qmany at h
  have n4 := sz_fl n3
  generalize ((qab q - S) / P + 1 / ((2 : Int) : Rat)).floor = m at h n4
  have n5 : Sz 545 (((if m > 0 then m else 0 : Int)) : Rat) := sz_z (by split <;> omega)
  refine times_q (p := P) (q := (((if m > 0 then m else 0 : Int)) : Rat)) nP n5 (by decide) ?_
  (repeat walk_at "st")
  refine plus_q (p := S) nS (nP.mul n5) (by decide) ?_
  (repeat walk_at "st")
  exact wsg_q (nS.add (nP.mul n5)) n (by decide) h
theorem qn_sz (n : Sz 280 q) (nP : Sz 128 P) (nS : Sz 132 S) (hP : 0 < P) : Sz 806 (qn P S q) := by
  have P0 : P ≠ 0 := fun z => by rw [z] at hP; exact absurd hP (by decide)
  have n1 : Sz 413 (q - S) := n.sub nS
  have n2 : Sz 541 ((q - S) / P) := n1.div nP P0
  have nh : Sz 3 (1 / ((2 : Int) : Rat)) := Sz.div (k := 1) (j := 2) (p := ((1 : Int) : Rat)) (sz_z (by decide)) (sz_z (by decide)) (by decide)
  have n3 : Sz 545 ((q - S) / P + 1 / ((2 : Int) : Rat)) := n2.add nh
  have n4 := sz_fl n3
  have n5 : Sz 545 (((qmany P S q : Int)) : Rat) := sz_z (by unfold qmany; split <;> omega)
  exact nS.add (nP.mul n5)
theorem told_p (n : Sz 280 d) (nP : Sz 128 P) (nS : Sz 132 S) (hP : 0 < P) (h : Q (.bl true) κ) : sp__law_told_right [nq (qn P S d), nq d, nq P, nq S] κ X Q := by
  have P0 : P ≠ 0 := fun z => by rw [z] at hP; exact absurd hP (by decide)
  have nf := qn_sz n nP nS hP
  have nh : Sz 3 (1 / ((2 : Int) : Rat)) := Sz.div (k := 1) (j := 2) (p := ((1 : Int) : Rat)) (sz_z (by decide)) (sz_z (by decide)) (by decide)
  have hn := q_pos hP
  have eI : Rat.divInt P.den P.num = 1 / P := by
    rw [← Rat.inv_def, Rat.div_def, Rat.one_mul]
  have nI : Sz 128 (1 / P) := by
    rw [← eI]
    exact Sz.divInt (by omega) nP.db nP.1
  (unfold sp__law_told_right; refine s_sp rfl ?_; simp only [startD, List.map_cons, List.map_nil, List.length_cons, List.length_nil, Nat.zero_add, Nat.reduceAdd, Nat.reduceSub, List.replicate, List.cons_append, List.nil_append]; unfold b__law_told_right)
  (repeat walk_at "st")
  refine lminus_q nf nS (by decide) ?_
  (repeat walk_at "st")
  refine lpair_q ?_
  (repeat walk_at "st")
  refine lpair_q ?_
  (repeat walk_at "st")
  refine lnum_q (by omega) (Nat.lt_trans nP.1 (Nat.pow_lt_pow_right (by decide) (by decide))) ?_
  (repeat walk_at "st")
  rw [eI]
  refine prod_q (nf.sub nS) nI (by decide) ?_
  rw [qn_many hP, nq_int]
  have hm := qmany_0 P S d
  have hlow := qn_low (S := S) (d := d) hP
  have hhigh := qn_high (S := S) (d := d) hP
  generalize qmany P S d = M at hm hhigh
  (repeat walk_at "st")
  refine ⟨_, false, rfl, by decide +kernel, ?_⟩
  (repeat walk_at "st")
  refine lminus_q n nf (by decide) ?_
  (repeat walk_at "st")
  rw [half_q]
  refine prod_q nP nh (by decide) ?_
  (repeat walk_at "st")
  refine lminus_q (nP.mul nh) (n.sub nf) (by decide) ?_
  refine above_yes hlow ?_
  (repeat walk_at "st")
  refine i_d (fun h0 => ?_) fun h0 => ?_
  · rw [decide_eq_true h0]
    exact h
  · (repeat walk_at "st")
    rw [show ((0 : Int) - 1) = -1 from rfl]
    refine prod_q (q := ((-1 : Int) : Rat)) (j := 1) (n.sub nf) (sz_z (by decide)) (by decide) ?_
    (repeat walk_at "st")
    refine lminus_q ((n.sub nf).mul (j := 1) (q := ((-1 : Int) : Rat)) (sz_z (by decide))) (nP.mul nh) (by decide) ?_
    refine above_no (hhigh h0) ?_
    (repeat walk_at "st")
    exact h
end
theorem seq_mid {s s' : DS} {δ : DEnv} {κ : Kap} {X : DX} {n bk ct : DEnv → Kap → Prop} {rt : DQ} (M : DEnv → Kap → Prop) (h1 : ∀ N : DEnv → Kap → Prop, (∀ δ κ, M δ κ → N δ κ) → s δ κ X ⟨N, rt, bk, ct⟩) (h2 : ∀ δ κ, M δ κ → s' δ κ X ⟨n, rt, bk, ct⟩) : sSeq s s' δ κ X ⟨n, rt, bk, ct⟩ := h1 _ h2
theorem l_seq {u : DS} {b : DLm} {δ : DEnv} {κ : Kap} {X : DX} {Q : DQ} (h : u δ κ X ⟨fun δ1 κ1 => b δ1 κ1 X Q, Q, fun _ _ => False, fun _ _ => False⟩) : lSeq u b δ κ X Q := h
theorem pure_nq (q : Rat) : pureD (nq q) = true := by
  unfold nq nb
  split
  · simp [pureD]
  · simp [pureD, pureD.pureL]
theorem pure_3 (p q r : Rat) : pureD.pureL [nq p, nq q, nq r] = true := by simp [pureD.pureL, pure_nq]
/-- a period and its phase -/
structure Pk (P S : Rat) : Prop where
  p0 : 0 < P
  s0 : 0 ≤ S
  sp : S < P
  zp : Sz 128 P
  zs : Sz 132 S
abbrev cloP (P S : Rat) : D := .node (.fnk "by_period" ["period", "phase"]) [codD "by_period", nq P, nq S]
def tbC (m : Nat) : Cell := .live (.tbk "by_period") (List.replicate m (codD "by_period"))
def Kt (κ : Kap) : Prop := ∃ m, κ 0 = some (tbC m)
theorem qsg_pos {f d : Rat} (h : 0 ≤ d) : qsg f d = f := by
  unfold qsg
  rw [if_neg (Rat.not_lt.mpr h)]
theorem qsg_neg {f d : Rat} (h : d < 0) : qsg f d = f * ((-1 : Int) : Rat) := by
  unfold qsg
  rw [if_pos h]
section
variable {κ : Kap} {X : Str → List D → Kap → Prop} {Q : DQ} {k j : Nat} {p q P S d f : Rat}
theorem sign_q (n : Sz k q) (h : ∀ z : Int, (z < 0 ↔ q < 0) → (0 < q → 0 < z) → Q (.int z) κ) : sp_sign_of [nq q] κ X Q := sign_spec (nq_nd n) (h _ (by
  rw [q_neg]
  simp only [decide_eq_true_eq]
  split <;> split <;> omega) (fun z => by
  have := q_pos z
  simp only [decide_eq_true_eq]
  split <;> split <;> omega))
theorem by_spec (k : Pk P S) (hK : Kt κ) (h : ∀ κ', Kt κ' → Fr 0 κ κ' → Q (cloP P S) κ') : sp_by_period [nq P, nq S] κ X Q := by
  obtain ⟨m, hm⟩ := hK
  unfold sp_by_period
  refine ⟨rfl, ?_⟩
  simp only [startD, List.map_cons, List.map_nil, List.length_cons, List.length_nil, Nat.zero_add, Nat.reduceAdd, Nat.reduceSub, List.replicate, List.cons_append, List.nil_append, List.append_nil]
  unfold b_by_period
  refine l_seq ?_
  (repeat walk_at "st")
  refine number_q ?_
  (repeat walk_at "st")
  refine sign_q k.zp fun z _ z2 => ?_
  have z3 := z2 k.p0
  (repeat walk_at "st")
  refine l_seq ?_
  (repeat walk_at "st")
  refine number_q ?_
  (repeat walk_at "st")
  refine sign_q k.zs fun z z1 _ => ?_
  have z4 : ¬ z < 0 := fun y => Rat.not_lt.mpr k.s0 (z1.mp y)
  (repeat walk_at "st")
  refine less_q k.zs (k.zp.mono (by decide)) (by decide) ?_
  rw [decide_eq_true k.sp]
  (repeat walk_at "st")
  exact ⟨0, m, [nq P, nq S], hm, rfl, fun q' hq' => h _ ⟨q', kset_same⟩ .box⟩
theorem lam_p (k : Pk P S) (n : Sz 280 d) (h : Q (nq (qsg (qn P S (qab d)) d)) κ) : spl_by_period_0 [nq d, nq P, nq S] κ X Q := by
  unfold spl_by_period_0
  refine ⟨rfl, ?_⟩
  simp only [startD, List.map_cons, List.map_nil, List.length_cons, List.length_nil, Nat.zero_add, Nat.reduceAdd, Nat.reduceSub, List.replicate, List.cons_append, List.nil_append, List.append_nil]
  unfold bl_by_period_0
  (repeat walk_at "st")
  exact nearest_p n k.zp k.zs k.p0 h
theorem e_callFn {x : Str} {fr : List Str} {i : Nat} {sp : DSp} {as : DA} {δ : DEnv} {X : DX} {cs : List D} (e : δ[i]? = some (some (.node (.fnk x fr) (codD x :: cs)))) (h : as δ κ X fun xs κ1 => pureD.pureL (xs ++ cs) = true ∧ sp (xs ++ cs) (fun _ => none) (fun _ _ _ => False) (fun d _ => pureD d = true ∧ Q d κ1)) : dCallFn x fr i sp as δ κ X Q := ⟨cs, e, h⟩
theorem sz_m (n : Sz k q) : Sz k (q * ((-1 : Int) : Rat)) := by
  have e : q * ((-1 : Int) : Rat) = -q := by
    have e : ((-1 : Int) : Rat) = -1 := rfl
    rw [e]
    grind
  rw [e]
  exact ⟨by rw [Rat.neg_num, Int.natAbs_neg]; exact n.1, by rw [Rat.neg_den]; exact n.2⟩
theorem qab_m (h : 0 ≤ q) : qab (q * ((-1 : Int) : Rat)) = q := by
  have e : ((-1 : Int) : Rat) = -1 := rfl
  rw [e]
  unfold qab
  split
  · grind
  · rename_i z
    have := Rat.not_lt.mp z
    grind
theorem right_p (k : Pk P S) (n : Sz 280 d) (h : Q (.bl true) κ) : sp__law_right [cloP P S, nq d, nq P, nq S] κ X Q := by
  have d0 := d.den_pos
  have na := sz_ab n
  have a0 := qab_0 d
  have hb : (d.den : Int).natAbs < 2 ^ 8000 := Nat.lt_trans n.db (Nat.pow_lt_pow_right (by decide) (by decide))
  have ea : Rat.divInt (if d.num < 0 then -d.num else d.num) d.den = qab d := (qab_div d).symm
  have eb : Rat.divInt (0 - (if d.num < 0 then -d.num else d.num)) d.den = qab d * ((-1 : Int) : Rat) := by
    have e : ((-1 : Int) : Rat) = -1 := rfl
    rw [Rat.divInt_eq_div, e, ← ea, Rat.divInt_eq_div, Rat.intCast_sub]
    simp only [Rat.div_def]
    have : ((0 : Int) : Rat) = 0 := rfl
    rw [this]
    grind
  have nf := qn_sz na k.zp k.zs k.p0
  (unfold sp__law_right; refine s_sp rfl ?_; simp only [startD, List.map_cons, List.map_nil, List.length_cons, List.length_nil, Nat.zero_add, Nat.reduceAdd, Nat.reduceSub, List.replicate, List.cons_append, List.nil_append]; unfold b__law_right)
  (repeat walk_at "st")
  refine lpair_q ?_
  (repeat walk_at "st")
  refine e_callFn (cs := [nq P, nq S]) rfl ?_
  (repeat walk_at "st")
  refine lnum_q (by omega) hb ?_
  rw [ea]
  (repeat walk_at "st")
  refine ⟨pure_3 _ _ _, lam_p k na ⟨pure_nq _, ?_⟩⟩
  rw [qab_pos a0, qsg_pos a0]
  generalize hf : qn P S (qab d) = f at nf
  (repeat walk_at "st")
  refine lpair_q ?_
  (repeat walk_at "st")
  refine lpair_q ?_
  (repeat walk_at "st")
  refine lnum_q (Sz.d0 f) (Nat.lt_trans nf.db (Nat.pow_lt_pow_right (by decide) (by decide))) ?_
  rw [Rat.num_divInt_den]
  refine is_q rfl ?_
  (repeat walk_at "st")
  refine lnum_q (by omega) hb ?_
  rw [ea]
  (repeat walk_at "st")
  rw [← hf]
  refine told_p na k.zp k.zs k.p0 ?_
  rw [hf]
  (repeat walk_at "st")
  refine e_callFn (cs := [nq P, nq S]) rfl ?_
  (repeat walk_at "st")
  refine lnum_q (by omega) hb ?_
  rw [eb]
  (repeat walk_at "st")
  refine ⟨pure_3 _ _ _, lam_p k (sz_m na) ⟨pure_nq _, ?_⟩⟩
  rw [qab_m a0, hf]
  (repeat walk_at "st")
  refine i_d (fun h0 => ?_) fun h0 => ?_
  · have hd : d = 0 := Rat.num_eq_zero.mp h0
    have hz : qab d * ((-1 : Int) : Rat) = 0 := by
      rw [hd, show qab 0 = 0 from rfl]
      exact Rat.zero_mul _
    rw [hz, qsg_pos Rat.le_refl]
    (repeat walk_at "st")
    exact is_q rfl h
  · have hneg : qab d * ((-1 : Int) : Rat) < 0 := by
      have e : ((-1 : Int) : Rat) = -1 := rfl
      have hd : d ≠ 0 := fun z => h0 (by rw [z]; rfl)
      have h1 : qab d ≠ 0 := fun z => by
        unfold qab at z
        split at z
        · exact hd (by grind)
        · exact hd z
      rw [e]
      have : 0 < qab d := Rat.lt_of_le_of_ne a0 (Ne.symm h1)
      grind
    rw [qsg_neg hneg]
    (repeat walk_at "st")
    rw [show ((0 : Int) - 1) = -1 from rfl]
    refine prod_q (q := ((-1 : Int) : Rat)) (j := 1) nf (sz_z (by decide)) (by decide) ?_
    (repeat walk_at "st")
    exact is_q rfl h
end
theorem part_01 {t l : Int} (h0 : 0 ≤ t) (h1 : t < l) : 0 ≤ Rat.divInt t l ∧ Rat.divInt t l < 1 := by
  have hl : (0 : Rat) < (l : Rat) := by exact_mod_cast (show (0 : Int) < l by omega)
  have hl0 : (l : Rat) ≠ 0 := fun z => by rw [z] at hl; exact absurd hl (by decide)
  refine ⟨Rat.divInt_nonneg h0 (by omega), ?_⟩
  rw [Rat.divInt_eq_div]
  have h2 : (t : Rat) / (l : Rat) * (l : Rat) = t := Rat.div_mul_cancel hl0
  have h3 : (t : Rat) < (l : Rat) := by exact_mod_cast h1
  by_cases z : (t : Rat) / (l : Rat) < 1
  · exact z
  · have z := Rat.not_lt.mp z
    have := Rat.mul_le_mul_of_nonneg_right z (Rat.le_of_lt hl)
    rw [h2, Rat.one_mul] at this
    exact absurd h3 (Rat.not_lt.mpr this)
section
variable {κ : Kap} {X : Str → List D → Kap → Prop} {Q : DQ} {P S : Rat}
theorem period_p {b m : Nat} (hB : Bx b m κ) (hm : m ≤ 2 ^ 37) (h : ∀ P S κ', Pk P S → Bx b (m + 60) κ' → Fr b κ κ' → Q (.node .tup [nq P, nq S]) κ') : sp__law_period [.cell b] κ X Q := by
  (unfold sp__law_period; refine s_sp rfl ?_; simp only [startD, List.map_cons, List.map_nil, List.length_cons, List.length_nil, Nat.zero_add, Nat.reduceAdd, Nat.reduceSub, List.replicate, List.cons_append, List.nil_append]; unfold b__law_period)
  (repeat walk_at "st")
  refine drawn_q hB (by omega) fun q κ1 n B1 f1 => ?_
  refine lpair_q ?_
  (repeat walk_at "st")
  have hd := q.den_pos
  have hmx : ∃ v : Int, (if (if q.num < 0 then -q.num else q.num) > 1 then (if q.num < 0 then -q.num else q.num) else 1) = v ∧ 0 < v ∧ v.natAbs < 2 ^ 128 := by
    refine ⟨_, rfl, ?_, ?_⟩
    · split <;> (try split) <;> omega
    · have := n.1
      split <;> (try split) <;> omega
  obtain ⟨v, ev, v0, v1⟩ := hmx
  rw [ev]
  refine lnum_q (by omega) (Nat.lt_trans n.db (Nat.pow_lt_pow_right (by decide) (by decide))) ?_
  have zP : Sz 128 (Rat.divInt v q.den) := .divInt (by omega) v1 n.db
  have P0 : 0 < Rat.divInt v q.den := by
    refine Rat.lt_of_le_of_ne (Rat.divInt_nonneg (by omega) (by omega)) fun z => ?_
    have e := z.symm
    rw [Rat.divInt_eq_div] at e
    have h2 : (v : Rat) / ((q.den : Int) : Rat) * ((q.den : Int) : Rat) = v := Rat.div_mul_cancel (fun y => by
      have : (q.den : Int) = 0 := by exact_mod_cast y
      omega)
    rw [e, Rat.zero_mul] at h2
    have : (0 : Int) = v := by exact_mod_cast h2
    omega
  generalize Rat.divInt v q.den = P at zP P0
  (repeat walk_at "st")
  refine take_spec B1 (by omega) (by decide) (by decide) fun t1 κ2 a0 a1 B2 f2 => ?_
  (repeat walk_at "st")
  refine take_spec B2 (by omega) (by omega) (by omega) fun t2 κ3 c0 c1 B3 f3 => ?_
  (repeat walk_at "st")
  refine lnum_q (by omega) (Nat.lt_trans (show (1 + t1).natAbs < 2 ^ 4 by omega) (Nat.pow_lt_pow_right (by decide) (by decide))) ?_
  have zt : Sz 4 (Rat.divInt t2 (1 + t1)) := .divInt (by omega) (by omega) (by omega)
  obtain ⟨r0, r1⟩ := part_01 c0 c1
  generalize Rat.divInt t2 (1 + t1) = τ at zt r0 r1
  refine prod_q zP zt (by decide) ?_
  (repeat walk_at "st")
  refine h P (P * τ) κ3 ⟨P0, Rat.mul_nonneg (Rat.le_of_lt P0) r0, ?_, zP, zP.mul zt⟩ (B3.mono (by omega)) (f1.trans (f2.trans f3))
  have := Rat.mul_lt_mul_of_pos_left r1 P0
  rw [Rat.mul_one] at this
  exact this
theorem frac_q {r : Int} (h0 : 0 ≤ r) : (D.node .tup [.int 1, .int (2 + r)] : D) = nq (1 / ((2 + r : Int) : Rat)) := by rw [nq_inv (by omega), nb_p (by omega)]
theorem frac_sz {r : Int} (h0 : 0 ≤ r) (h1 : r < 1000) : Sz 11 (1 / ((2 + r : Int) : Rat)) :=
  Sz.div (k := 1) (j := 10) (p := ((1 : Int) : Rat)) (sz_z (by decide)) (sz_z (by omega)) (fun z => by
    have : (2 + r : Int) = 0 := by exact_mod_cast z
    omega)
theorem distance_p {b m : Nat} (hB : Bx b m κ) (hm : m ≤ 2 ^ 37) (k : Pk P S) (h : ∀ d κ', Sz 280 d → Bx b (m + 60) κ' → Fr b κ κ' → Q (nq d) κ') : sp__law_distance [.cell b, nq P, nq S] κ X Q := by
  (unfold sp__law_distance; refine s_sp rfl ?_; simp only [startD, List.map_cons, List.map_nil, List.length_cons, List.length_nil, Nat.zero_add, Nat.reduceAdd, Nat.reduceSub, List.replicate, List.cons_append, List.nil_append]; unfold b__law_distance)
  (repeat walk_at "st")
  refine take_spec hB (by omega) (by decide) (by decide) fun t1 κ1 a0 a1 B1 f1 => ?_
  (repeat walk_at "st")
  refine take_spec B1 (by omega) (by decide) (by decide) fun t2 κ2 c0 c1 B2 f2 => ?_
  (repeat walk_at "st")
  refine take_spec B2 (by omega) (by decide) (by decide) fun t3 κ3 d0 d1 B3 f3 => ?_
  refine ix_mem d0 d1 fun x hx => ?_
  have ex : ∃ l : Int, x = .int l ∧ 1 ≤ l ∧ l ≤ 2 := by
    simp only [List.mem_cons, List.not_mem_nil, or_false] at hx
    rcases hx with rfl | rfl
    · exact ⟨_, rfl, by omega, by omega⟩
    · exact ⟨_, rfl, by omega, by omega⟩
  obtain ⟨l, rfl, l1, l2⟩ := ex
  have F3 := f1.trans (f2.trans f3)
  clear f1 f2 f3 B1 B2
  (repeat walk_at "st")
  refine lnum_q (by omega) (Nat.lt_trans (show l.natAbs < 2 ^ 4 by omega) (Nat.pow_lt_pow_right (by decide) (by decide))) ?_
  have zt : Sz 4 (Rat.divInt (t1 + t2) l) := .divInt (by omega) (by omega) (by omega)
  generalize Rat.divInt (t1 + t2) l = τ at zt
  refine prod_q k.zp zt (by decide) ?_
  (repeat walk_at "st")
  refine sum_q k.zs (k.zp.mul zt) (by decide) ?_
  have zq : Sz 265 (S + P * τ) := k.zs.add (k.zp.mul zt)
  generalize S + P * τ = q at zq
  (repeat walk_at "st")
  refine take_spec B3 (by omega) (by decide) (by decide) fun t4 κ4 e0 e1 B4 f4 => ?_
  have F4 := F3.trans f4
  clear F3 f4 B3
  (repeat walk_at "st")
  refine i_d (fun h1 => ?_) fun h1 => ?_
  · (repeat walk_at "st")
    refine take_spec B4 (by omega) (by decide) (by decide) fun t5 κ5 g0 g1 B5 f5 => ?_
    (repeat walk_at "st")
    rw [frac_q g0]
    refine sum_q zq (frac_sz g0 g1) (by decide) ?_
    (repeat walk_at "st")
    exact h _ _ (zq.add (frac_sz g0 g1) |>.mono (by decide)) (B5.mono (by omega)) (F4.trans f5)
  · (repeat walk_at "st")
    refine i_d (fun h2 => ?_) fun h2 => ?_
    · (repeat walk_at "st")
      refine take_spec B4 (by omega) (by decide) (by decide) fun t5 κ5 g0 g1 B5 f5 => ?_
      (repeat walk_at "st")
      rw [frac_q g0]
      refine lminus_q zq (frac_sz g0 g1) (by decide) ?_
      (repeat walk_at "st")
      exact h _ _ (zq.sub (frac_sz g0 g1) |>.mono (by decide)) (B5.mono (by omega)) (F4.trans f5)
    · (repeat walk_at "st")
      refine i_d (fun h3 => ?_) fun h3 => ?_
      · (repeat walk_at "st")
        refine drawn_q B4 (by omega) fun d κ5 n B5 f5 => ?_
        (repeat walk_at "st")
        exact h _ _ (n.mono (by decide)) (B5.mono (by omega)) (F4.trans f5)
      · (repeat walk_at "st")
        exact h _ _ (zq.mono (by decide)) (B4.mono (by omega)) F4
end
section
variable {κ κ' : Kap} {Q : DQ} {P S : Rat}
theorem is_non {x : D} {b : Bool} (e : isNon x = b) (h : Q (.bl b) κ) : fIs x .non κ Q := ⟨rfl, by rw [e]; exact h⟩
theorem f_eq0 (h : Q (.bl (decide (S = 0))) κ) : fEq (nq S) (.int 0) κ Q :=
  ⟨nqP S, nqP 0, pd_of (nq_pdata S), pd_of (nq_pdata 0), (nqP_sp S).shaped (by decide), (nqP_sp 0).shaped (by decide), by rw [nqP_eqv]; exact h⟩
theorem new0 {n : Nat} (hK : Kt κ) (e : κ n = none) : n ≠ 0 := fun z => by
  obtain ⟨m, hm⟩ := hK
  rw [z, hm] at e
  cases e
theorem Kt.set {n : Nat} {c : Cell} (hK : Kt κ) (hn : n ≠ 0) : Kt (kset κ n c) := let ⟨m, h⟩ := hK; ⟨m, by rw [kset_ne hn.symm]; exact h⟩
theorem Kt.frb {b : Nat} (hK : Kt κ) (hb : b ≠ 0) (f : Fr b κ κ') : Kt κ' := let ⟨m, h⟩ := hK; ⟨m, f _ _ hb.symm h⟩
theorem bx_fr {b m : Nat} (h : Bx b m κ) (hb : b ≠ 0) (f : Fr 0 κ κ') : Bx b m κ' := let ⟨x, y, z, h1, h2⟩ := h; ⟨x, y, z, f _ _ hb h1, h2⟩
/-- what was told ahead, if anything -/
def Sd (b : Nat) (κ : Kap) (d : D) : Prop := d = .non ∨ ∃ n P S, d = .cell n ∧ n ≠ b ∧ n ≠ 0 ∧ κ n = some (.live .lst [cloP P S, nq P, nq S]) ∧ Pk P S
theorem Sd.frb {b : Nat} {d : D} (h : Sd b κ d) (f : Fr b κ κ') : Sd b κ' d := by
  rcases h with h | ⟨n, P, S, h1, h2, h3, h4, h5⟩
  · exact .inl h
  · exact .inr ⟨n, P, S, h1, h2, h3, f _ _ h2 h4, h5⟩
theorem Sd.fr0 {b : Nat} {d : D} (h : Sd b κ d) (f : Fr 0 κ κ') : Sd b κ' d := by
  rcases h with h | ⟨n, P, S, h1, h2, h3, h4, h5⟩
  · exact .inl h
  · exact .inr ⟨n, P, S, h1, h2, h3, f _ _ h3 h4, h5⟩
theorem Pk.zero (k : Pk P S) : Pk P ((0 : Int) : Rat) := ⟨k.p0, Rat.le_refl, k.p0, k.zp, sz_z (by decide)⟩
end
theorem law_true : ∀ ns : List Int, ns.length ≤ 63 → sp_law [.node .klst (ns.map D.int)] (tabK ["by_period"]) (fun _ _ _ => False) (fun d _ => d = .bl true) := by
  intro ns hns
  have hK0 : Kt (tabK ["by_period"]) := ⟨0, rfl⟩
  generalize tabK ["by_period"] = κ0 at hK0
  (unfold sp_law; refine s_sp rfl ?_; simp only [startD, List.map_cons, List.map_nil, List.length_cons, List.length_nil, Nat.zero_add, Nat.reduceAdd, Nat.reduceSub, List.replicate, List.cons_append, List.nil_append]; unfold b_law)
  (repeat walk_at "st")
  rw [List.length_map]
  have hr : ∃ r : Nat, (if (if (ns.length : Int) < 8 then (ns.length : Int) else 8) > 2 then (if (ns.length : Int) < 8 then (ns.length : Int) else 8) else 2) = (r : Int) ∧ r ≤ 8 := by
    refine ⟨(if (if (ns.length : Int) < 8 then (ns.length : Int) else 8) > 2 then (if (ns.length : Int) < 8 then (ns.length : Int) else 8) else 2).toNat, ?_, ?_⟩
    · split <;> split <;> omega
    · split <;> split <;> omega
  obtain ⟨r, er, hr⟩ := hr
  rw [er]
  (repeat walk_at "st")
  refine dl_ix (fun i δ κ' => Kt κ' ∧ ∃ ah a2 a3 a4 a5 a6 a7 a8 a9, δ = [some (.node .klst (ns.map D.int)), some ah, a2, a3, a4, a5, a6, a7, a8, a9] ∧ Sd 0 κ' ah) ?_ ?_ ⟨hK0, _, _, _, _, _, _, _, _, _, rfl, .inl rfl⟩
  · rintro δ κ ⟨_, ah, a2, a3, a4, a5, a6, a7, a8, a9, rfl, _⟩
    refine ⟨trivial, ?_⟩
    (repeat walk_at "st")
    rfl
  · rintro i d δ κ L hd hL ⟨hK, ah, a2, a3, a4, a5, a6, a7, a8, a9, rfl, hS⟩
    obtain ⟨hi, rfl⟩ := rangeD_get hd
    refine ⟨trivial, ?_⟩
    (repeat walk_at "st")
    rw [Int.zero_add]
    refine cell_spec (by omega) fun c => ?_
    (repeat walk_at "st")
    refine box_spec fun b κ1 hb B0 f0 => ?_
    have b0 : b ≠ 0 := new0 hK hb
    have K1 : Kt κ1 := let ⟨m, h⟩ := hK; ⟨m, f0 _ _ h⟩
    have S1 : Sd b κ1 ah := by
      rcases hS with h | ⟨n, P, S, h1, h2, h3, h4, h5⟩
      · exact .inl h
      · exact .inr ⟨n, P, S, h1, kne h4 hb, h3, f0 _ _ h4, h5⟩
    clear f0 hb hK hS
    (repeat walk_at "st")
    refine period_p B0 (by omega) fun P S κ2 k B2 f2 => ?_
    have K2 := K1.frb b0 f2
    have S2 := S1.frb f2
    clear f2 B0 K1 S1
    walk_at "st"
    walk_at "st"
    walk_at "st"
    walk_at "st"
    walk_at "st"
    walk_at "st"
    refine seq_mid (fun δ κ' => ∃ S, δ = [some (.node .klst (ns.map D.int)), some ah, some (.int (i : Int)), some (.cell b), some (nq P), some (nq S), a6, a7, a8, a9] ∧ Pk P S ∧ Kt κ' ∧ Bx b 100 κ' ∧ Sd b κ' ah) (fun N hN => ?_) fun δ κ3 hM => ?_
    · (repeat walk_at "st")
      refine take_spec B2 (by omega) (by decide) (by decide) fun t1 κ3 _ _ B3 f3 => ?_
      have K3 := K2.frb b0 f3
      have S3 := S2.frb f3
      (repeat walk_at "st")
      refine i_d (fun h1 => ?_) fun h1 => ?_
      · (repeat walk_at "st")
        exact hN _ _ ⟨((0 : Int) : Rat), rfl, k.zero, K3, B3.mono (by omega), S3⟩
      · (repeat walk_at "st")
        exact hN _ _ ⟨S, rfl, k, K3, B3.mono (by omega), S3⟩
    obtain ⟨S, rfl, k, K3, B3, S3⟩ := hM
    clear K2 B2 S2
    (repeat walk_at "st")
    refine by_spec k K3 fun κ4 K4 f4 => ?_
    have B4 := bx_fr B3 b0 f4
    have S4 := S3.fr0 f4
    clear f4 B3 K3 S3
    (repeat walk_at "st")
    refine e_nwt fun n hn => ?_
    have n0 := new0 K4 hn
    have nb : n ≠ b := B4.ne hn
    have K5 : Kt (kset κ4 n (.live .lst [cloP P S, nq P, nq S])) := K4.set n0
    have B5 : Bx b 100 (kset κ4 n (.live .lst [cloP P S, nq P, nq S])) := B4.set nb
    have S5 : Sd b (kset κ4 n (.live .lst [cloP P S, nq P, nq S])) ah := S4.frb (.set hn)
    have e5 : kset κ4 n (.live .lst [cloP P S, nq P, nq S]) n = some (.live .lst [cloP P S, nq P, nq S]) := kset_same
    generalize kset κ4 n (.live .lst [cloP P S, nq P, nq S]) = κ5 at K5 B5 S5 e5
    clear K4 B4 S4 hn
    walk_at "st"
    refine seq_mid (fun δ κ' => δ = [some (.node .klst (ns.map D.int)), some ah, some (.int (i : Int)), some (.cell b), some (nq P), some (nq S), some (.cell n), a7, a8, a9] ∧ Kt κ' ∧ Bx b 100 κ' ∧ Sd b κ' ah ∧ κ' n = some (.live .lst [cloP P S, nq P, nq S])) (fun N hN => ?_) fun δ κ6 hM => ?_
    · (repeat walk_at "st")
      refine f_eq0 ?_
      (repeat walk_at "st")
      refine i_d (fun h0 => ?_) fun h0 => ?_
      · subst h0
        have fin : ∀ κ6, Kt κ6 → Fr 0 κ5 κ6 → N [some (.node .klst (ns.map D.int)), some ah, some (.int (i : Int)), some (.cell b), some (nq P), some (nq 0), some (.cell n), a7, a8, a9] (kset κ6 n (.live .lst [cloP P 0, nq P, nq 0])) := fun κ6 K6 f6 => by
          refine hN _ _ ⟨rfl, K6.set n0, (bx_fr B5 b0 f6).set nb, ?_, kset_same⟩
          have S6 := S5.fr0 f6
          rcases S6 with h | ⟨m, P', S', h1, h2, h3, h4, h5⟩
          · exact .inl h
          · by_cases hm : m = n
            · subst hm
              exact .inr ⟨m, P, 0, h1, h2, h3, kset_same, k⟩
            · exact .inr ⟨m, P', S', h1, h2, h3, by rw [kset_ne hm]; exact h4, h5⟩
        (repeat walk_at "st")
        refine i_d (fun h1 => ?_) fun h1 => ?_
        · (repeat walk_at "st")
          refine by_spec (S := ((0 : Int) : Rat)) k K5 fun κ6 K6 f6 => ?_
          have e6 := f6 _ _ n0 e5
          (repeat walk_at "st")
          exact fin κ6 K6 f6
        · (repeat walk_at "st")
          refine by_spec (S := ((0 : Int) : Rat)) k K5 fun κ6 K6 f6 => ?_
          have e6 := f6 _ _ n0 e5
          (repeat walk_at "st")
          exact fin κ6 K6 f6
      · (repeat walk_at "st")
        exact hN _ _ ⟨rfl, K5, B5, S5, e5⟩
    obtain ⟨rfl, K6, B6, S6, e6⟩ := hM
    clear K5 B5 S5 e5
    have S6n : Sd b κ6 (.cell n) := .inr ⟨n, P, S, rfl, nb, n0, e6, k⟩
    refine seq_mid (fun δ κ' => ∃ u7 u8 u9, δ = [some (.node .klst (ns.map D.int)), some ah, some (.int (i : Int)), some (.cell b), some (nq P), some (nq S), some (.cell n), u7, u8, u9] ∧ Kt κ' ∧ Sd b κ' (.cell n)) (fun N hN => ?_) fun δ κ6 hM => ?_
    · (repeat walk_at "st")
      refine dl_ix (fun j δ κ' => ∃ u7 u8 u9, δ = [some (.node .klst (ns.map D.int)), some ah, some (.int (i : Int)), some (.cell b), some (nq P), some (nq S), some (.cell n), u7, u8, u9] ∧ Fr b κ6 κ' ∧ Bx b (100 + j * 200) κ') ?_ ?_ ⟨_, _, _, rfl, .refl, B6⟩
      · rintro δ κ' ⟨u7, u8, u9, rfl, f, _⟩
        exact ⟨trivial, hN _ _ ⟨_, _, _, rfl, K6.frb b0 f, S6n.frb f⟩⟩
      · rintro j dj δ κ' L2 hdj hL2 ⟨u7, u8, u9, rfl, f, B7⟩
        obtain ⟨hj, rfl⟩ := rangeD_get hdj
        have hj5 : j < 5 := hj
        refine ⟨trivial, ?_⟩
        (repeat walk_at "st")
        refine dl_ix (fun j2 δ κ' => ∃ u8 u9, δ = [some (.node .klst (ns.map D.int)), some ah, some (.int (i : Int)), some (.cell b), some (nq P), some (nq S), some (.cell n), some (.int (0 + (j : Int))), u8, u9] ∧ Fr b κ6 κ' ∧ Bx b (100 + j * 200 + j2 * 70) κ') ?_ ?_ ⟨_, _, rfl, f, B7⟩
        · rintro δ κ8 ⟨u8, u9, rfl, f8, B8⟩
          exact ⟨trivial, hL2 _ _ ⟨_, _, _, rfl, f8, B8.mono (by simp only [List.length_cons, List.length_nil]; omega)⟩⟩
        · rintro j2 x δ κ8 L3 hx hL3 ⟨u8, u9, rfl, f8, B8⟩
          have hj2 : j2 < 2 := (List.getElem?_eq_some_iff.mp hx).1
          have hx2 : Sd b κ8 x := by
            have := List.mem_of_getElem? hx
            simp only [List.mem_cons, List.not_mem_nil, or_false] at this
            rcases this with rfl | rfl
            · exact S6n.frb f8
            · exact S6.frb f8
          refine ⟨trivial, ?_⟩
          rcases hx2 with rfl | ⟨n2, P2, S2, rfl, n2b, n20, e8, k2⟩
          · (repeat walk_at "st")
            refine is_non (b := true) rfl ?_
            (repeat walk_at "st")
            exact hL3 _ _ ⟨_, _, rfl, f8, B8.mono (by omega)⟩
          · (repeat walk_at "st")
            refine is_non (b := false) rfl ?_
            (repeat walk_at "st")
            refine distance_p B8 (by omega) k2 fun dd κ9 nd B9 f9 => ?_
            have e9 := f9 _ _ n2b e8
            have f69 := f8.trans f9
            clear f8 f9 B8 e8
            (repeat walk_at "st")
            refine dl_ix (fun j3 δ κ' => κ' = κ9 ∧ ∃ u9, δ = [some (.node .klst (ns.map D.int)), some ah, some (.int (i : Int)), some (.cell b), some (nq P), some (nq S), some (.cell n), some (.int (0 + (j : Int))), some (.cell n2), u9]) ?_ ?_ ⟨rfl, _, rfl⟩
            · rintro δ κ' ⟨rfl, u9, rfl⟩
              exact ⟨trivial, hL3 _ _ ⟨_, _, rfl, f69, B9.mono (by omega)⟩⟩
            · rintro j3 y δ κ' L4 hy hL4 ⟨rfl, u9, rfl⟩
              have hy2 : ∃ q, y = nq q ∧ Sz 280 q := by
                have := List.mem_of_getElem? hy
                simp only [List.mem_cons, List.not_mem_nil, or_false] at this
                rcases this with rfl | rfl
                · exact ⟨_, rfl, nd⟩
                · exact ⟨((0 : Int) : Rat), rfl, sz_z (by decide)⟩
              obtain ⟨q, rfl, zq⟩ := hy2
              refine ⟨trivial, ?_⟩
              (repeat walk_at "st")
              refine right_p k2 zq ?_
              (repeat walk_at "st")
              exact hL4 _ _ ⟨rfl, _, rfl⟩
    obtain ⟨u7, u8, u9, rfl, K7, S7⟩ := hM
    (repeat walk_at "st")
    refine hL _ _ ⟨K7, _, _, _, _, _, _, _, _, _, rfl, ?_⟩
    rcases S7 with h | ⟨m, P', S', h1, h2, h3, h4, h5⟩
    · cases h
    · exact .inr ⟨m, P', S', h1, h3, h3, h4, h5⟩
end L_k11
namespace L_k11
open PySem PySem.Spec PyProof.Rows L2 DL
/-! what the top has left -/
theorem all_mk {l : PySem.W.OpenLaw} {w : World} {K : PySem.W.Frag} {h : Heap} {mg : Str → Option Value} {fa : Addr} {f_is_plain : Addr} {od_is_plain an_is_plain : Option Addr} {sl_is_plain : Array (Option Value)} {oc_is_plain kV_is_plain dc_is_plain pm_is_plain cd_is_plain ct_is_plain : Value} {f_common_part : Addr} {od_common_part an_common_part : Option Addr} {sl_common_part : Array (Option Value)} {oc_common_part kV_common_part dc_common_part pm_common_part cd_common_part ct_common_part : Value} {f_is_part : Addr} {od_is_part an_is_part : Option Addr} {sl_is_part : Array (Option Value)} {oc_is_part kV_is_part dc_is_part pm_is_part cd_is_part ct_is_part : Value} {f_is_number : Addr} {od_is_number an_is_number : Option Addr} {sl_is_number : Array (Option Value)} {oc_is_number kV_is_number dc_is_number pm_is_number cd_is_number ct_is_number : Value} {f_reckoned : Addr} {od_reckoned an_reckoned : Option Addr} {sl_reckoned : Array (Option Value)} {oc_reckoned kV_reckoned dc_reckoned pm_reckoned cd_reckoned ct_reckoned : Value} {f_pair_of : Addr} {od_pair_of an_pair_of : Option Addr} {sl_pair_of : Array (Option Value)} {oc_pair_of kV_pair_of dc_pair_of pm_pair_of cd_pair_of ct_pair_of : Value} {f_plus : Addr} {od_plus an_plus : Option Addr} {sl_plus : Array (Option Value)} {oc_plus kV_plus dc_plus pm_plus cd_plus ct_plus : Value} {f_minus : Addr} {od_minus an_minus : Option Addr} {sl_minus : Array (Option Value)} {oc_minus kV_minus dc_minus pm_minus cd_minus ct_minus : Value} {f_times : Addr} {od_times an_times : Option Addr} {sl_times : Array (Option Value)} {oc_times kV_times dc_times pm_times cd_times ct_times : Value} {f_over : Addr} {od_over an_over : Option Addr} {sl_over : Array (Option Value)} {oc_over kV_over dc_over pm_over cd_over ct_over : Value} {f_sign_of : Addr} {od_sign_of an_sign_of : Option Addr} {sl_sign_of : Array (Option Value)} {oc_sign_of kV_sign_of dc_sign_of pm_sign_of cd_sign_of ct_sign_of : Value} {f_bare_of : Addr} {od_bare_of an_bare_of : Option Addr} {sl_bare_of : Array (Option Value)} {oc_bare_of kV_bare_of dc_bare_of pm_bare_of cd_bare_of ct_bare_of : Value} {f_less : Addr} {od_less an_less : Option Addr} {sl_less : Array (Option Value)} {oc_less kV_less dc_less pm_less cd_less ct_less : Value} {f_floor_of : Addr} {od_floor_of an_floor_of : Option Addr} {sl_floor_of : Array (Option Value)} {oc_floor_of dc_floor_of pm_floor_of cd_floor_of ct_floor_of : Value} {J_floor_of : Addr} {tj_floor_of_0 : Tok} {f_with_sign : Addr} {od_with_sign an_with_sign : Option Addr} {sl_with_sign : Array (Option Value)} {oc_with_sign kV_with_sign dc_with_sign pm_with_sign cd_with_sign ct_with_sign : Value} {f_nearest : Addr} {od_nearest an_nearest : Option Addr} {sl_nearest : Array (Option Value)} {oc_nearest kV_nearest dc_nearest pm_nearest cd_nearest ct_nearest : Value} {f_by_period : Addr} {od_by_period an_by_period : Option Addr} {sl_by_period : Array (Option Value)} {oc_by_period kV_by_period dc_by_period pm_by_period cd_by_period ct_by_period : Value} {T_by_period : Addr} {oT_by_period : Value} {dT_by_period : Option Addr} {nT_by_period : Nat} {sT_by_period : Array (Option Value)} {tk_by_period_0 : Tok} {f__law_cell : Addr} {od__law_cell an__law_cell : Option Addr} {sl__law_cell : Array (Option Value)} {oc__law_cell kV__law_cell dc__law_cell pm__law_cell cd__law_cell ct__law_cell : Value} {f__law_box : Addr} {od__law_box an__law_box : Option Addr} {sl__law_box : Array (Option Value)} {oc__law_box kV__law_box dc__law_box pm__law_box cd__law_box ct__law_box : Value} {f__law_take : Addr} {od__law_take an__law_take : Option Addr} {sl__law_take : Array (Option Value)} {oc__law_take kV__law_take dc__law_take pm__law_take cd__law_take ct__law_take : Value} {f__law_far : Addr} {od__law_far an__law_far : Option Addr} {sl__law_far : Array (Option Value)} {oc__law_far kV__law_far dc__law_far pm__law_far cd__law_far ct__law_far : Value} {f__law_number : Addr} {od__law_number an__law_number : Option Addr} {sl__law_number : Array (Option Value)} {oc__law_number kV__law_number dc__law_number pm__law_number cd__law_number ct__law_number : Value} {f__law_pair : Addr} {od__law_pair an__law_pair : Option Addr} {sl__law_pair : Array (Option Value)} {oc__law_pair kV__law_pair dc__law_pair pm__law_pair cd__law_pair ct__law_pair : Value} {f__law_is : Addr} {od__law_is an__law_is : Option Addr} {sl__law_is : Array (Option Value)} {oc__law_is kV__law_is dc__law_is pm__law_is cd__law_is ct__law_is : Value} {f__law_drawn : Addr} {od__law_drawn an__law_drawn : Option Addr} {sl__law_drawn : Array (Option Value)} {oc__law_drawn kV__law_drawn dc__law_drawn pm__law_drawn cd__law_drawn ct__law_drawn : Value} {f__law_sum : Addr} {od__law_sum an__law_sum : Option Addr} {sl__law_sum : Array (Option Value)} {oc__law_sum kV__law_sum dc__law_sum pm__law_sum cd__law_sum ct__law_sum : Value} {f__law_product : Addr} {od__law_product an__law_product : Option Addr} {sl__law_product : Array (Option Value)} {oc__law_product kV__law_product dc__law_product pm__law_product cd__law_product ct__law_product : Value} {f__law_minus : Addr} {od__law_minus an__law_minus : Option Addr} {sl__law_minus : Array (Option Value)} {oc__law_minus kV__law_minus dc__law_minus pm__law_minus cd__law_minus ct__law_minus : Value} {f__law_above : Addr} {od__law_above an__law_above : Option Addr} {sl__law_above : Array (Option Value)} {oc__law_above kV__law_above dc__law_above pm__law_above cd__law_above ct__law_above : Value} {f__law_period : Addr} {od__law_period an__law_period : Option Addr} {sl__law_period : Array (Option Value)} {oc__law_period kV__law_period dc__law_period pm__law_period cd__law_period ct__law_period : Value} {f__law_distance : Addr} {od__law_distance an__law_distance : Option Addr} {sl__law_distance : Array (Option Value)} {oc__law_distance kV__law_distance dc__law_distance pm__law_distance cd__law_distance ct__law_distance : Value} {f__law_told_right : Addr} {od__law_told_right an__law_told_right : Option Addr} {sl__law_told_right : Array (Option Value)} {oc__law_told_right kV__law_told_right dc__law_told_right pm__law_told_right cd__law_told_right ct__law_told_right : Value} {f__law_right : Addr} {od__law_right an__law_right : Option Addr} {sl__law_right : Array (Option Value)} {oc__law_right kV__law_right dc__law_right pm__law_right cd__law_right ct__law_right : Value} {f_law : Addr} {od_law an_law : Option Addr} {sl_law : Array (Option Value)} {oc_law kV_law dc_law pm_law cd_law ct_law : Value} {tc_by_period tP_by_period : Addr} {oc2_by_period : Value} {od2_by_period : Option Addr} {vs2_by_period : Array Value} {sl2_by_period : Array (Option Value)} (X : K.In h) (G : h.Ns mainGlobals mg) (hfa : mg "law" = some (.ref fa))
    (a_is_plain : PySem.W.nsIn K mainGlobals "is_plain" = some (some (.ref f_is_plain)))
    (l_is_plain : K.lookup f_is_plain = some ⟨oc_is_plain, od_is_plain, .func (PySem.W.fnOf "is_plain" "is_plain" (defArgs s_is_plain) (defBody s_is_plain) (defScope s_is_plain) .none kV_is_plain dc_is_plain pm_is_plain an_is_plain cd_is_plain ct_is_plain), sl_is_plain⟩)
    (c_is_plain : PySem.W.codeIn K cd_is_plain "is_plain" = true)
    (k_is_plain : PySem.W.keepIn K (.ref f_is_plain) = true)
    (a_common_part : PySem.W.nsIn K mainGlobals "common_part" = some (some (.ref f_common_part)))
    (l_common_part : K.lookup f_common_part = some ⟨oc_common_part, od_common_part, .func (PySem.W.fnOf "common_part" "common_part" (defArgs s_common_part) (defBody s_common_part) (defScope s_common_part) .none kV_common_part dc_common_part pm_common_part an_common_part cd_common_part ct_common_part), sl_common_part⟩)
    (c_common_part : PySem.W.codeIn K cd_common_part "common_part" = true)
    (k_common_part : PySem.W.keepIn K (.ref f_common_part) = true)
    (a_is_part : PySem.W.nsIn K mainGlobals "is_part" = some (some (.ref f_is_part)))
    (l_is_part : K.lookup f_is_part = some ⟨oc_is_part, od_is_part, .func (PySem.W.fnOf "is_part" "is_part" (defArgs s_is_part) (defBody s_is_part) (defScope s_is_part) .none kV_is_part dc_is_part pm_is_part an_is_part cd_is_part ct_is_part), sl_is_part⟩)
    (c_is_part : PySem.W.codeIn K cd_is_part "is_part" = true)
    (k_is_part : PySem.W.keepIn K (.ref f_is_part) = true)
    (a_is_number : PySem.W.nsIn K mainGlobals "is_number" = some (some (.ref f_is_number)))
    (l_is_number : K.lookup f_is_number = some ⟨oc_is_number, od_is_number, .func (PySem.W.fnOf "is_number" "is_number" (defArgs s_is_number) (defBody s_is_number) (defScope s_is_number) .none kV_is_number dc_is_number pm_is_number an_is_number cd_is_number ct_is_number), sl_is_number⟩)
    (c_is_number : PySem.W.codeIn K cd_is_number "is_number" = true)
    (k_is_number : PySem.W.keepIn K (.ref f_is_number) = true)
    (a_reckoned : PySem.W.nsIn K mainGlobals "reckoned" = some (some (.ref f_reckoned)))
    (l_reckoned : K.lookup f_reckoned = some ⟨oc_reckoned, od_reckoned, .func (PySem.W.fnOf "reckoned" "reckoned" (defArgs s_reckoned) (defBody s_reckoned) (defScope s_reckoned) .none kV_reckoned dc_reckoned pm_reckoned an_reckoned cd_reckoned ct_reckoned), sl_reckoned⟩)
    (c_reckoned : PySem.W.codeIn K cd_reckoned "reckoned" = true)
    (k_reckoned : PySem.W.keepIn K (.ref f_reckoned) = true)
    (a_pair_of : PySem.W.nsIn K mainGlobals "pair_of" = some (some (.ref f_pair_of)))
    (l_pair_of : K.lookup f_pair_of = some ⟨oc_pair_of, od_pair_of, .func (PySem.W.fnOf "pair_of" "pair_of" (defArgs s_pair_of) (defBody s_pair_of) (defScope s_pair_of) .none kV_pair_of dc_pair_of pm_pair_of an_pair_of cd_pair_of ct_pair_of), sl_pair_of⟩)
    (c_pair_of : PySem.W.codeIn K cd_pair_of "pair_of" = true)
    (k_pair_of : PySem.W.keepIn K (.ref f_pair_of) = true)
    (a_plus : PySem.W.nsIn K mainGlobals "plus" = some (some (.ref f_plus)))
    (l_plus : K.lookup f_plus = some ⟨oc_plus, od_plus, .func (PySem.W.fnOf "plus" "plus" (defArgs s_plus) (defBody s_plus) (defScope s_plus) .none kV_plus dc_plus pm_plus an_plus cd_plus ct_plus), sl_plus⟩)
    (c_plus : PySem.W.codeIn K cd_plus "plus" = true)
    (k_plus : PySem.W.keepIn K (.ref f_plus) = true)
    (a_minus : PySem.W.nsIn K mainGlobals "minus" = some (some (.ref f_minus)))
    (l_minus : K.lookup f_minus = some ⟨oc_minus, od_minus, .func (PySem.W.fnOf "minus" "minus" (defArgs s_minus) (defBody s_minus) (defScope s_minus) .none kV_minus dc_minus pm_minus an_minus cd_minus ct_minus), sl_minus⟩)
    (c_minus : PySem.W.codeIn K cd_minus "minus" = true)
    (k_minus : PySem.W.keepIn K (.ref f_minus) = true)
    (a_times : PySem.W.nsIn K mainGlobals "times" = some (some (.ref f_times)))
    (l_times : K.lookup f_times = some ⟨oc_times, od_times, .func (PySem.W.fnOf "times" "times" (defArgs s_times) (defBody s_times) (defScope s_times) .none kV_times dc_times pm_times an_times cd_times ct_times), sl_times⟩)
    (c_times : PySem.W.codeIn K cd_times "times" = true)
    (k_times : PySem.W.keepIn K (.ref f_times) = true)
    (a_over : PySem.W.nsIn K mainGlobals "over" = some (some (.ref f_over)))
    (l_over : K.lookup f_over = some ⟨oc_over, od_over, .func (PySem.W.fnOf "over" "over" (defArgs s_over) (defBody s_over) (defScope s_over) .none kV_over dc_over pm_over an_over cd_over ct_over), sl_over⟩)
    (c_over : PySem.W.codeIn K cd_over "over" = true)
    (k_over : PySem.W.keepIn K (.ref f_over) = true)
    (a_sign_of : PySem.W.nsIn K mainGlobals "sign_of" = some (some (.ref f_sign_of)))
    (l_sign_of : K.lookup f_sign_of = some ⟨oc_sign_of, od_sign_of, .func (PySem.W.fnOf "sign_of" "sign_of" (defArgs s_sign_of) (defBody s_sign_of) (defScope s_sign_of) .none kV_sign_of dc_sign_of pm_sign_of an_sign_of cd_sign_of ct_sign_of), sl_sign_of⟩)
    (c_sign_of : PySem.W.codeIn K cd_sign_of "sign_of" = true)
    (k_sign_of : PySem.W.keepIn K (.ref f_sign_of) = true)
    (a_bare_of : PySem.W.nsIn K mainGlobals "bare_of" = some (some (.ref f_bare_of)))
    (l_bare_of : K.lookup f_bare_of = some ⟨oc_bare_of, od_bare_of, .func (PySem.W.fnOf "bare_of" "bare_of" (defArgs s_bare_of) (defBody s_bare_of) (defScope s_bare_of) .none kV_bare_of dc_bare_of pm_bare_of an_bare_of cd_bare_of ct_bare_of), sl_bare_of⟩)
    (c_bare_of : PySem.W.codeIn K cd_bare_of "bare_of" = true)
    (k_bare_of : PySem.W.keepIn K (.ref f_bare_of) = true)
    (a_less : PySem.W.nsIn K mainGlobals "less" = some (some (.ref f_less)))
    (l_less : K.lookup f_less = some ⟨oc_less, od_less, .func (PySem.W.fnOf "less" "less" (defArgs s_less) (defBody s_less) (defScope s_less) .none kV_less dc_less pm_less an_less cd_less ct_less), sl_less⟩)
    (c_less : PySem.W.codeIn K cd_less "less" = true)
    (k_less : PySem.W.keepIn K (.ref f_less) = true)
    (a_floor_of : PySem.W.nsIn K mainGlobals "floor_of" = some (some (.ref f_floor_of)))
    (l_floor_of : K.lookup f_floor_of = some ⟨oc_floor_of, od_floor_of, .func (PySem.W.fnOf "floor_of" "floor_of" (defArgs s_floor_of) (defBody s_floor_of) (defScope s_floor_of) .none (.ref J_floor_of) dc_floor_of pm_floor_of an_floor_of cd_floor_of ct_floor_of), sl_floor_of⟩)
    (c_floor_of : PySem.W.codeIn K cd_floor_of "floor_of" = true)
    (k_floor_of : PySem.W.keepIn K (.ref f_floor_of) = true)
    (j_floor_of_step : PySem.W.nsIn K J_floor_of "step" = some (some (.int (1) tj_floor_of_0)))
    (a_with_sign : PySem.W.nsIn K mainGlobals "with_sign" = some (some (.ref f_with_sign)))
    (l_with_sign : K.lookup f_with_sign = some ⟨oc_with_sign, od_with_sign, .func (PySem.W.fnOf "with_sign" "with_sign" (defArgs s_with_sign) (defBody s_with_sign) (defScope s_with_sign) .none kV_with_sign dc_with_sign pm_with_sign an_with_sign cd_with_sign ct_with_sign), sl_with_sign⟩)
    (c_with_sign : PySem.W.codeIn K cd_with_sign "with_sign" = true)
    (k_with_sign : PySem.W.keepIn K (.ref f_with_sign) = true)
    (a_nearest : PySem.W.nsIn K mainGlobals "nearest" = some (some (.ref f_nearest)))
    (l_nearest : K.lookup f_nearest = some ⟨oc_nearest, od_nearest, .func (PySem.W.fnOf "nearest" "nearest" (defArgs s_nearest) (defBody s_nearest) (defScope s_nearest) .none kV_nearest dc_nearest pm_nearest an_nearest cd_nearest ct_nearest), sl_nearest⟩)
    (c_nearest : PySem.W.codeIn K cd_nearest "nearest" = true)
    (k_nearest : PySem.W.keepIn K (.ref f_nearest) = true)
    (a_by_period : PySem.W.nsIn K mainGlobals "by_period" = some (some (.ref f_by_period)))
    (l_by_period : K.lookup f_by_period = some ⟨oc_by_period, od_by_period, .func (PySem.W.fnOf "by_period" "by_period" (defArgs s_by_period) (defBody s_by_period) (defScope s_by_period) (.ref T_by_period) kV_by_period dc_by_period pm_by_period an_by_period cd_by_period ct_by_period), sl_by_period⟩)
    (c_by_period : PySem.W.codeIn K cd_by_period "by_period" = true)
    (k_by_period : PySem.W.keepIn K (.ref f_by_period) = true)
    (t_by_period : K.lookup T_by_period = some ⟨oT_by_period, dT_by_period, .seq #[.int (0) tk_by_period_0] nT_by_period, sT_by_period⟩)
    (a__law_cell : PySem.W.nsIn K mainGlobals "_law_cell" = some (some (.ref f__law_cell)))
    (l__law_cell : K.lookup f__law_cell = some ⟨oc__law_cell, od__law_cell, .func (PySem.W.fnOf "_law_cell" "_law_cell" (defArgs s__law_cell) (defBody s__law_cell) (defScope s__law_cell) .none kV__law_cell dc__law_cell pm__law_cell an__law_cell cd__law_cell ct__law_cell), sl__law_cell⟩)
    (c__law_cell : PySem.W.codeIn K cd__law_cell "_law_cell" = true)
    (k__law_cell : PySem.W.keepIn K (.ref f__law_cell) = true)
    (a__law_box : PySem.W.nsIn K mainGlobals "_law_box" = some (some (.ref f__law_box)))
    (l__law_box : K.lookup f__law_box = some ⟨oc__law_box, od__law_box, .func (PySem.W.fnOf "_law_box" "_law_box" (defArgs s__law_box) (defBody s__law_box) (defScope s__law_box) .none kV__law_box dc__law_box pm__law_box an__law_box cd__law_box ct__law_box), sl__law_box⟩)
    (c__law_box : PySem.W.codeIn K cd__law_box "_law_box" = true)
    (k__law_box : PySem.W.keepIn K (.ref f__law_box) = true)
    (a__law_take : PySem.W.nsIn K mainGlobals "_law_take" = some (some (.ref f__law_take)))
    (l__law_take : K.lookup f__law_take = some ⟨oc__law_take, od__law_take, .func (PySem.W.fnOf "_law_take" "_law_take" (defArgs s__law_take) (defBody s__law_take) (defScope s__law_take) .none kV__law_take dc__law_take pm__law_take an__law_take cd__law_take ct__law_take), sl__law_take⟩)
    (c__law_take : PySem.W.codeIn K cd__law_take "_law_take" = true)
    (k__law_take : PySem.W.keepIn K (.ref f__law_take) = true)
    (a__law_far : PySem.W.nsIn K mainGlobals "_law_far" = some (some (.ref f__law_far)))
    (l__law_far : K.lookup f__law_far = some ⟨oc__law_far, od__law_far, .func (PySem.W.fnOf "_law_far" "_law_far" (defArgs s__law_far) (defBody s__law_far) (defScope s__law_far) .none kV__law_far dc__law_far pm__law_far an__law_far cd__law_far ct__law_far), sl__law_far⟩)
    (c__law_far : PySem.W.codeIn K cd__law_far "_law_far" = true)
    (k__law_far : PySem.W.keepIn K (.ref f__law_far) = true)
    (a__law_number : PySem.W.nsIn K mainGlobals "_law_number" = some (some (.ref f__law_number)))
    (l__law_number : K.lookup f__law_number = some ⟨oc__law_number, od__law_number, .func (PySem.W.fnOf "_law_number" "_law_number" (defArgs s__law_number) (defBody s__law_number) (defScope s__law_number) .none kV__law_number dc__law_number pm__law_number an__law_number cd__law_number ct__law_number), sl__law_number⟩)
    (c__law_number : PySem.W.codeIn K cd__law_number "_law_number" = true)
    (k__law_number : PySem.W.keepIn K (.ref f__law_number) = true)
    (a__law_pair : PySem.W.nsIn K mainGlobals "_law_pair" = some (some (.ref f__law_pair)))
    (l__law_pair : K.lookup f__law_pair = some ⟨oc__law_pair, od__law_pair, .func (PySem.W.fnOf "_law_pair" "_law_pair" (defArgs s__law_pair) (defBody s__law_pair) (defScope s__law_pair) .none kV__law_pair dc__law_pair pm__law_pair an__law_pair cd__law_pair ct__law_pair), sl__law_pair⟩)
    (c__law_pair : PySem.W.codeIn K cd__law_pair "_law_pair" = true)
    (k__law_pair : PySem.W.keepIn K (.ref f__law_pair) = true)
    (a__law_is : PySem.W.nsIn K mainGlobals "_law_is" = some (some (.ref f__law_is)))
    (l__law_is : K.lookup f__law_is = some ⟨oc__law_is, od__law_is, .func (PySem.W.fnOf "_law_is" "_law_is" (defArgs s__law_is) (defBody s__law_is) (defScope s__law_is) .none kV__law_is dc__law_is pm__law_is an__law_is cd__law_is ct__law_is), sl__law_is⟩)
    (c__law_is : PySem.W.codeIn K cd__law_is "_law_is" = true)
    (k__law_is : PySem.W.keepIn K (.ref f__law_is) = true)
    (a__law_drawn : PySem.W.nsIn K mainGlobals "_law_drawn" = some (some (.ref f__law_drawn)))
    (l__law_drawn : K.lookup f__law_drawn = some ⟨oc__law_drawn, od__law_drawn, .func (PySem.W.fnOf "_law_drawn" "_law_drawn" (defArgs s__law_drawn) (defBody s__law_drawn) (defScope s__law_drawn) .none kV__law_drawn dc__law_drawn pm__law_drawn an__law_drawn cd__law_drawn ct__law_drawn), sl__law_drawn⟩)
    (c__law_drawn : PySem.W.codeIn K cd__law_drawn "_law_drawn" = true)
    (k__law_drawn : PySem.W.keepIn K (.ref f__law_drawn) = true)
    (a__law_sum : PySem.W.nsIn K mainGlobals "_law_sum" = some (some (.ref f__law_sum)))
    (l__law_sum : K.lookup f__law_sum = some ⟨oc__law_sum, od__law_sum, .func (PySem.W.fnOf "_law_sum" "_law_sum" (defArgs s__law_sum) (defBody s__law_sum) (defScope s__law_sum) .none kV__law_sum dc__law_sum pm__law_sum an__law_sum cd__law_sum ct__law_sum), sl__law_sum⟩)
    (c__law_sum : PySem.W.codeIn K cd__law_sum "_law_sum" = true)
    (k__law_sum : PySem.W.keepIn K (.ref f__law_sum) = true)
    (a__law_product : PySem.W.nsIn K mainGlobals "_law_product" = some (some (.ref f__law_product)))
    (l__law_product : K.lookup f__law_product = some ⟨oc__law_product, od__law_product, .func (PySem.W.fnOf "_law_product" "_law_product" (defArgs s__law_product) (defBody s__law_product) (defScope s__law_product) .none kV__law_product dc__law_product pm__law_product an__law_product cd__law_product ct__law_product), sl__law_product⟩)
    (c__law_product : PySem.W.codeIn K cd__law_product "_law_product" = true)
    (k__law_product : PySem.W.keepIn K (.ref f__law_product) = true)
    (a__law_minus : PySem.W.nsIn K mainGlobals "_law_minus" = some (some (.ref f__law_minus)))
    (l__law_minus : K.lookup f__law_minus = some ⟨oc__law_minus, od__law_minus, .func (PySem.W.fnOf "_law_minus" "_law_minus" (defArgs s__law_minus) (defBody s__law_minus) (defScope s__law_minus) .none kV__law_minus dc__law_minus pm__law_minus an__law_minus cd__law_minus ct__law_minus), sl__law_minus⟩)
    (c__law_minus : PySem.W.codeIn K cd__law_minus "_law_minus" = true)
    (k__law_minus : PySem.W.keepIn K (.ref f__law_minus) = true)
    (a__law_above : PySem.W.nsIn K mainGlobals "_law_above" = some (some (.ref f__law_above)))
    (l__law_above : K.lookup f__law_above = some ⟨oc__law_above, od__law_above, .func (PySem.W.fnOf "_law_above" "_law_above" (defArgs s__law_above) (defBody s__law_above) (defScope s__law_above) .none kV__law_above dc__law_above pm__law_above an__law_above cd__law_above ct__law_above), sl__law_above⟩)
    (c__law_above : PySem.W.codeIn K cd__law_above "_law_above" = true)
    (k__law_above : PySem.W.keepIn K (.ref f__law_above) = true)
    (a__law_period : PySem.W.nsIn K mainGlobals "_law_period" = some (some (.ref f__law_period)))
    (l__law_period : K.lookup f__law_period = some ⟨oc__law_period, od__law_period, .func (PySem.W.fnOf "_law_period" "_law_period" (defArgs s__law_period) (defBody s__law_period) (defScope s__law_period) .none kV__law_period dc__law_period pm__law_period an__law_period cd__law_period ct__law_period), sl__law_period⟩)
    (c__law_period : PySem.W.codeIn K cd__law_period "_law_period" = true)
    (k__law_period : PySem.W.keepIn K (.ref f__law_period) = true)
    (a__law_distance : PySem.W.nsIn K mainGlobals "_law_distance" = some (some (.ref f__law_distance)))
    (l__law_distance : K.lookup f__law_distance = some ⟨oc__law_distance, od__law_distance, .func (PySem.W.fnOf "_law_distance" "_law_distance" (defArgs s__law_distance) (defBody s__law_distance) (defScope s__law_distance) .none kV__law_distance dc__law_distance pm__law_distance an__law_distance cd__law_distance ct__law_distance), sl__law_distance⟩)
    (c__law_distance : PySem.W.codeIn K cd__law_distance "_law_distance" = true)
    (k__law_distance : PySem.W.keepIn K (.ref f__law_distance) = true)
    (a__law_told_right : PySem.W.nsIn K mainGlobals "_law_told_right" = some (some (.ref f__law_told_right)))
    (l__law_told_right : K.lookup f__law_told_right = some ⟨oc__law_told_right, od__law_told_right, .func (PySem.W.fnOf "_law_told_right" "_law_told_right" (defArgs s__law_told_right) (defBody s__law_told_right) (defScope s__law_told_right) .none kV__law_told_right dc__law_told_right pm__law_told_right an__law_told_right cd__law_told_right ct__law_told_right), sl__law_told_right⟩)
    (c__law_told_right : PySem.W.codeIn K cd__law_told_right "_law_told_right" = true)
    (k__law_told_right : PySem.W.keepIn K (.ref f__law_told_right) = true)
    (a__law_right : PySem.W.nsIn K mainGlobals "_law_right" = some (some (.ref f__law_right)))
    (l__law_right : K.lookup f__law_right = some ⟨oc__law_right, od__law_right, .func (PySem.W.fnOf "_law_right" "_law_right" (defArgs s__law_right) (defBody s__law_right) (defScope s__law_right) .none kV__law_right dc__law_right pm__law_right an__law_right cd__law_right ct__law_right), sl__law_right⟩)
    (c__law_right : PySem.W.codeIn K cd__law_right "_law_right" = true)
    (k__law_right : PySem.W.keepIn K (.ref f__law_right) = true)
    (a_law : PySem.W.nsIn K mainGlobals "law" = some (some (.ref f_law)))
    (l_law : K.lookup f_law = some ⟨oc_law, od_law, .func (PySem.W.fnOf "law" "law" (defArgs s_law) (defBody s_law) (defScope s_law) .none kV_law dc_law pm_law an_law cd_law ct_law), sl_law⟩)
    (c_law : PySem.W.codeIn K cd_law "law" = true)
    (k_law : PySem.W.keepIn K (.ref f_law) = true)
    (z_abs : PySem.W.nsIn K mainGlobals "abs" = some none)
    (z_bool : PySem.W.nsIn K mainGlobals "bool" = some none)
    (z_int : PySem.W.nsIn K mainGlobals "int" = some none)
    (z_isinstance : PySem.W.nsIn K mainGlobals "isinstance" = some none)
    (z_len : PySem.W.nsIn K mainGlobals "len" = some none)
    (z_max : PySem.W.nsIn K mainGlobals "max" = some none)
    (z_min : PySem.W.nsIn K mainGlobals "min" = some none)
    (z_range : PySem.W.nsIn K mainGlobals "range" = some none)
    (z_tuple : PySem.W.nsIn K mainGlobals "tuple" = some none)
    (tcd_by_period : cd_by_period = .ref tc_by_period)
    (tlk_by_period : K.lookup tc_by_period = some ⟨oc2_by_period, od2_by_period, .fields vs2_by_period, sl2_by_period⟩)
    (t11_by_period : (vs2_by_period[11]? : Option Value) = some (.ref tP_by_period))
    (thd_by_period : PySem.W.codeHdIn K tc_by_period tP_by_period = true)
    (tno_by_period : K.lookup tP_by_period = none)
    (ty_by_period : h.get? tP_by_period = some { cls := .none, data := .fields #[] }) :
    ∃ (fd : FuncData) (ts : Tabs), ts.map (·.1) = (["by_period"] : List Str) ∧ (ts.map (·.2.2)).Nodup ∧ (∀ p ∈ ts, TabD K mg p.1 p.2.1 p.2.2) ∧ (∀ p ∈ ts, h.get? p.2.2 = some { cls := .none, data := .fields #[] }) ∧ (∀ (s : Shared) (u : Value), BindsTo s fd ⟨[u], []⟩ [("_law_script", u)]) ∧ ∀ base : Heap, K.In base → base.Ns mainGlobals mg → (∃ o, base.get? sysModules = some o) → (∀ p ∈ ts, LamX.TabB base mg p.2.1 p.2.2) → FnG l.prog w K mg base 9 fa fd ["_law_script"] sp_law := by
  have e := hfa.symm.trans (glb_of X G a_law)
  cases e
  have D_is_plain := defAt_of X G a_is_plain l_is_plain c_is_plain k_is_plain
  have D_common_part := defAt_of X G a_common_part l_common_part c_common_part k_common_part
  have D_is_part := defAt_of X G a_is_part l_is_part c_is_part k_is_part
  have D_is_number := defAt_of X G a_is_number l_is_number c_is_number k_is_number
  have D_reckoned := defAt_of X G a_reckoned l_reckoned c_reckoned k_reckoned
  have D_pair_of := defAt_of X G a_pair_of l_pair_of c_pair_of k_pair_of
  have D_plus := defAt_of X G a_plus l_plus c_plus k_plus
  have D_minus := defAt_of X G a_minus l_minus c_minus k_minus
  have D_times := defAt_of X G a_times l_times c_times k_times
  have D_over := defAt_of X G a_over l_over c_over k_over
  have D_sign_of := defAt_of X G a_sign_of l_sign_of c_sign_of k_sign_of
  have D_bare_of := defAt_of X G a_bare_of l_bare_of c_bare_of k_bare_of
  have D_less := defAt_of X G a_less l_less c_less k_less
  have D_floor_of : DefD K mg "floor_of" s_floor_of f_floor_of _ [] [("step", V.int (1))] := defD_of X G a_floor_of l_floor_of c_floor_of k_floor_of dfl_no (kwd_of (List.forall_mem_cons.mpr ⟨⟨_, j_floor_of_step, ⟨_, rfl⟩⟩, fun q hq => (nomatch hq)⟩))
  have D_with_sign := defAt_of X G a_with_sign l_with_sign c_with_sign k_with_sign
  have D_nearest := defAt_of X G a_nearest l_nearest c_nearest k_nearest
  have D_by_period : DefD K mg "by_period" s_by_period f_by_period _ [V.int (0)] [] := defD_of X G a_by_period l_by_period c_by_period k_by_period (dfl_of (its := [.int (0) tk_by_period_0]) (by simp) t_by_period (.cons (⟨_, rfl⟩) (.nil))) kwd_no
  have D__law_cell := defAt_of X G a__law_cell l__law_cell c__law_cell k__law_cell
  have D__law_box := defAt_of X G a__law_box l__law_box c__law_box k__law_box
  have D__law_take := defAt_of X G a__law_take l__law_take c__law_take k__law_take
  have D__law_far := defAt_of X G a__law_far l__law_far c__law_far k__law_far
  have D__law_number := defAt_of X G a__law_number l__law_number c__law_number k__law_number
  have D__law_pair := defAt_of X G a__law_pair l__law_pair c__law_pair k__law_pair
  have D__law_is := defAt_of X G a__law_is l__law_is c__law_is k__law_is
  have D__law_drawn := defAt_of X G a__law_drawn l__law_drawn c__law_drawn k__law_drawn
  have D__law_sum := defAt_of X G a__law_sum l__law_sum c__law_sum k__law_sum
  have D__law_product := defAt_of X G a__law_product l__law_product c__law_product k__law_product
  have D__law_minus := defAt_of X G a__law_minus l__law_minus c__law_minus k__law_minus
  have D__law_above := defAt_of X G a__law_above l__law_above c__law_above k__law_above
  have D__law_period := defAt_of X G a__law_period l__law_period c__law_period k__law_period
  have D__law_distance := defAt_of X G a__law_distance l__law_distance c__law_distance k__law_distance
  have D__law_told_right := defAt_of X G a__law_told_right l__law_told_right c__law_told_right k__law_told_right
  have D__law_right := defAt_of X G a__law_right l__law_right c__law_right k__law_right
  have D_law := defAt_of X G a_law l_law c_law k_law
  have TD_by_period : TabD K mg "by_period" tc_by_period tP_by_period := ⟨⟨f_by_period, _, _, _, _, D_by_period.m, l_by_period, tcd_by_period⟩, thd_by_period, tno_by_period⟩
  have L_by_period : LamOf ⟨K, mg⟩ "by_period" (lamP e_by_period_0) (lamB e_by_period_0) (lamS e_by_period_0) := ⟨f_by_period, _, _, _, _, _, D_by_period.m, l_by_period, rfl, rfl⟩
  have T : Tz K mg := { kit := kitT_of (fun p hp => (nomatch hp)), z_abs := bltn_of X G z_abs, z_bool := bltn_of X G z_bool, z_int := bltn_of X G z_int, z_isinstance := bltn_of X G z_isinstance, z_len := bltn_of X G z_len, z_max := bltn_of X G z_max, z_min := bltn_of X G z_min, z_range := bltn_of X G z_range, z_tuple := bltn_of X G z_tuple }
  refine ⟨PySem.W.fnOf "law" "law" (defArgs s_law) (defBody s_law) (defScope s_law) .none kV_law dc_law pm_law an_law cd_law ct_law, [("by_period", tc_by_period, tP_by_period)], rfl, by simp, List.forall_mem_cons.mpr ⟨TD_by_period, fun p hp => (nomatch hp)⟩, List.forall_mem_cons.mpr ⟨ty_by_period, fun p hp => (nomatch hp)⟩, fun s u => .of_eq rfl, fun base Kb Gb sm TBs => ?_⟩
  have TB_by_period : LamX.TabB base mg tc_by_period tP_by_period := TBs ("by_period", tc_by_period, tP_by_period) (List.mem_of_getElem? (i := 0) rfl)
  have O_is_plain := ok_is_plain (P := l.prog) (w := w) (base := base) T D_is_plain sm 
  have O_common_part := ok_common_part (P := l.prog) (w := w) (base := base) T D_common_part sm 
  have O_is_part := ok_is_part (P := l.prog) (w := w) (base := base) T D_is_part sm O_common_part O_is_plain
  have O_is_number := ok_is_number (P := l.prog) (w := w) (base := base) T D_is_number sm O_is_part O_is_plain
  have O_reckoned := ok_reckoned (P := l.prog) (w := w) (base := base) T D_reckoned sm O_common_part
  have O_pair_of := ok_pair_of (P := l.prog) (w := w) (base := base) T D_pair_of sm O_is_part O_is_plain
  have O_plus := ok_plus (P := l.prog) (w := w) (base := base) T D_plus sm O_pair_of O_reckoned
  have O_minus := ok_minus (P := l.prog) (w := w) (base := base) T D_minus sm O_pair_of O_reckoned
  have O_times := ok_times (P := l.prog) (w := w) (base := base) T D_times sm O_pair_of O_reckoned
  have O_over := ok_over (P := l.prog) (w := w) (base := base) T D_over sm O_pair_of O_reckoned
  have O_sign_of := ok_sign_of (P := l.prog) (w := w) (base := base) T D_sign_of sm O_pair_of
  have O_bare_of := ok_bare_of (P := l.prog) (w := w) (base := base) T D_bare_of sm O_pair_of O_reckoned
  have O_less := ok_less (P := l.prog) (w := w) (base := base) T D_less sm O_pair_of
  have C_floor_of_1 := okc_floor_of_1 (P := l.prog) (w := w) (base := base)  T D_floor_of sm O_pair_of O_times
  have O_with_sign := ok_with_sign (P := l.prog) (w := w) (base := base) T D_with_sign sm O_sign_of O_times
  have O_nearest := ok_nearest (P := l.prog) (w := w) (base := base) T D_nearest sm C_floor_of_1 O_bare_of O_minus O_over O_plus O_times O_with_sign
  have C_by_period_2 := okc_by_period_2 (P := l.prog) (w := w) (base := base)  T D_by_period sm L_by_period O_is_number O_less O_sign_of TD_by_period TB_by_period
  have C_by_period_1 := okc_by_period_1 (P := l.prog) (w := w) (base := base)  T D_by_period sm L_by_period O_is_number O_less O_sign_of TD_by_period TB_by_period
  have C_by_period_0_phase_period := okc_by_period_0_phase_period (P := l.prog) (w := w) (base := base)  T D_by_period sm L_by_period O_is_number O_less O_sign_of TD_by_period TB_by_period
  have O__law_cell := ok__law_cell (P := l.prog) (w := w) (base := base) T D__law_cell sm 
  have O__law_box := ok__law_box (P := l.prog) (w := w) (base := base) T D__law_box sm 
  have O__law_take := ok__law_take (P := l.prog) (w := w) (base := base) T D__law_take sm 
  have O__law_far := ok__law_far (P := l.prog) (w := w) (base := base) T D__law_far sm O__law_take
  have O__law_number := ok__law_number (P := l.prog) (w := w) (base := base) T D__law_number sm 
  have O__law_pair := ok__law_pair (P := l.prog) (w := w) (base := base) T D__law_pair sm 
  have O__law_is := ok__law_is (P := l.prog) (w := w) (base := base) T D__law_is sm 
  have O__law_drawn := ok__law_drawn (P := l.prog) (w := w) (base := base) T D__law_drawn sm O__law_far O__law_number O__law_take
  have O__law_sum := ok__law_sum (P := l.prog) (w := w) (base := base) T D__law_sum sm O__law_number O__law_pair
  have O__law_product := ok__law_product (P := l.prog) (w := w) (base := base) T D__law_product sm O__law_number O__law_pair
  have O__law_minus := ok__law_minus (P := l.prog) (w := w) (base := base) T D__law_minus sm O__law_product O__law_sum
  have O__law_above := ok__law_above (P := l.prog) (w := w) (base := base) T D__law_above sm O__law_pair
  have O__law_period := ok__law_period (P := l.prog) (w := w) (base := base) T D__law_period sm O__law_drawn O__law_number O__law_pair O__law_product O__law_take
  have O__law_distance := ok__law_distance (P := l.prog) (w := w) (base := base) T D__law_distance sm O__law_drawn O__law_minus O__law_number O__law_product O__law_sum O__law_take
  have O__law_told_right := ok__law_told_right (P := l.prog) (w := w) (base := base) T D__law_told_right sm O__law_above O__law_minus O__law_number O__law_pair O__law_product
  have O__law_right := ok__law_right (P := l.prog) (w := w) (base := base) T D__law_right sm L_by_period O__law_is O__law_number O__law_pair O__law_product O__law_told_right O_nearest
  exact fn_law T D_law sm C_by_period_0_phase_period C_by_period_1 C_by_period_2 O__law_box O__law_cell O__law_distance O__law_period O__law_right O__law_take
end L_k11
open PySem PySem.W PyProof.Rows
set_option maxHeartbeats 0 in
theorem PySem.Challenge.cw_hintedpoints_k11_rounded_by_periods_holds : PySem.Challenge.rw_hintedpoints_k11_rounded_by_periods.Holds := by
  w_on; o_law; k_head; (case hw => w_witness2)
  as_aux_lemma =>
  k_fill
  refine DL.walkT (l := PySem.Challenge.rw_hintedpoints_k11_rounded_by_periods) (n := 63) (k := 9) (x := "_law_script") (sp := L_k11.sp_law) (tn := ["by_period"]) rfl (by decide) rfl ⟨rfl, by decide, by decide⟩ (by decide +kernel) (fun w h Y => PySem.W.km_in_of Y) ?F L_k11.law_true
  case F =>
    intro w mg fa h Y KX G hmg
    refine' L_k11.all_mk KX G hmg ?a_is_plain ?l_is_plain ?c_is_plain ?k_is_plain ?a_common_part ?l_common_part ?c_common_part ?k_common_part ?a_is_part ?l_is_part ?c_is_part ?k_is_part ?a_is_number ?l_is_number ?c_is_number ?k_is_number ?a_reckoned ?l_reckoned ?c_reckoned ?k_reckoned ?a_pair_of ?l_pair_of ?c_pair_of ?k_pair_of ?a_plus ?l_plus ?c_plus ?k_plus ?a_minus ?l_minus ?c_minus ?k_minus ?a_times ?l_times ?c_times ?k_times ?a_over ?l_over ?c_over ?k_over ?a_sign_of ?l_sign_of ?c_sign_of ?k_sign_of ?a_bare_of ?l_bare_of ?c_bare_of ?k_bare_of ?a_less ?l_less ?c_less ?k_less ?a_floor_of ?l_floor_of ?c_floor_of ?k_floor_of ?j_floor_of_step ?a_with_sign ?l_with_sign ?c_with_sign ?k_with_sign ?a_nearest ?l_nearest ?c_nearest ?k_nearest ?a_by_period ?l_by_period ?c_by_period ?k_by_period ?t_by_period ?a__law_cell ?l__law_cell ?c__law_cell ?k__law_cell ?a__law_box ?l__law_box ?c__law_box ?k__law_box ?a__law_take ?l__law_take ?c__law_take ?k__law_take ?a__law_far ?l__law_far ?c__law_far ?k__law_far ?a__law_number ?l__law_number ?c__law_number ?k__law_number ?a__law_pair ?l__law_pair ?c__law_pair ?k__law_pair ?a__law_is ?l__law_is ?c__law_is ?k__law_is ?a__law_drawn ?l__law_drawn ?c__law_drawn ?k__law_drawn ?a__law_sum ?l__law_sum ?c__law_sum ?k__law_sum ?a__law_product ?l__law_product ?c__law_product ?k__law_product ?a__law_minus ?l__law_minus ?c__law_minus ?k__law_minus ?a__law_above ?l__law_above ?c__law_above ?k__law_above ?a__law_period ?l__law_period ?c__law_period ?k__law_period ?a__law_distance ?l__law_distance ?c__law_distance ?k__law_distance ?a__law_told_right ?l__law_told_right ?c__law_told_right ?k__law_told_right ?a__law_right ?l__law_right ?c__law_right ?k__law_right ?a_law ?l_law ?c_law ?k_law ?z_abs ?z_bool ?z_int ?z_isinstance ?z_len ?z_max ?z_min ?z_range ?z_tuple ?tcd_by_period ?tlk_by_period ?t11_by_period ?thd_by_period ?tno_by_period ?ty_by_period
    (case a_is_plain => k_is)
    (case l_is_plain => k_is)
    (case c_is_plain => k_is)
    (case k_is_plain => k_is)
    (case a_common_part => k_is)
    (case l_common_part => k_is)
    (case c_common_part => k_is)
    (case k_common_part => k_is)
    (case a_is_part => k_is)
    (case l_is_part => k_is)
    (case c_is_part => k_is)
    (case k_is_part => k_is)
    (case a_is_number => k_is)
    (case l_is_number => k_is)
    (case c_is_number => k_is)
    (case k_is_number => k_is)
    (case a_reckoned => k_is)
    (case l_reckoned => k_is)
    (case c_reckoned => k_is)
    (case k_reckoned => k_is)
    (case a_pair_of => k_is)
    (case l_pair_of => k_is)
    (case c_pair_of => k_is)
    (case k_pair_of => k_is)
    (case a_plus => k_is)
    (case l_plus => k_is)
    (case c_plus => k_is)
    (case k_plus => k_is)
    (case a_minus => k_is)
    (case l_minus => k_is)
    (case c_minus => k_is)
    (case k_minus => k_is)
    (case a_times => k_is)
    (case l_times => k_is)
    (case c_times => k_is)
    (case k_times => k_is)
    (case a_over => k_is)
    (case l_over => k_is)
    (case c_over => k_is)
    (case k_over => k_is)
    (case a_sign_of => k_is)
    (case l_sign_of => k_is)
    (case c_sign_of => k_is)
    (case k_sign_of => k_is)
    (case a_bare_of => k_is)
    (case l_bare_of => k_is)
    (case c_bare_of => k_is)
    (case k_bare_of => k_is)
    (case a_less => k_is)
    (case l_less => k_is)
    (case c_less => k_is)
    (case k_less => k_is)
    (case a_floor_of => k_is)
    (case l_floor_of => k_is)
    (case c_floor_of => k_is)
    (case k_floor_of => k_is)
    (case j_floor_of_step => k_is)
    (case a_with_sign => k_is)
    (case l_with_sign => k_is)
    (case c_with_sign => k_is)
    (case k_with_sign => k_is)
    (case a_nearest => k_is)
    (case l_nearest => k_is)
    (case c_nearest => k_is)
    (case k_nearest => k_is)
    (case a_by_period => k_is)
    (case l_by_period => k_is)
    (case c_by_period => k_is)
    (case k_by_period => k_is)
    (case t_by_period => k_is)
    (case a__law_cell => k_is)
    (case l__law_cell => k_is)
    (case c__law_cell => k_is)
    (case k__law_cell => k_is)
    (case a__law_box => k_is)
    (case l__law_box => k_is)
    (case c__law_box => k_is)
    (case k__law_box => k_is)
    (case a__law_take => k_is)
    (case l__law_take => k_is)
    (case c__law_take => k_is)
    (case k__law_take => k_is)
    (case a__law_far => k_is)
    (case l__law_far => k_is)
    (case c__law_far => k_is)
    (case k__law_far => k_is)
    (case a__law_number => k_is)
    (case l__law_number => k_is)
    (case c__law_number => k_is)
    (case k__law_number => k_is)
    (case a__law_pair => k_is)
    (case l__law_pair => k_is)
    (case c__law_pair => k_is)
    (case k__law_pair => k_is)
    (case a__law_is => k_is)
    (case l__law_is => k_is)
    (case c__law_is => k_is)
    (case k__law_is => k_is)
    (case a__law_drawn => k_is)
    (case l__law_drawn => k_is)
    (case c__law_drawn => k_is)
    (case k__law_drawn => k_is)
    (case a__law_sum => k_is)
    (case l__law_sum => k_is)
    (case c__law_sum => k_is)
    (case k__law_sum => k_is)
    (case a__law_product => k_is)
    (case l__law_product => k_is)
    (case c__law_product => k_is)
    (case k__law_product => k_is)
    (case a__law_minus => k_is)
    (case l__law_minus => k_is)
    (case c__law_minus => k_is)
    (case k__law_minus => k_is)
    (case a__law_above => k_is)
    (case l__law_above => k_is)
    (case c__law_above => k_is)
    (case k__law_above => k_is)
    (case a__law_period => k_is)
    (case l__law_period => k_is)
    (case c__law_period => k_is)
    (case k__law_period => k_is)
    (case a__law_distance => k_is)
    (case l__law_distance => k_is)
    (case c__law_distance => k_is)
    (case k__law_distance => k_is)
    (case a__law_told_right => k_is)
    (case l__law_told_right => k_is)
    (case c__law_told_right => k_is)
    (case k__law_told_right => k_is)
    (case a__law_right => k_is)
    (case l__law_right => k_is)
    (case c__law_right => k_is)
    (case k__law_right => k_is)
    (case a_law => k_is)
    (case l_law => k_is)
    (case c_law => k_is)
    (case k_law => k_is)
    (case z_abs => k_is)
    (case z_bool => k_is)
    (case z_int => k_is)
    (case z_isinstance => k_is)
    (case z_len => k_is)
    (case z_max => k_is)
    (case z_min => k_is)
    (case z_range => k_is)
    (case z_tuple => k_is)
    (case tcd_by_period => rfl)
    (case tlk_by_period => k_is)
    (case t11_by_period => rfl)
    (case thd_by_period => first | kernel_rfl | rfl | k_is)
    (case tno_by_period => first | kernel_rfl | rfl | k_is)
    (case ty_by_period => exact PySem.W.km_tabs_of Y _ (by decide))
