import PyProof.Rows.All
import Wide.All
import OpenK.AllK
import Wide.FinOn
import HandS.ForMost
import HandS.Lambda
import HandS.IsInst
import HandS.TupAny
import HandS.Style
import HandS.RaiseMore
import HandS.Deep
import PyProof.NeKinds
import PyProof.ReprRoads
import HandS.TryOnly
import HandS.TupMul
import HandS.SetTxt0
import HandS.SetFor
import HandS.Strs
import KE.KUnpackStar
import HandS.ForExc
import HandS.ExcInit
import KE.KExcInit
import HandS.Flow
import HandS.Steps
import KE.KExcIs
import HandS.ReplaceLit
import HandS.ReplaceList
import HandS.Nested
import HandS.FStr
import HandS.EndTab
import HandS.DictComp
import HandS.DictTup
import HandS.TupLen
import PyProof.ExcClass
import KE.KExcPX
import PyProof.DictFindH
import HandS.Zip
import HandS.Star
import HandS.ClsMeth
import HandS.Defaults
import KE.GoesMore
import KE.GoesEnum
import HandS.Iter
import KE.KCallOwn
import HandS.Text
import KE.KFmtOwn
import PyProof.InstEq
import HandS.ExcValue
import HandS.Property
import KE.KSortKeySt
import HandS.SortKw
import HandS.MakeKwOnly
import PyProof.RulesMatch
import HandS.SetBool
import KE.SortData
import HandS.TupSets
import PyProof.EqKinds
import KE.KeyNested
import KE.GoesEnumKw
import KE.KDictZip
import HandS.StrMore
import HandS.Replace
import HandS.Conv
import PySem.Challenge.RW_eitherside_k47_steps_and_ends
section
set_option Elab.async false
set_option maxRecDepth 100000
set_option linter.all false
set_option autoImplicit false
/-! DL1: readings over plain data. D: a value, immutable parts written out; Rs: the objects that may change. -/
namespace DL
open PySem PySem.Spec PyProof.Rows L2

/-- a lambda: its words, the cells that it captured -/
structure Lam where
  qual : Str
  params : Arguments
  body : Expr
  scope : Scope
  cl : List (Str × Addr)
/-- the object at f is the lambda L, its code object at c -/
def LamO (f : Addr) (L : Lam) (c : Addr) : HO := .ext fun h => ∃ (pm ctv : Value), h.get? f = some (PySem.W.kla_obj "<lambda>" L.qual L.params L.body L.scope L.cl pm c ctv)
inductive D where
  | non | bl (b : Bool) | int (i : Int) | str (x : Str) | ty (n : String) | ref (a : Addr)
  | tup (xs : List D) | lst (xs : List D) | rls (xs : List D)
  | ins (C : Addr) (ns : List Str) (ds : List D) | dK (ks : List Key) (ds : List D) | dT (ks : List (List Key)) (ds : List D)
  | lam (L : Lam)

mutual
inductive DV (K : PySem.W.Frag) (G : Hp) : D → V → Prop
  | non : DV K G .non .non
  | bl (b : Bool) : DV K G (.bl b) (.bl b)
  | int (i : Int) : DV K G (.int i) (.int i)
  | str (x : Str) : DV K G (.str x) (.str x)
  | ty (n : String) : DV K G (.ty n) (.ty n)
  | ref (a : Addr) : DV K G (.ref a) (.ref a)
  | tup {a : Addr} {xs : List V} {ds : List D} : SqT K G a xs → DVs K G ds xs → DV K G (.tup ds) (.ref a)
  | lst {a : Addr} {xs : List V} {ds : List D} : G a = some (.lst xs) → DVs K G ds xs → DV K G (.lst ds) (.ref a)
  | rls {a : Addr} {xs : List V} {ds : List D} : SqL K G a xs → DVs K G ds xs → DV K G (.rls ds) (.ref a)
  | ins {a dx C : Addr} {ns : List Str} {xs : List V} {ds : List D} : G a = some (.ins C dx (ns.zip xs)) → ns.length = ds.length → DVs K G ds xs → DV K G (.ins C ns ds) (.ref a)
  | dK {a : Addr} {ks : List Key} {xs : List V} {ds : List D} : G a = some (.dK (ks.zip xs)) → ks.length = ds.length → DVs K G ds xs → DV K G (.dK ks ds) (.ref a)
  | dT {a : Addr} {ks : List (List Key)} {xs : List V} {ds : List D} : G a = some (.dT (ks.zip xs)) → ks.length = ds.length → DVs K G ds xs → DV K G (.dT ks ds) (.ref a)
  | lam {f c : Addr} {L : Lam} : G f = some (LamO f L c) → G c = some (LamX.CodeO c L.qual) → DV K G (.lam L) (.ref f)
inductive DVs (K : PySem.W.Frag) (G : Hp) : List D → List V → Prop
  | nil : DVs K G [] []
  | cons {d : D} {ds : List D} {v : V} {vs : List V} : DV K G d v → DVs K G ds vs → DVs K G (d :: ds) (v :: vs)
end

theorem Rd.same {H H' : Hp} (e : Same H H') {a : Addr} {u : HO} (h : Rd H a u) : Rd H' a u := by
  rcases h with h | ⟨o, h⟩
  · exact .inl (e _ _ h)
  · exact .inr ⟨o, e _ _ h⟩
theorem SqT.same {K : PySem.W.Frag} {H H' : Hp} (e : Same H H') {a : Addr} {xs : List V} (h : SqT K H a xs) : SqT K H' a xs := by
  rcases h with h | h
  · exact .inl (Rd.same e h)
  · exact .inr h
theorem SqL.same {K : PySem.W.Frag} {H H' : Hp} (e : Same H H') {a : Addr} {xs : List V} (h : SqL K H a xs) : SqL K H' a xs := by
  rcases h with h | h
  · exact .inl (Rd.same e h)
  · exact .inr h

section
variable {K : PySem.W.Frag} {G G' : Hp}
mutual
theorem DV.mono (e : Same G G') : ∀ {d : D} {v : V}, DV K G d v → DV K G' d v
  | _, _, .non => .non
  | _, _, .bl b => .bl b
  | _, _, .int i => .int i
  | _, _, .str x => .str x
  | _, _, .ty n => .ty n
  | _, _, .ref a => .ref a
  | _, _, .tup h1 h2 => .tup (SqT.same e h1) (DVs.mono e h2)
  | _, _, .lst h1 h2 => .lst (e _ _ h1) (DVs.mono e h2)
  | _, _, .rls h1 h2 => .rls (SqL.same e h1) (DVs.mono e h2)
  | _, _, .ins h1 h2 h3 => .ins (e _ _ h1) h2 (DVs.mono e h3)
  | _, _, .dK h1 h2 h3 => .dK (e _ _ h1) h2 (DVs.mono e h3)
  | _, _, .dT h1 h2 h3 => .dT (e _ _ h1) h2 (DVs.mono e h3)
  | _, _, .lam h1 h2 => .lam (e _ _ h1) (e _ _ h2)
theorem DVs.mono (e : Same G G') : ∀ {ds : List D} {vs : List V}, DVs K G ds vs → DVs K G' ds vs
  | _, _, .nil => .nil
  | _, _, .cons h1 h2 => .cons (DV.mono e h1) (DVs.mono e h2)
end
theorem DVs.length : ∀ {ds : List D} {vs : List V}, DVs K G ds vs → ds.length = vs.length
  | _, _, .nil => rfl
  | _, _, .cons _ h => congrArg Nat.succ (DVs.length h)
theorem DVs.get : ∀ {ds : List D} {vs : List V} {i : Nat} {d : D}, DVs K G ds vs → ds[i]? = some d → ∃ v, vs[i]? = some v ∧ DV K G d v
  | _, _, _, _, .nil, e => by simp at e
  | _, _, 0, _, .cons h _, e => by simp at e; subst e; exact ⟨_, rfl, h⟩
  | _, _, i + 1, _, .cons _ h, e => by
    obtain ⟨v, e1, e2⟩ := DVs.get (i := i) h (by simpa using e)
    exact ⟨v, by simpa using e1, e2⟩
theorem DVs.append : ∀ {ds es : List D} {vs us : List V}, DVs K G ds vs → DVs K G es us → DVs K G (ds ++ es) (vs ++ us)
  | _, _, _, _, .nil, h => h
  | _, _, _, _, .cons a b, h => .cons a (DVs.append b h)
theorem DVs.set {d : D} {v : V} (h : DV K G d v) : ∀ {ds : List D} {vs : List V} (i : Nat), DVs K G ds vs → DVs K G (ds.set i d) (vs.set i v)
  | _, _, _, .nil => .nil
  | _, _, 0, .cons _ b => .cons h b
  | _, _, i + 1, .cons a b => .cons a (DVs.set h i b)
theorem DVs.take : ∀ {ds : List D} {vs : List V} (i : Nat), DVs K G ds vs → DVs K G (ds.take i) (vs.take i)
  | _, _, 0, _ => .nil
  | _, _, _ + 1, .nil => .nil
  | _, _, i + 1, .cons a b => .cons a (DVs.take i b)
theorem DVs.drop : ∀ {ds : List D} {vs : List V} (i : Nat), DVs K G ds vs → DVs K G (ds.drop i) (vs.drop i)
  | _, _, 0, h => h
  | _, _, _ + 1, .nil => .nil
  | _, _, i + 1, .cons _ b => DVs.drop i b
theorem DVs.strs : ∀ {xs : List Str} {vs : List V}, DVs K G (xs.map D.str) vs → vs = xs.map V.str
  | [], _, .nil => rfl
  | _ :: _, _, .cons (.str _) h => congrArg _ (DVs.strs h)
theorem DVs.ints : ∀ {xs : List Int} {vs : List V}, DVs K G (xs.map D.int) vs → vs = xs.map V.int
  | [], _, .nil => rfl
  | _ :: _, _, .cons (.int _) h => congrArg _ (DVs.ints h)
theorem DVs.bls : ∀ {xs : List Bool} {vs : List V}, DVs K G (xs.map D.bl) vs → vs = xs.map V.bl
  | [], _, .nil => rfl
  | _ :: _, _, .cons (.bl _) h => congrArg _ (DVs.bls h)
theorem DVs.ofStrs : ∀ (xs : List Str), DVs K G (xs.map D.str) (xs.map V.str)
  | [] => .nil
  | x :: xs => .cons (.str x) (DVs.ofStrs xs)
theorem DVs.ofInts : ∀ (xs : List Int), DVs K G (xs.map D.int) (xs.map V.int)
  | [] => .nil
  | x :: xs => .cons (.int x) (DVs.ofInts xs)
end

/-! ### data as PyData -/
mutual
def D.py : D → PyData
  | .non => .none
  | .bl b => .bool b
  | .int i => .int i
  | .str x => .str x
  | .ty _ => .none
  | .ref _ => .none
  | .tup xs => .tuple (D.pys xs)
  | .lst xs => .list (D.pys xs)
  | .rls xs => .list (D.pys xs)
  | .ins _ _ _ => .none
  | .dK _ _ => .none
  | .dT _ _ => .none
  | .lam _ => .none
def D.pys : List D → List PyData
  | [] => []
  | x :: xs => x.py :: D.pys xs
end
mutual
def D.plain : D → Bool
  | .ty _ => false
  | .ref _ => false
  | .tup xs => D.plains xs
  | .lst xs => D.plains xs
  | .rls xs => D.plains xs
  | .ins _ _ _ => false
  | .dK _ _ => false
  | .dT _ _ => false
  | .lam _ => false
  | _ => true
def D.plains : List D → Bool
  | [] => true
  | x :: xs => x.plain && D.plains xs
end
theorem pys_map : ∀ xs : List D, D.pys xs = xs.map D.py
  | [] => rfl
  | x :: xs => by rw [D.pys, pys_map xs]; rfl
section
variable {K : PySem.W.Frag} {G : Hp}
mutual
theorem DV.dp : ∀ {d : D} {v : V}, DV K G d v → d.plain = true → Dp K G v d.py
  | _, _, .non, _ => .non
  | _, _, .bl b, _ => .bl b
  | _, _, .int i, _ => .int i
  | _, _, .str x, _ => .str x
  | _, _, .ty _, h => by simp [D.plain] at h
  | _, _, .ref _, h => by simp [D.plain] at h
  | _, _, .tup h1 h2, h => by
    rw [D.plain] at h
    rw [D.py]
    exact .tup h1 (DVs.dp h2 h)
  | _, _, .lst h1 h2, h => by
    rw [D.plain] at h
    rw [D.py]
    exact .lst (.inl (.inl h1)) (DVs.dp h2 h)
  | _, _, .rls h1 h2, h => by
    rw [D.plain] at h
    rw [D.py]
    exact .lst h1 (DVs.dp h2 h)
  | _, _, .ins _ _ _, h => by simp [D.plain] at h
  | _, _, .dK _ _ _, h => by simp [D.plain] at h
  | _, _, .dT _ _ _, h => by simp [D.plain] at h
  | _, _, .lam _ _, h => by simp [D.plain] at h
theorem DVs.dp : ∀ {ds : List D} {vs : List V}, DVs K G ds vs → D.plains ds = true → DpAll K G vs (D.pys ds)
  | _, _, .nil, _ => by rw [D.pys]; exact .nil
  | _, _, .cons a b, h => by
    rw [D.plains, Bool.and_eq_true] at h
    rw [D.pys]
    exact .cons (DV.dp a h.1) (DVs.dp b h.2)
end
end
mutual
theorem Dp.same {K : PySem.W.Frag} {H H' : Hp} (e : Same H H') : ∀ {v : V} {d : PyData}, Dp K H v d → Dp K H' v d
  | _, _, .non => .non
  | _, _, .bl b => .bl b
  | _, _, .int i => .int i
  | _, _, .str x => .str x
  | _, _, .lst h1 h2 => .lst (SqL.same e h1) (DpAll.same e h2)
  | _, _, .tup h1 h2 => .tup (SqT.same e h1) (DpAll.same e h2)
theorem DpAll.same {K : PySem.W.Frag} {H H' : Hp} (e : Same H H') : ∀ {vs : List V} {ds : List PyData}, DpAll K H vs ds → DpAll K H' vs ds
  | _, _, .nil => .nil
  | _, _, .cons a b => .cons (Dp.same e a) (DpAll.same e b)
end

/-! ### what may change -/
inductive RO where
  | lst (xs : List D)
  | dK (kvs : List (Key × D))
  | dT (kvs : List (List Key × D))
  | ins (C dx : Addr) (fs : List (Str × D))
  | xd (fs : List (Str × D))
  | raw (o : HO)
  | gx (φ : PySem.W.Frag → Hp → HO → Prop)
abbrev Rs := Addr → Option RO
def put (R : Rs) (a : Addr) (o : RO) : Rs := fun b => if b = a then some o else R b
theorem put_same {R : Rs} {a : Addr} {o : RO} : put R a o a = some o := by unfold put; rw [if_pos rfl]
theorem put_ne {R : Rs} {a b : Addr} {o : RO} (h : b ≠ a) : put R a o b = R b := by unfold put; rw [if_neg h]
theorem put_put {R : Rs} {a : Addr} {o u : RO} : put (put R a o) a u = put R a u := by
  funext b; unfold put; split <;> rfl
theorem put_self {R : Rs} {a : Addr} {o : RO} (h : R a = some o) : put R a o = R := by
  funext b; unfold put; split
  · rename_i e; rw [e, h]
  · rfl
def ROk (K : PySem.W.Frag) (G : Hp) : RO → HO → Prop
  | .lst ds, o => ∃ vs, o = .lst vs ∧ DVs K G ds vs
  | .dK kvs, o => ∃ vs : List V, o = .dK ((kvs.map (·.1)).zip vs) ∧ DVs K G (kvs.map (·.2)) vs
  | .dT kvs, o => ∃ vs : List V, o = .dT ((kvs.map (·.1)).zip vs) ∧ DVs K G (kvs.map (·.2)) vs
  | .ins C dx fs, o => ∃ vs : List V, o = .ins C dx ((fs.map (·.1)).zip vs) ∧ DVs K G (fs.map (·.2)) vs
  | .xd fs, o => ∃ vs : List V, o = .xd ((fs.map (·.1)).zip vs) ∧ DVs K G (fs.map (·.2)) vs
  | .raw u, o => o = u
  | .gx φ, o => ∃ G0, Same G0 G ∧ φ K G0 o
theorem ROk.mono {K : PySem.W.Frag} {G G' : Hp} (e : Same G G') : ∀ {r : RO} {o : HO}, ROk K G r o → ROk K G' r o
  | .lst _, _, ⟨vs, h, q⟩ => ⟨vs, h, q.mono e⟩
  | .dK _, _, ⟨vs, h, q⟩ => ⟨vs, h, q.mono e⟩
  | .dT _, _, ⟨vs, h, q⟩ => ⟨vs, h, q.mono e⟩
  | .ins _ _ _, _, ⟨vs, h, q⟩ => ⟨vs, h, q.mono e⟩
  | .xd _, _, ⟨vs, h, q⟩ => ⟨vs, h, q.mono e⟩
  | .raw _, _, h => h
  | .gx _, _, ⟨G0, e0, h⟩ => ⟨G0, e0.trans e, h⟩

/-- the tables of code objects that are told, and the names by their places -/
class TabCtx where
  T : Addr → Option (Nat → Nat → Str)
/-- a hidden table of code objects, their names by their places -/
def TabH (G : Hp) (R : Rs) (H : Hp) (a : Addr) (nm : Nat → Nat → Str) : Prop := G a = none ∧ R a = none ∧ ∃ ps : Array Value, H a = some (.tbl ps) ∧ TriplesOk ps.toList ∧ ∀ (pos : Pos) (cv : Value), codeAmong pos ps.toList = some cv → ∃ c, cv = .ref c ∧ G c = some (LamX.CodeO c (nm pos.line pos.col))
def NoTab (o : HO) : Prop := ∀ ps, o ≠ .tbl ps
variable [TabCtx]
/-- one step on: what never changes grows; what is hidden (neither told as unchanging nor as changing) stays, but for the tables of code objects -/
structure Stp (G : Hp) (R : Rs) (H : Hp) (G' : Hp) (R' : Rs) (H' : Hp) : Prop where
  g : Same G G'
  f : ∀ a o, H a = some o → NoTab o → R a = none → G a = none → H' a = some o ∧ R' a = none ∧ G' a = none
  t : ∀ a q, TabCtx.T a = some q → TabH G R H a q → TabH G' R' H' a q
theorem Stp.mk0 {G G' : Hp} {R R' : Rs} {H H' : Hp} (g : Same G G') (f : ∀ a o, H a = some o → R a = none → G a = none → H' a = some o ∧ R' a = none ∧ G' a = none) : Stp G R H G' R' H' :=
  ⟨g, fun a o h1 _ h2 h3 => f a o h1 h2 h3, fun a q _ ⟨h1, h2, ps, h3, h4, h5⟩ => by
    obtain ⟨q1, q2, q3⟩ := f a _ h3 h2 h1
    exact ⟨q3, q2, ps, q1, h4, fun pos cv hc => let ⟨c, e1, e2⟩ := h5 pos cv hc; ⟨c, e1, g _ _ e2⟩⟩⟩
theorem Stp.refl (G : Hp) (R : Rs) (H : Hp) : Stp G R H G R H := .mk0 (Same.refl G) fun _ _ a b c => ⟨a, b, c⟩
theorem Stp.trans {G G1 G2 : Hp} {R R1 R2 : Rs} {H H1 H2 : Hp} (a : Stp G R H G1 R1 H1) (b : Stp G1 R1 H1 G2 R2 H2) : Stp G R H G2 R2 H2 :=
  ⟨a.g.trans b.g, fun x o h1 hn h2 h3 => let ⟨q1, q2, q3⟩ := a.f x o h1 hn h2 h3; b.f x o q1 hn q2 q3, fun x q z h => b.t x q z (a.t x q z h)⟩

theorem Stp.drop {G0 G : Hp} {R0 R R2 : Rs} {H0 H : Hp} (e : Stp G0 R0 H0 G R H) (s : ∀ a ro, R2 a = some ro → R a = some ro) : Stp G0 R0 H0 G R2 H :=
  e.trans (.mk0 (Same.refl G) fun a o h1 h2 h3 => by
    refine ⟨h1, ?_, h3⟩
    cases z : R2 a with
    | none => rfl
    | some ro => rw [s a ro z] at h2; cases h2)
/-- what stays true from a def's beginning on -/
structure Phi where
  p : Hp → Rs → Hp → Prop
  st : ∀ {G R H G' R' H'}, Stp G R H G' R' H' → p G R H → p G' R' H'
def Phi.all : Phi := ⟨fun _ _ _ => True, fun _ _ => trivial⟩
def Phi.of (G0 : Hp) (R0 : Rs) (H0 : Hp) : Phi := ⟨fun G R H => Stp G0 R0 H0 G R H, fun e h => h.trans e⟩
/-- the written part, and what stays true all along -/
structure KB where
  F : PySem.W.Frag
  B : Phi
instance : Coe KB PySem.W.Frag := ⟨KB.F⟩
structure KF where
  F : KB
  Φ : Phi
instance : Coe KF PySem.W.Frag := ⟨fun K => K.F.F⟩
structure CxF where
  X : Cx
  Φ : Phi
  B : Phi
instance : Coe CxF Cx := ⟨CxF.X⟩
namespace CxF
abbrev K (X : CxF) : KF := ⟨⟨X.X.K, X.B⟩, X.Φ⟩
abbrev A (X : CxF) : Around := X.X.A
abbrev env (X : CxF) : Env := X.X.env
abbrev N (X : CxF) : List Str := X.X.N
abbrev mg (X : CxF) : Str → Option Value := X.X.mg
abbrev calm (X : CxF) : Bool := X.X.calm
abbrev prog (X : CxF) : Program := X.X.prog
abbrev w (X : CxF) : World := X.X.w
abbrev base (X : CxF) : Heap := X.X.base
abbrev xe (X : CxF) : Value → Shared → Prop := X.X.xe
abbrev fn (X : CxF) := X.X.fn
abbrev stack (X : CxF) := X.X.stack
abbrev blk (X : CxF) (s : Shared) (H : Hp) (scope : Scope) (e : Env) (fp : List Addr) : CxF := ⟨X.X.blk s H scope e fp, X.Φ, X.B⟩
end CxF
structure RepH (K : KF) (G : Hp) (R : Rs) (H : Hp) : Prop where
  g : Same G H
  r : ∀ a ro, R a = some ro → G a = none ∧ ∃ o, H a = some o ∧ ROk K G ro o
  φ : K.Φ.p G R H
  b : K.F.B.p G R H
section
variable {K : KF} {G G' : Hp} {R R' : Rs} {H H' : Hp}
theorem RepH.free (h : RepH K G R H) {a : Addr} (e : H a = none) : R a = none := by
  cases q : R a with
  | none => rfl
  | some ro =>
    obtain ⟨_, o, h2, _⟩ := h.r a ro q
    rw [e] at h2; cases h2
theorem RepH.gfree (h : RepH K G R H) {a : Addr} (e : H a = none) : G a = none := by
  cases q : G a with
  | none => rfl
  | some o => have := h.g a o q; rw [e] at this; cases this
/-- forget some of what may change -/
theorem RepH.sub0 (h : RepH K G R H) (s : ∀ a ro, R' a = some ro → R a = some ro) : RepH K G R' H := ⟨h.g, fun a ro e => h.r a ro (s a ro e), K.Φ.st ((Stp.refl G R H).drop s) h.φ, K.F.B.st ((Stp.refl G R H).drop s) h.b⟩
/-- a new thing that never changes -/
theorem RepH.imm (h : RepH K G R H) {p : Addr} {o : HO} (e : H p = none) : Stp G R H (upd G p o) R (upd H p o) ∧ RepH K (upd G p o) R (upd H p o) := by
  have gp := h.gfree e
  have s1 : Same G (upd G p o) := fun b u q => by rw [upd_ne (ne_of_none q gp)]; exact q
  have S : Stp G R H (upd G p o) R (upd H p o) := .mk0 s1 fun b u q1 q2 q3 => by
    have hb : b ≠ p := ne_of_none q1 e
    exact ⟨by rw [upd_ne hb]; exact q1, q2, by rw [upd_ne hb]; exact q3⟩
  refine ⟨S, ⟨fun b u q => ?_, fun a ro q => ?_, K.Φ.st S h.φ, K.F.B.st S h.b⟩⟩
  · by_cases hb : b = p
    · subst hb; rw [upd_same] at q; rw [upd_same]; exact q
    · rw [upd_ne hb] at q; rw [upd_ne hb]; exact h.g b u q
  · obtain ⟨h1, u, h2, h3⟩ := h.r a ro q
    have hb : a ≠ p := ne_of_none h2 e
    exact ⟨by rw [upd_ne hb]; exact h1, u, by rw [upd_ne hb]; exact h2, h3.mono s1⟩
/-- a new thing that may change -/
theorem RepH.new (h : RepH K G R H) {p : Addr} {o : HO} {ro : RO} (e : H p = none) (k : ROk K G ro o) : Stp G R H G (put R p ro) (upd H p o) ∧ RepH K G (put R p ro) (upd H p o) := by
  have gp := h.gfree e
  have S : Stp G R H G (put R p ro) (upd H p o) := .mk0 (Same.refl G) fun b u q1 q2 q3 => by
    have hb : b ≠ p := ne_of_none q1 e
    exact ⟨by rw [upd_ne hb]; exact q1, by rw [put_ne hb]; exact q2, q3⟩
  refine ⟨S, ?_⟩
  refine ⟨fun b u q => by rw [upd_ne (ne_of_none q gp)]; exact h.g b u q, fun a r q => ?_, K.Φ.st S h.φ, K.F.B.st S h.b⟩
  by_cases hb : a = p
  · subst hb; rw [put_same] at q; cases q; exact ⟨gp, o, upd_same, k⟩
  · rw [put_ne hb] at q
    obtain ⟨h1, u, h2, h3⟩ := h.r a r q
    exact ⟨h1, u, by rw [upd_ne hb]; exact h2, h3⟩
/-- a thing is changed -/
theorem RepH.chg (h : RepH K G R H) {p : Addr} {o : HO} {ro r0 : RO} (e : R p = some r0) (k : ROk K G ro o) : Stp G R H G (put R p ro) (upd H p o) ∧ RepH K G (put R p ro) (upd H p o) := by
  obtain ⟨gp, _, _, _⟩ := h.r p r0 e
  have S : Stp G R H G (put R p ro) (upd H p o) := .mk0 (Same.refl G) fun b u q1 q2 q3 => by
    have hb : b ≠ p := by intro z; subst z; rw [q2] at e; cases e
    exact ⟨by rw [upd_ne hb]; exact q1, by rw [put_ne hb]; exact q2, q3⟩
  refine ⟨S, ?_⟩
  refine ⟨fun b u q => by rw [upd_ne (ne_of_none q gp)]; exact h.g b u q, fun a r q => ?_, K.Φ.st S h.φ, K.F.B.st S h.b⟩
  by_cases hb : a = p
  · subst hb; rw [put_same] at q; cases q; exact ⟨gp, o, upd_same, k⟩
  · rw [put_ne hb] at q
    obtain ⟨h1, u, h2, h3⟩ := h.r a r q
    exact ⟨h1, u, by rw [upd_ne hb]; exact h2, h3⟩
/-- the heap beside what is told has a new thing -/
theorem Stp.more (s : Same H H') : Stp G R H G R H' := .mk0 (Same.refl G) fun a o q1 q2 q3 => ⟨s a o q1, q2, q3⟩
theorem RepH.more (h : RepH K G R H) (s : Same H H') : RepH K G R H' := ⟨h.g.trans s, fun a ro e => let ⟨h1, o, h2, h3⟩ := h.r a ro e; ⟨h1, o, s _ _ h2, h3⟩, K.Φ.st (.more s) h.φ, K.F.B.st (.more s) h.b⟩
theorem RepH.lst (h : RepH K G R H) {l : Addr} {ds : List D} (e : R l = some (.lst ds)) : ∃ vs, H l = some (.lst vs) ∧ DVs K G ds vs := by
  obtain ⟨_, o, h2, vs, rfl, h3⟩ := h.r l _ e
  exact ⟨vs, h2, h3⟩
end

/-! ### readings -/
abbrev DSt := List (Option D)
abbrev DK := D → Rs → Prop
abbrev DTE := DSt → Rs → DK → Prop
abbrev DTT := DSt → Rs → (Bool → Rs → Prop) → Prop
abbrev DTA := DSt → Rs → (List D → Rs → Prop) → Prop
structure DEnds where
  nx : DSt → Rs → Prop
  rt : DK
  bk : DSt → Rs → Prop := fun _ _ => False
  ct : DSt → Rs → Prop := fun _ _ => False
abbrev DTS := DEnds → DSt → Rs → Prop

structure SV (K : PySem.W.Frag) (G : Hp) (sd : DSt) (s : L2.St) : Prop where
  len : sd.length = s.length
  at' : ∀ (i : Nat) (d : D), sd[i]? = some (some d) → ∃ v, s[i]? = some (some v) ∧ DV K G d v
theorem SV.mono {K : PySem.W.Frag} {G G' : Hp} {sd : DSt} {s : L2.St} (h : SV K G sd s) (e : Same G G') : SV K G' sd s :=
  ⟨h.len, fun i d q => let ⟨v, a, b⟩ := h.at' i d q; ⟨v, a, b.mono e⟩⟩
theorem SV.set {K : PySem.W.Frag} {G : Hp} {sd : DSt} {s : L2.St} (h : SV K G sd s) (i : Nat) {d : D} {v : V} (q : DV K G d v) : SV K G (sd.set i (some d)) (s.set i (some v)) := by
  refine ⟨by rw [List.length_set, List.length_set]; exact h.len, fun j e hj => ?_⟩
  by_cases hij : i = j
  · subst hij
    by_cases hl : i < sd.length
    · rw [List.getElem?_set_self hl] at hj
      cases hj
      exact ⟨v, List.getElem?_set_self (by rw [← h.len]; exact hl), q⟩
    · rw [List.getElem?_eq_none (by rw [List.length_set]; omega)] at hj; cases hj
  · rw [List.getElem?_set_ne hij] at hj
    rw [List.getElem?_set_ne hij]
    exact h.at' j e hj
theorem SV.forget {K : PySem.W.Frag} {G : Hp} {sd : DSt} {s : L2.St} (h : SV K G sd s) (i : Nat) : SV K G (sd.set i none) (s.set i none) := by
  refine ⟨by rw [List.length_set, List.length_set]; exact h.len, fun j e hj => ?_⟩
  by_cases hij : i = j
  · subst hij
    by_cases hl : i < sd.length
    · rw [List.getElem?_set_self hl] at hj; cases hj
    · rw [List.getElem?_eq_none (by rw [List.length_set]; omega)] at hj; cases hj
  · rw [List.getElem?_set_ne hij] at hj
    rw [List.getElem?_set_ne hij]
    exact h.at' j e hj

structure EB (K : KF) (G : Hp) (R : Rs) (H : Hp) (Ed : DEnds) (E : Ends) : Prop where
  nx : ∀ G' sd s R' H', Stp G R H G' R' H' → SV K G' sd s → RepH K G' R' H' → Ed.nx sd R' → E.nx s H'
  rt : ∀ G' R' H' d v, Stp G R H G' R' H' → RepH K G' R' H' → DV K G' d v → Ed.rt d R' → E.rt v H'
  bk : ∀ G' sd s R' H', Stp G R H G' R' H' → SV K G' sd s → RepH K G' R' H' → Ed.bk sd R' → E.bk s H'
  ct : ∀ G' sd s R' H', Stp G R H G' R' H' → SV K G' sd s → RepH K G' R' H' → Ed.ct sd R' → E.ct s H'
theorem EB.st {K : KF} {G G' : Hp} {R R' : Rs} {H H' : Hp} {Ed : DEnds} {E : Ends} (h : EB K G R H Ed E) (e : Stp G R H G' R' H') : EB K G' R' H' Ed E :=
  ⟨fun g sd s R H q => h.nx g sd s R H (e.trans q), fun g R H d v q => h.rt g R H d v (e.trans q), fun g sd s R H q => h.bk g sd s R H (e.trans q), fun g sd s R H q => h.ct g sd s R H (e.trans q)⟩
theorem SV.st {K : PySem.W.Frag} {G G' : Hp} {R R' : Rs} {H H' : Hp} {sd : DSt} {s : L2.St} (h : SV K G sd s) (e : Stp G R H G' R' H') : SV K G' sd s := h.mono e.g
theorem DV.st {K : PySem.W.Frag} {G G' : Hp} {R R' : Rs} {H H' : Hp} {d : D} {v : V} (h : DV K G d v) (e : Stp G R H G' R' H') : DV K G' d v := h.mono e.g
theorem DVs.st {K : PySem.W.Frag} {G G' : Hp} {R R' : Rs} {H H' : Hp} {d : List D} {v : List V} (h : DVs K G d v) (e : Stp G R H G' R' H') : DVs K G' d v := h.mono e.g

/-- what stands behind an expression -/
def CB (K : KF) (G : Hp) (R : Rs) (H : Hp) (Qd : DK) (Q : VK) : Prop := ∀ G' R' H' d v, Stp G R H G' R' H' → RepH K G' R' H' → DV K G' d v → Qd d R' → Q v H'
def CBT (K : KF) (G : Hp) (R : Rs) (H : Hp) (Qd : Bool → Rs → Prop) (Q : Bool → Hp → Prop) : Prop := ∀ G' R' H' b, Stp G R H G' R' H' → RepH K G' R' H' → Qd b R' → Q b H'
def CBA (K : KF) (G : Hp) (R : Rs) (H : Hp) (Qd : List D → Rs → Prop) (Q : List V → Hp → Prop) : Prop := ∀ G' R' H' ds vs, Stp G R H G' R' H' → RepH K G' R' H' → DVs K G' ds vs → Qd ds R' → Q vs H'
def CBS (K : KF) (G : Hp) (R : Rs) (H : Hp) (Qd : DSt → Rs → Prop) (Q : L2.St → Hp → Prop) : Prop := ∀ G' sd s R' H', Stp G R H G' R' H' → SV K G' sd s → RepH K G' R' H' → Qd sd R' → Q s H'
section
variable {K : KF} {G G' : Hp} {R R' : Rs} {H H' : Hp}
theorem CB.st {Qd : DK} {Q : VK} (h : CB K G R H Qd Q) (e : Stp G R H G' R' H') : CB K G' R' H' Qd Q := fun g R H d v q => h g R H d v (e.trans q)
theorem CBT.st {Qd : Bool → Rs → Prop} {Q : Bool → Hp → Prop} (h : CBT K G R H Qd Q) (e : Stp G R H G' R' H') : CBT K G' R' H' Qd Q := fun g R H b q => h g R H b (e.trans q)
theorem CBA.st {Qd : List D → Rs → Prop} {Q : List V → Hp → Prop} (h : CBA K G R H Qd Q) (e : Stp G R H G' R' H') : CBA K G' R' H' Qd Q := fun g R H d v q => h g R H d v (e.trans q)
theorem CBS.st {Qd : DSt → Rs → Prop} {Q : L2.St → Hp → Prop} (h : CBS K G R H Qd Q) (e : Stp G R H G' R' H') : CBS K G' R' H' Qd Q := fun g sd s R H q => h g sd s R H (e.trans q)
end
def LE (K : KF) (te : TE) (td : DTE) : Prop := ∀ G sd s R H Qd Q, SV K G sd s → RepH K G R H → td sd R Qd → CB K G R H Qd Q → te s H Q
def LT (K : KF) (te : TT) (td : DTT) : Prop := ∀ G sd s R H Qd Q, SV K G sd s → RepH K G R H → td sd R Qd → CBT K G R H Qd Q → te s H Q
def LA (K : KF) (te : TA) (td : DTA) : Prop := ∀ G sd s R H Qd Q, SV K G sd s → RepH K G R H → td sd R Qd → CBA K G R H Qd Q → te s H Q
def LS (K : KF) (ts : TS) (td : DTS) : Prop := ∀ G sd s R H Ed E, SV K G sd s → RepH K G R H → td Ed sd R → EB K G R H Ed E → ts E s H

def DE (X : CxF) (e : Expr) (t : DTE) : Prop := ∃ te, PE X e te ∧ LE X.K te t
def DT (X : CxF) (e : Expr) (t : DTT) : Prop := ∃ te, PT X e te ∧ LT X.K te t
def DW (X : CxF) (e : Expr) (t : DTT) : Prop := ∃ te, PW X e te ∧ LT X.K te t
def DA (X : CxF) (es : List Expr) (t : DTA) : Prop := ∃ te, PA X es te ∧ LA X.K te t
def DS (X : CxF) (st : Stmt) (t : DTS) : Prop := ∃ te, PS X st te ∧ LS X.K te t
def DSs (X : CxF) (st : List Stmt) (t : DTS) : Prop := ∃ te, PSs X st te ∧ LS X.K te t

/-! ### names and constants -/
def dVar (i : Nat) : DTE := fun s R Q => ∃ d, s[i]? = some (some d) ∧ Q d R
def dC (d : D) : DTE := fun _ R Q => Q d R
theorem LE.var {K : KF} (i : Nat) : LE K (tVar i) (dVar i) := fun G sd s R H Qd Q sv rh ⟨d, e, q⟩ c => by
  obtain ⟨v, e2, r⟩ := sv.at' i d e
  exact ⟨v, e2, c G R H d v (Stp.refl G R H) rh r q⟩
theorem LE.con {K : KF} {v : V} {d : D} (h : ∀ G, DV K G d v) : LE K (tC v) (dC d) := fun G sd s R H Qd Q sv rh q c => c G R H d v (Stp.refl G R H) rh (h G) q
section
variable {X : CxF}
theorem dv (i : Nat) {x : Str} {pos : Pos} (hN : X.N[i]? = some x := by rfl) (hv : Vis X.env.scope x := by first | exact Or.inl rfl | exact Or.inr (Or.inl rfl) | exact Or.inr (Or.inr rfl)) (hd : (x == ("__debug__" : Str)) = false := by decide)
    (hcd : (x == ("__classdict__" : Str)) = false := by decide) : DE X (.Name x pos) (dVar i) := ⟨_, pe_var hN hv hd hcd, LE.var i⟩
theorem de_int {i : Int} {j : Nat} {pos : Pos} : DE X (.Constant (.int i) j pos) (dC (.int i)) := ⟨_, pe_int, LE.con fun _ => .int _⟩
theorem de_bl {b : Bool} {j : Nat} {pos : Pos} : DE X (.Constant (.bool b) j pos) (dC (.bl b)) := ⟨_, pe_bl, LE.con fun _ => .bl _⟩
theorem de_non {j : Nat} {pos : Pos} : DE X (.Constant .none j pos) (dC .non) := ⟨_, pe_non, LE.con fun _ => .non⟩
theorem de_str {x : Str} {j : Nat} {pos : Pos} : DE X (.Constant (.str x) j pos) (dC (.str x)) := ⟨_, pe_str, LE.con fun _ => .str _⟩
end
end DL
end
section
set_option Elab.async false
set_option maxRecDepth 100000
set_option linter.all false
set_option autoImplicit false
/-! DL2: expressions, tests, statements, loops over plain data -/
namespace DL
open PySem PySem.Spec PyProof.Rows L2
variable [TabCtx]

/-! ### values -/
abbrev DR2 := D → D → Rs → DK → Prop
def LR1 (K : KF) (r : V → Hp → VK → Prop) (rd : D → Rs → DK → Prop) : Prop := ∀ G R H x xd Qd Q, RepH K G R H → DV K G xd x → rd xd R Qd → CB K G R H Qd Q → r x H Q
def LR2 (K : KF) (r : R2) (rd : DR2) : Prop := ∀ G R H x y xd yd Qd Q, RepH K G R H → DV K G xd x → DV K G yd y → rd xd yd R Qd → CB K G R H Qd Q → r x y H Q
def LRA (K : KF) (r : List V → Hp → VK → Prop) (rd : List D → Rs → DK → Prop) : Prop := ∀ G R H xs ds Qd Q, RepH K G R H → DVs K G ds xs → rd ds R Qd → CB K G R H Qd Q → r xs H Q
def LRM (K : KF) (r : V → List V → Hp → VK → Prop) (rd : D → List D → Rs → DK → Prop) : Prop := ∀ G R H x xs d ds Qd Q, RepH K G R H → DV K G d x → DVs K G ds xs → rd d ds R Qd → CB K G R H Qd Q → r x xs H Q
def LRS (K : KF) (r : V → Option Int → Option Int → Hp → VK → Prop) (rd : D → Option Int → Option Int → Rs → DK → Prop) : Prop := ∀ G R H x d lo hi Qd Q, RepH K G R H → DV K G d x → rd d lo hi R Qd → CB K G R H Qd Q → r x lo hi H Q
def OpD (X : CxF) (f : Value → Value → Sem Value) (rd : DR2) : Prop := ∃ r, OpR X f r ∧ LR2 X.K r rd
def UnD (X : CxF) (f : Value → Sem Value) (rd : D → Rs → DK → Prop) : Prop := ∃ r, UnR X f r ∧ LR1 X.K r rd
def CallD (X : CxF) (f : Value) (rd : List D → Rs → DK → Prop) : Prop := ∃ r, CallR X f r ∧ LRA X.K r rd
def MtD (X : CxF) (id : String) (rd : D → List D → Rs → DK → Prop) : Prop := ∃ r, MtR X id r ∧ LRM X.K r rd
def IxD (X : CxF) (rd : DR2) : Prop := ∃ r, IxR X r ∧ LR2 X.K r rd
def SlD (X : CxF) (rd : D → Option Int → Option Int → Rs → DK → Prop) : Prop := ∃ r, SlR X r ∧ LRS X.K r rd

/-! ### expressions -/
def dOp (r : DR2) (ta tb : DTE) : DTE := fun s R Q => ta s R fun x R1 => tb s R1 fun y R2 => r x y R2 Q
def dUn (r : D → Rs → DK → Prop) (ta : DTE) : DTE := fun s R Q => ta s R fun x R1 => r x R1 Q
def dNil : DTA := fun _ R Q => Q [] R
def dCons (ta : DTE) (tr : DTA) : DTA := fun s R Q => ta s R fun x R1 => tr s R1 fun xs R2 => Q (x :: xs) R2
def dCB (r : List D → Rs → DK → Prop) (t : DTA) : DTE := fun s R Q => t s R fun ds R1 => r ds R1 Q
/-- a tuple -/
def dTup (t : DTA) : DTE := fun s R Q => t s R fun ds R1 => ds.length ≤ sizeLine ∧ Q (.tup ds) R1
/-- a list that never changes -/
def dLstF (t : DTA) : DTE := fun s R Q => t s R fun ds R1 => ds.length ≤ sizeLine ∧ Q (.lst ds) R1
/-- a list that may change -/
def dLst (t : DTA) : DTE := fun s R Q => t s R fun ds R1 => ds.length ≤ sizeLine ∧ ∀ p, R1 p = none → Q (.ref p) (put R1 p (.lst ds))
def dIf (t : DTT) (ta tb : DTE) : DTE := fun s R Q => t s R fun c R1 => if c = true then ta s R1 Q else tb s R1 Q
def dB (t : DTE) : DTT := fun s R Q => t s R fun x R1 => ∃ c, x = .bl c ∧ Q c R1
def dAnd (t u : DTT) : DTT := fun s R Q => t s R fun c R1 => if c = true then u s R1 Q else Q false R1
def dOr (t u : DTT) : DTT := fun s R Q => t s R fun c R1 => if c = true then Q true R1 else u s R1 Q
def dNot (t : DTT) : DTT := fun s R Q => t s R fun c R1 => Q (!c) R1
def dAndV (ta tb : DTE) : DTE := fun s R Q => ta s R fun x R1 => ∃ c, x = .bl c ∧ if c = true then tb s R1 Q else Q (.bl false) R1
def dOrV (ta tb : DTE) : DTE := fun s R Q => ta s R fun x R1 => ∃ c, x = .bl c ∧ if c = true then Q (.bl true) R1 else tb s R1 Q
def dNotV (ta : DTE) : DTE := fun s R Q => ta s R fun x R1 => ∃ c, x = .bl c ∧ Q (.bl (!c)) R1
def dChain (r r' : DR2) (ta tb tc : DTE) : DTE := fun s R Q => ta s R fun x R1 => tb s R1 fun y R2 => r x y R2 fun z R3 => ∃ k, z = .bl k ∧ (if k = true then tc s R3 fun w' R4 => r' y w' R4 Q else Q (.bl false) R3)

section
variable {X : CxF} {a b c e o : Expr} {es rest : List Expr} {ta tb tc te to : DTE} {tA tB' : DTT} {t : DTA} {pos p apos cpos : Pos}
theorem de_op {op : Operator} {r : DR2} (ho : OpD X (binaryOp op) r) (ha : DE X a ta) (hb : DE X b tb) : DE X (.BinOp a op b pos) (dOp r ta tb) := by
  obtain ⟨r0, o1, o2⟩ := ho; obtain ⟨t1, a1, a2⟩ := ha; obtain ⟨t2, b1, b2⟩ := hb
  exact ⟨_, pe_op o1 a1 b1, fun G sd s R H Qd Q sv rh q k => a2 G sd s R H _ _ sv rh q fun G1 R1 H1 d v e1 rh1 dv1 q1 => b2 G1 sd s R1 H1 _ _ (sv.st e1) rh1 q1 fun G2 R2 H2 d2 v2 e2 rh2 dv2 q2 => o2 G2 R2 H2 v v2 d d2 _ _ rh2 (dv1.st e2) dv2 q2 (k.st (e1.trans e2))⟩
theorem de_cmp {op : CmpOp} {r : DR2} (ho : OpD X (compareOp op) r) (ha : DE X a ta) (hb : DE X b tb) (hm : behindInMarks op b = false) : DE X (.Compare a [op] [b] pos) (dOp r ta tb) := by
  obtain ⟨r0, o1, o2⟩ := ho; obtain ⟨t1, a1, a2⟩ := ha; obtain ⟨t2, b1, b2⟩ := hb
  exact ⟨_, pe_cmpR o1 a1 b1 hm, fun G sd s R H Qd Q sv rh q k => a2 G sd s R H _ _ sv rh q fun G1 R1 H1 d v e1 rh1 dv1 q1 => b2 G1 sd s R1 H1 _ _ (sv.st e1) rh1 q1 fun G2 R2 H2 d2 v2 e2 rh2 dv2 q2 => o2 G2 R2 H2 v v2 d d2 _ _ rh2 (dv1.st e2) dv2 q2 (k.st (e1.trans e2))⟩
theorem DV.ofBl {K : PySem.W.Frag} {G : Hp} {c : Bool} {v : V} (h : DV K G (.bl c) v) : v = .bl c := by cases h; rfl
theorem dt_cmp {op : CmpOp} {r : DR2} (ho : OpD X (compareOp op) r) (ha : DE X a ta) (hb : DE X b tb) (hm : behindInMarks op b = false) : DT X (.Compare a [op] [b] pos) (dB (dOp r ta tb)) := by
  obtain ⟨r0, o1, o2⟩ := ho; obtain ⟨t1, a1, a2⟩ := ha; obtain ⟨t2, b1, b2⟩ := hb
  refine ⟨_, pt_cmpR o1 a1 b1 hm, fun G sd s R H Qd Q sv rh q k => a2 G sd s R H _ _ sv rh q fun G1 R1 H1 d v e1 rh1 dv1 q1 => b2 G1 sd s R1 H1 _ _ (sv.st e1) rh1 q1 fun G2 R2 H2 d2 v2 e2 rh2 dv2 q2 => o2 G2 R2 H2 v v2 d d2 _ _ rh2 (dv1.st e2) dv2 q2 fun G3 R3 H3 d3 v3 e3 rh3 dv3 q3 => ?_⟩
  obtain ⟨c, rfl, q4⟩ := q3
  exact ⟨c, DV.ofBl dv3, k G3 R3 H3 c (e1.trans (e2.trans e3)) rh3 q4⟩
theorem de_chain {op op' : CmpOp} {r r' : DR2} (ho : OpD X (compareOp op) r) (ho' : OpD X (compareOp op') r') (ha : DE X a ta) (hb : DE X b tb) (hc : DE X c tc) (hm : lastMarks [op, op'] [b, c] = false := by with_unfolding_all rfl) : DE X (.Compare a [op, op'] [b, c] pos) (dChain r r' ta tb tc) := by
  obtain ⟨r0, o1, o2⟩ := ho; obtain ⟨r0', o1', o2'⟩ := ho'; obtain ⟨t1, a1, a2⟩ := ha; obtain ⟨t2, b1, b2⟩ := hb; obtain ⟨t3, c1, c2⟩ := hc
  refine ⟨_, pe_chain o1 o1' a1 b1 c1 hm, fun G sd s R H Qd Q sv rh q k => a2 G sd s R H _ _ sv rh q fun G1 R1 H1 d v e1 rh1 dv1 q1 => b2 G1 sd s R1 H1 _ _ (sv.st e1) rh1 q1 fun G2 R2 H2 d2 v2 e2 rh2 dv2 q2 => o2 G2 R2 H2 v v2 d d2 _ _ rh2 (dv1.st e2) dv2 q2 fun G3 R3 H3 d3 v3 e3 rh3 dv3 q3 => ?_⟩
  obtain ⟨c, rfl, q4⟩ := q3
  refine ⟨c, DV.ofBl dv3, ?_⟩
  have g3 := e1.trans (e2.trans e3)
  cases c with
  | false => exact k G3 R3 H3 _ _ g3 rh3 (.bl false) q4
  | true => exact c2 G3 sd s R3 H3 _ _ (sv.st g3) rh3 q4 fun G4 R4 H4 d4 v4 e4 rh4 dv4 q5 => o2' G4 R4 H4 v2 v4 d2 d4 _ _ rh4 (dv2.st (e3.trans e4)) dv4 q5 (k.st (g3.trans e4))
theorem dt_chain {op op' : CmpOp} {r r' : DR2} (ho : OpD X (compareOp op) r) (ho' : OpD X (compareOp op') r') (ha : DE X a ta) (hb : DE X b tb) (hc : DE X c tc) (hm : lastMarks [op, op'] [b, c] = false := by with_unfolding_all rfl) : DT X (.Compare a [op, op'] [b, c] pos) (dB (dChain r r' ta tb tc)) := by
  obtain ⟨r0, o1, o2⟩ := ho; obtain ⟨r0', o1', o2'⟩ := ho'; obtain ⟨t1, a1, a2⟩ := ha; obtain ⟨t2, b1, b2⟩ := hb; obtain ⟨t3, c1, c2⟩ := hc
  refine ⟨_, pt_chain o1 o1' a1 b1 c1 hm, fun G sd s R H Qd Q sv rh q k => a2 G sd s R H _ _ sv rh q fun G1 R1 H1 d v e1 rh1 dv1 q1 => b2 G1 sd s R1 H1 _ _ (sv.st e1) rh1 q1 fun G2 R2 H2 d2 v2 e2 rh2 dv2 q2 => o2 G2 R2 H2 v v2 d d2 _ _ rh2 (dv1.st e2) dv2 q2 fun G3 R3 H3 d3 v3 e3 rh3 dv3 q3 => ?_⟩
  obtain ⟨c, rfl, q4⟩ := q3
  refine ⟨c, DV.ofBl dv3, ?_⟩
  have g3 := e1.trans (e2.trans e3)
  cases c with
  | false =>
    obtain ⟨c', e', q5⟩ := q4
    cases e'
    exact ⟨false, rfl, k G3 R3 H3 _ g3 rh3 q5⟩
  | true =>
    refine c2 G3 sd s R3 H3 _ _ (sv.st g3) rh3 q4 fun G4 R4 H4 d4 v4 e4 rh4 dv4 q5 => o2' G4 R4 H4 v2 v4 d2 d4 _ _ rh4 (dv2.st (e3.trans e4)) dv4 q5 fun G5 R5 H5 d5 v5 e5 rh5 dv5 q6 => ?_
    obtain ⟨c', rfl, q7⟩ := q6
    exact ⟨c', DV.ofBl dv5, k G5 R5 H5 c' (g3.trans (e4.trans e5)) rh5 q7⟩
theorem dt_val (h : DE X e te) (he : ∀ whole, isTrue e X.env whole = (do let v ← whole; standAt e.pos; holding [v] (truthy v)) := by intro _; rfl) : DT X e (dB te) := by
  obtain ⟨t1, a1, a2⟩ := h
  refine ⟨_, pt_val a1 he, fun G sd s R H Qd Q sv rh q k => a2 G sd s R H _ _ sv rh q fun G1 R1 H1 d v e1 rh1 dv1 q1 => ?_⟩
  obtain ⟨c, rfl, q2⟩ := q1
  exact ⟨c, DV.ofBl dv1, k G1 R1 H1 c e1 rh1 q2⟩
theorem DW.dt {t : DTT} (h : DW X e t) : DT X e t := let ⟨t1, a, b⟩ := h; ⟨t1, a.pt, b⟩
theorem dw_and1 (ha : DT X a tA) : DW X (.BoolOp .And [a] pos) tA := let ⟨t1, a1, a2⟩ := ha; ⟨t1, pw_and1 a1, a2⟩
theorem dw_or1 (ha : DT X a tA) : DW X (.BoolOp .Or [a] pos) tA := let ⟨t1, a1, a2⟩ := ha; ⟨t1, pw_or1 a1, a2⟩
theorem dw_and (ha : DT X a tA) (hb : DW X (.BoolOp .And (b :: rest) pos) tB') : DW X (.BoolOp .And (a :: b :: rest) pos) (dAnd tA tB') := by
  obtain ⟨t1, a1, a2⟩ := ha; obtain ⟨t2, b1, b2⟩ := hb
  refine ⟨_, pw_and a1 b1, fun G sd s R H Qd Q sv rh q k => a2 G sd s R H _ _ sv rh q fun G1 R1 H1 c e1 rh1 q1 => ?_⟩
  cases c with
  | false => exact k G1 R1 H1 _ e1 rh1 q1
  | true => exact b2 G1 sd s R1 H1 _ _ (sv.st e1) rh1 q1 (k.st e1)
theorem dw_or (ha : DT X a tA) (hb : DW X (.BoolOp .Or (b :: rest) pos) tB') : DW X (.BoolOp .Or (a :: b :: rest) pos) (dOr tA tB') := by
  obtain ⟨t1, a1, a2⟩ := ha; obtain ⟨t2, b1, b2⟩ := hb
  refine ⟨_, pw_or a1 b1, fun G sd s R H Qd Q sv rh q k => a2 G sd s R H _ _ sv rh q fun G1 R1 H1 c e1 rh1 q1 => ?_⟩
  cases c with
  | true => exact k G1 R1 H1 _ e1 rh1 q1
  | false => exact b2 G1 sd s R1 H1 _ _ (sv.st e1) rh1 q1 (k.st e1)
theorem dt_not (ha : DT X a tA) : DT X (.UnaryOp .Not a pos) (dNot tA) := by
  obtain ⟨t1, a1, a2⟩ := ha
  exact ⟨_, pt_not a1, fun G sd s R H Qd Q sv rh q k => a2 G sd s R H _ _ sv rh q fun G1 R1 H1 c e1 rh1 q1 => k G1 R1 H1 _ e1 rh1 q1⟩
theorem de_one {op : BoolOp} (ha : DE X a ta) : DE X (.BoolOp op [a] pos) ta := let ⟨t1, a1, a2⟩ := ha; ⟨t1, pe_one a1, a2⟩
theorem de_and (ha : DE X a ta) (hb : DE X (.BoolOp .And (b :: rest) pos) tb) : DE X (.BoolOp .And (a :: b :: rest) pos) (dAndV ta tb) := by
  obtain ⟨t1, a1, a2⟩ := ha; obtain ⟨t2, b1, b2⟩ := hb
  refine ⟨_, pe_and a1 b1, fun G sd s R H Qd Q sv rh q k => a2 G sd s R H _ _ sv rh q fun G1 R1 H1 d v e1 rh1 dv1 q1 => ?_⟩
  obtain ⟨c, rfl, q2⟩ := q1
  refine ⟨c, DV.ofBl dv1, ?_⟩
  cases c with
  | false => exact k G1 R1 H1 _ _ e1 rh1 (.bl _) q2
  | true => exact b2 G1 sd s R1 H1 _ _ (sv.st e1) rh1 q2 (k.st e1)
theorem de_if (hc : DT X c tA) (ha : DE X a ta) (hb : DE X b tb) : DE X (.IfExp c a b pos) (dIf tA ta tb) := by
  obtain ⟨t0, c1, c2⟩ := hc; obtain ⟨t1, a1, a2⟩ := ha; obtain ⟨t2, b1, b2⟩ := hb
  refine ⟨_, pe_ifExp c1 a1 b1, fun G sd s R H Qd Q sv rh q k => c2 G sd s R H _ _ sv rh q fun G1 R1 H1 c e1 rh1 q1 => ?_⟩
  cases c with
  | true => exact a2 G1 sd s R1 H1 _ _ (sv.st e1) rh1 q1 (k.st e1)
  | false => exact b2 G1 sd s R1 H1 _ _ (sv.st e1) rh1 q1 (k.st e1)
theorem da_nil : DA X [] dNil := ⟨_, pa_nil, fun G sd s R H Qd Q sv rh q k => k G R H [] [] (Stp.refl G R H) rh .nil q⟩
theorem da_cons (ha : DE X e te) (hr : DA X es t) (hs : starEach (e :: es) X.env = (false, eval e X.env) :: starEach es X.env := by rfl) : DA X (e :: es) (dCons te t) := by
  obtain ⟨t1, a1, a2⟩ := ha; obtain ⟨t2, b1, b2⟩ := hr
  exact ⟨_, pa_cons a1 b1 hs, fun G sd s R H Qd Q sv rh q k => a2 G sd s R H _ _ sv rh q fun G1 R1 H1 d v e1 rh1 dv1 q1 => b2 G1 sd s R1 H1 _ _ (sv.st e1) rh1 q1 fun G2 R2 H2 ds vs e2 rh2 dvs2 q2 => k G2 R2 H2 _ _ (e1.trans e2) rh2 (.cons (dv1.st e2) dvs2) q2⟩
theorem de_tup {x1} (h : DA X es t) : DE X (.Tuple es x1 pos) (dTup t) := by
  obtain ⟨t1, a1, a2⟩ := h
  refine ⟨_, pe_tup a1, fun G sd s R H Qd Q sv rh q k => a2 G sd s R H _ _ sv rh q fun G1 R1 H1 ds vs e1 rh1 dvs1 q1 => ?_⟩
  refine ⟨by rw [← dvs1.length]; exact q1.1, fun p hp => ?_⟩
  obtain ⟨s1, rh2⟩ := rh1.imm (o := .tup vs) hp
  exact k _ R1 _ _ _ (e1.trans s1) rh2 (.tup (.inl (.inl upd_same)) (dvs1.st s1)) q1.2
theorem de_lstF (h : DA X es t) : DE X (.List es pos) (dLstF t) := by
  obtain ⟨t1, a1, a2⟩ := h
  refine ⟨_, pe_lst a1, fun G sd s R H Qd Q sv rh q k => a2 G sd s R H _ _ sv rh q fun G1 R1 H1 ds vs e1 rh1 dvs1 q1 => ?_⟩
  refine ⟨by rw [← dvs1.length]; exact q1.1, fun p hp => ?_⟩
  obtain ⟨s1, rh2⟩ := rh1.imm (o := .lst vs) hp
  exact k _ R1 _ _ _ (e1.trans s1) rh2 (.lst upd_same (dvs1.st s1)) q1.2
theorem de_lst (h : DA X es t) : DE X (.List es pos) (dLst t) := by
  obtain ⟨t1, a1, a2⟩ := h
  refine ⟨_, pe_lst a1, fun G sd s R H Qd Q sv rh q k => a2 G sd s R H _ _ sv rh q fun G1 R1 H1 ds vs e1 rh1 dvs1 q1 => ?_⟩
  refine ⟨by rw [← dvs1.length]; exact q1.1, fun p hp => ?_⟩
  obtain ⟨s1, rh2⟩ := rh1.new (ro := .lst ds) (o := .lst vs) hp ⟨vs, rfl, dvs1⟩
  exact k _ _ _ _ _ (e1.trans s1) rh2 (.ref p) (q1.2 p (rh1.free hp))
theorem de_callB {x : Str} {id : String} {r : List D → Rs → DK → Prop} (hc : CallD X (.builtin id) r) (hg : Gl X x) (hm : X.mg x = none) (hv : bootBuiltins x = some (.builtin id)) (ha : DA X (e :: es) t) (hn : x ≠ "__name__" := by decide) (hdb : (x == ("__debug__" : Str)) = false := by decide)
    (he : starEach (e :: es) X.env = (false, eval e X.env) :: starEach es X.env := by rfl) (hpl : (backTo pos (starEach es X.env)).any (·.1) = false := by rfl) : DE X (.Call (.Name x p) (e :: es) [] pos) (dCB r t) := by
  obtain ⟨r0, o1, o2⟩ := hc; obtain ⟨t1, a1, a2⟩ := ha
  exact ⟨_, pe_callB o1 hg hm hv a1 hn hdb he hpl, fun G sd s R H Qd Q sv rh q k => a2 G sd s R H _ _ sv rh q fun G1 R1 H1 ds vs e1 rh1 dvs1 q1 => o2 G1 R1 H1 vs ds _ _ rh1 dvs1 q1 (k.st e1)⟩
theorem de_callTy {x : Str} {T : String} {r : List D → Rs → DK → Prop} (hc : CallD X (.type T) r) (hg : Gl X x) (hm : X.mg x = none) (hv : bootBuiltins x = some (.type T)) (ha : DA X (e :: es) t) (hn : x ≠ "__name__" := by decide) (hdb : (x == ("__debug__" : Str)) = false := by decide)
    (he : starEach (e :: es) X.env = (false, eval e X.env) :: starEach es X.env := by rfl) (hpl : (backTo pos (starEach es X.env)).any (·.1) = false := by rfl) : DE X (.Call (.Name x p) (e :: es) [] pos) (dCB r t) := by
  obtain ⟨r0, o1, o2⟩ := hc; obtain ⟨t1, a1, a2⟩ := ha
  exact ⟨_, pe_callTy o1 hg hm hv a1 hn hdb he hpl, fun G sd s R H Qd Q sv rh q k => a2 G sd s R H _ _ sv rh q fun G1 R1 H1 ds vs e1 rh1 dvs1 q1 => o2 G1 R1 H1 vs ds _ _ rh1 dvs1 q1 (k.st e1)⟩
theorem de_ix {r : DR2} (hr : IxD X r) (ha : DE X a ta) (hb : DE X b tb) (hs : PlainIx b) : DE X (.Subscript a b pos) (dOp r ta tb) := by
  obtain ⟨r0, o1, o2⟩ := hr; obtain ⟨t1, a1, a2⟩ := ha; obtain ⟨t2, b1, b2⟩ := hb
  exact ⟨_, pe_ix o1 a1 b1 hs, fun G sd s R H Qd Q sv rh q k => a2 G sd s R H _ _ sv rh q fun G1 R1 H1 d v e1 rh1 dv1 q1 => b2 G1 sd s R1 H1 _ _ (sv.st e1) rh1 q1 fun G2 R2 H2 d2 v2 e2 rh2 dv2 q2 => o2 G2 R2 H2 v v2 d d2 _ _ rh2 (dv1.st e2) dv2 q2 (k.st (e1.trans e2))⟩
end

/-! ### a slice's parts -/
abbrev DTO := DSt → Rs → (Option Int → Rs → Prop) → Prop
def LO (K : KF) (te : TO) (td : DTO) : Prop := ∀ G sd s R H Qd Q, SV K G sd s → RepH K G R H → td sd R Qd → (∀ G' R' H' o, Stp G R H G' R' H' → RepH K G' R' H' → Qd o R' → Q o H') → te s H Q
def DO (X : CxF) (e : Option Expr) (t : DTO) : Prop := ∃ te, PO X e te ∧ LO X.K te t
def dNoPart : DTO := fun _ R Q => Q none R
def dPart (t : DTE) : DTO := fun s R Q => t s R fun x R1 => ∃ i, x = .int i ∧ Q (some i) R1
def dSl (r : D → Option Int → Option Int → Rs → DK → Prop) (te : DTE) (tl th : DTO) : DTE := fun s R Q => te s R fun x R1 => tl s R1 fun l R2 => th s R2 fun u R3 => r x l u R3 Q
section
variable {X : CxF} {e : Expr} {lo hi : Option Expr} {te : DTE} {tl th : DTO} {pos p2 : Pos}
theorem do_none : DO X none dNoPart := ⟨_, po_none, fun G sd s R H Qd Q sv rh q k => k G R H _ (Stp.refl G R H) rh q⟩
theorem do_some (h : DE X e te) : DO X (some e) (dPart te) := by
  obtain ⟨t1, a1, a2⟩ := h
  refine ⟨_, po_some a1, fun G sd s R H Qd Q sv rh q k => a2 G sd s R H _ _ sv rh q fun G1 R1 H1 d v e1 rh1 dv1 q1 => ?_⟩
  obtain ⟨i, rfl, q2⟩ := q1
  cases dv1
  exact ⟨i, rfl, k G1 R1 H1 _ e1 rh1 q2⟩
theorem de_slice {r : D → Option Int → Option Int → Rs → DK → Prop} (hr : SlD X r) (he : DE X e te) (hl : DO X lo tl) (hu : DO X hi th) : DE X (.Subscript e (.Slice lo hi none p2) pos) (dSl r te tl th) := by
  obtain ⟨r0, o1, o2⟩ := hr; obtain ⟨t1, a1, a2⟩ := he; obtain ⟨t2, b1, b2⟩ := hl; obtain ⟨t3, c1, c2⟩ := hu
  exact ⟨_, pe_slice o1 a1 b1 c1, fun G sd s R H Qd Q sv rh q k => a2 G sd s R H _ _ sv rh q fun G1 R1 H1 d v e1 rh1 dv1 q1 => b2 G1 sd s R1 H1 _ _ (sv.st e1) rh1 q1 fun G2 R2 H2 l e2 rh2 q2 => c2 G2 sd s R2 H2 _ _ (sv.st (e1.trans e2)) rh2 q2 fun G3 R3 H3 u e3 rh3 q3 =>
    o2 G3 R3 H3 v d l u _ _ rh3 (dv1.st (e2.trans e3)) q3 (k.st (e1.trans (e2.trans e3)))⟩
end

/-! ### targets -/
abbrev DTG := D → DSt → Rs → (DSt → Rs → Prop) → Prop
abbrev DTGs := List D → DSt → Rs → (DSt → Rs → Prop) → Prop
def LG (K : KF) (g : TG) (gd : DTG) : Prop := ∀ G sd s R H d v Qd Q, SV K G sd s → RepH K G R H → DV K G d v → gd d sd R Qd → CBS K G R H Qd Q → g v s H Q
def LGs (K : KF) (g : TGs) (gd : DTGs) : Prop := ∀ G sd s R H ds vs Qd Q, SV K G sd s → RepH K G R H → DVs K G ds vs → gd ds sd R Qd → CBS K G R H Qd Q → g vs s H Q
def DG (X : CxF) (tg : Expr) (g : DTG) : Prop := ∃ t, PG X tg t ∧ LG X.K t g
def DGs (X : CxF) (tg : List Expr) (g : DTGs) : Prop := ∃ t, PGs X tg t ∧ LGs X.K t g
def dgName (i : Nat) : DTG := fun d s R Q => Q (s.set i (some d)) R
def dgNil : DTGs := fun ds s R Q => ds = [] ∧ Q s R
def dgCons (t : DTG) (u : DTGs) : DTGs := fun ds s R Q => ∃ d r, ds = d :: r ∧ t d s R fun s' R' => u r s' R' Q
def dgTup (n : Nat) (t : DTGs) : DTG := fun d s R Q => ∃ ds, d = .tup ds ∧ ds.length = n ∧ t ds s R Q
section
variable {X : CxF} {e : Expr} {es : List Expr} {te : DTE} {pos : Pos}
theorem dg_name {i : Nat} {x : Str} (hN : X.N.Nodup) (hi : X.N[i]? = some x) (hx : Loc X.env.scope x) (hf : X.fn x = true ∨ X.env.scope.names.lookup x = some .local := by first | exact .inl rfl | exact .inr rfl | assumption) : DG X (.Name x pos) (dgName i) :=
  ⟨_, pg_name hN hi hx hf, fun G sd s R H d v Qd Q sv rh dv q k => k G _ _ R H (Stp.refl G R H) (sv.set i dv) rh q⟩
theorem dgs_nil : DGs X [] dgNil := ⟨_, pgs_nil, fun G sd s R H ds vs Qd Q sv rh dv q k => by
  obtain ⟨rfl, q⟩ := q
  cases dv
  exact ⟨rfl, k G _ _ R H (Stp.refl G R H) sv rh q⟩⟩
theorem dgs_cons {t : DTG} {u : DTGs} (h : DG X e t) (r : DGs X es u) (hs : (assignEach (e :: es) X.env).map (·.2) = assign e X.env :: (assignEach es X.env).map (·.2) := by rfl) : DGs X (e :: es) (dgCons t u) := by
  obtain ⟨t1, a1, a2⟩ := h; obtain ⟨t2, b1, b2⟩ := r
  refine ⟨_, pgs_cons a1 b1 hs, fun G sd s R H ds vs Qd Q sv rh dv q k => ?_⟩
  obtain ⟨d, r, rfl, q⟩ := q
  cases dv with
  | cons x y => exact ⟨_, _, rfl, a2 G sd s R H _ _ _ _ sv rh x q fun G1 sd1 s1 R1 H1 e1 sv1 rh1 q1 => b2 G1 sd1 s1 R1 H1 _ _ _ _ sv1 rh1 (y.st e1) q1 (k.st e1)⟩
theorem dg_tup {x1} {n : Nat} {t : DTGs} (hc : X.calm = true) (h : DGs X es t) (hn : (assignEach es X.env).length = n := by rfl) (hst : (assignEach es X.env).findIdx? (·.1) = none := by rfl) : DG X (.Tuple es x1 pos) (dgTup n t) := by
  obtain ⟨t1, a1, a2⟩ := h
  subst hn
  refine ⟨_, pg_tup hc a1 rfl hst, fun G sd s R H d v Qd Q sv rh dv q k => ?_⟩
  obtain ⟨ds, rfl, hl, q⟩ := q
  cases dv with
  | tup h1 h2 => exact ⟨_, _, rfl, SqT.same rh.g h1, by rw [← h2.length]; exact hl, a2 G sd s R H _ _ _ _ sv rh h2 q k⟩
end

/-! ### statements -/
def dNext : DTS := fun D s R => D.nx s R
def dSeq (t u : DTS) : DTS := fun D s R => t { D with nx := u D } s R
def dRet (te : DTE) : DTS := fun D s R => te s R D.rt
def dDrop (te : DTE) : DTS := fun D s R => te s R fun _ R1 => D.nx s R1
def dIfS (c : DTT) (t u : DTS) : DTS := fun D s R => c s R fun b R1 => if b = true then t D s R1 else u D s R1
def dAsg (te : DTE) (g : DTG) : DTS := fun D s R => te s R fun x R1 => g x s R1 D.nx
def dNever : DTS := fun _ _ _ => False
def dWhile (c : DTT) (tb : DTS) : DTS := fun D s R => ∃ Pv : Nat → DSt → Rs → Prop, (∃ m, Pv m s R) ∧ ∀ m s R, Pv m s R → c s R fun b R1 =>
  if b = true then tb { D with nx := fun s' R' => ∃ m', m' < m ∧ Pv m' s' R', ct := fun s' R' => ∃ m', m' < m ∧ Pv m' s' R', bk := D.nx } s R1 else D.nx s R1
section
variable {X : CxF} {c e : Expr} {st : Stmt} {a b rest body : List Stmt} {te : DTE} {tc : DTT} {t u tb : DTS} {pos : Pos}
theorem dss_nil : DSs X [] dNext := ⟨_, pss_nil, fun G sd s R H Ed E sv rh q k => k.nx G sd s R H (Stp.refl G R H) sv rh q⟩
theorem dss_cons (h : DS X st t) (r : DSs X rest u) : DSs X (st :: rest) (dSeq t u) := by
  obtain ⟨t1, a1, a2⟩ := h; obtain ⟨t2, b1, b2⟩ := r
  refine ⟨_, pss_cons a1 b1, fun G sd s R H Ed E sv rh q k => a2 G sd s R H _ _ sv rh q ⟨fun G1 sd1 s1 R1 H1 e1 sv1 rh1 q1 => b2 G1 sd1 s1 R1 H1 _ _ sv1 rh1 q1 (k.st e1), k.rt, k.bk, k.ct⟩⟩
theorem dss_one (h : DS X st t) : DSs X [st] t := let ⟨t1, a1, a2⟩ := h; ⟨t1, pss_one a1, a2⟩
theorem ds_ret (h : DE X e te) : DS X (.Return (some e) pos) (dRet te) := by
  obtain ⟨t1, a1, a2⟩ := h
  exact ⟨_, ps_ret a1, fun G sd s R H Ed E sv rh q k => a2 G sd s R H _ _ sv rh q k.rt⟩
theorem ds_expr (h : DE X e te) (hs : swapsWith e none pos.line X.env = pure false := by rfl) : DS X (.Expr e pos) (dDrop te) := by
  obtain ⟨t1, a1, a2⟩ := h
  exact ⟨_, ps_expr a1 hs, fun G sd s R H Ed E sv rh q k => a2 G sd s R H _ _ sv rh q fun G1 R1 H1 d v e1 rh1 dv1 q1 => k.nx G1 sd s R1 H1 e1 (sv.st e1) rh1 q1⟩
theorem ds_if (hc : DT X c tc) (ha : DSs X a t) (hb : DSs X b u) : DS X (.If c a b pos) (dIfS tc t u) := by
  obtain ⟨t0, c1, c2⟩ := hc; obtain ⟨t1, a1, a2⟩ := ha; obtain ⟨t2, b1, b2⟩ := hb
  refine ⟨_, ps_if c1 a1 b1, fun G sd s R H Ed E sv rh q k => c2 G sd s R H _ _ sv rh q fun G1 R1 H1 c e1 rh1 q1 => ?_⟩
  cases c with
  | true => exact a2 G1 sd s R1 H1 _ _ (sv.st e1) rh1 q1 (k.st e1)
  | false => exact b2 G1 sd s R1 H1 _ _ (sv.st e1) rh1 q1 (k.st e1)
theorem ds_asg {tg : Expr} {g : DTG} (h : DE X e te) (hg : DG X tg g) (hs : swapsWithSole [tg] e pos.line X.env = pure false := by rfl) (hw : swappedStores [tg] e X.env = pure none := by rfl) (h1 : (assignEach [tg] X.env).map (·.2) = [assign tg X.env] := by rfl) : DS X (.Assign [tg] e pos) (dAsg te g) := by
  obtain ⟨t1, a1, a2⟩ := h; obtain ⟨t2, b1, b2⟩ := hg
  exact ⟨_, ps_asg a1 b1 hs hw h1, fun G sd s R H Ed E sv rh q k => a2 G sd s R H _ _ sv rh q fun G1 R1 H1 d v e1 rh1 dv1 q1 => b2 G1 sd s R1 H1 _ _ _ _ (sv.st e1) rh1 dv1 q1 fun G2 sd2 s2 R2 H2 e2 sv2 rh2 q2 => k.nx G2 sd2 s2 R2 H2 (e1.trans e2) sv2 rh2 q2⟩
end
end DL
end
section
set_option Elab.async false
set_option maxRecDepth 100000
set_option linter.all false
set_option autoImplicit false
/-! DL3: what is walked, for, comprehensions, defs and their promises -/
namespace DL
open PySem PySem.Spec PyProof.Rows L2
variable [TabCtx]

/-! ### what is walked -/
/-- the iterator J yields xs while ok holds of what may change -/
def Sim (K : KF) (G0 : Hp) (J : It) (xs : List D) (ok : Rs → Prop) : Prop :=
  ∀ G R H, Same G0 G → RepH K G R H → ok R →
    (∀ (i : Nat) (d : D), xs[i]? = some d → J.go i H ∧ ∀ x H', J.yld i H x H' → ∃ G', Stp G R H G' R H' ∧ RepH K G' R H' ∧ DV K G' d x) ∧ ∀ i : Nat, xs.length ≤ i → J.stop i H
abbrev DTI := DSt → Rs → (List D → (Rs → Prop) → Rs → Prop) → Prop
def LI (K : KF) (wi : TI) (wd : DTI) : Prop := ∀ G sd s R H Kd Rr, SV K G sd s → RepH K G R H → wd sd R Kd →
  (∀ G' R' H' J xs ok, Stp G R H G' R' H' → RepH K G' R' H' → Sim K G' J xs ok → Kd xs ok R' → Rr J H') → wi s H Rr
def DI (X : CxF) (tg iter : Expr) (wd : DTI) : Prop := ∃ wi, PI X tg iter wi ∧ LI X.K wi wd

def dFor (wd : DTI) (g : DTG) (tb : DTS) : DTS := fun D s R => wd s R fun xs ok R1 => ∃ Pv : Nat → DSt → Rs → Prop, Pv 0 s R1 ∧ (∀ i s R, i ≤ xs.length → Pv i s R → ok R) ∧
  (∀ (i : Nat) x s R, xs[i]? = some x → Pv i s R → g x s R fun s2 R2 => tb { D with nx := Pv (i + 1), ct := Pv (i + 1), bk := D.nx } s2 R2) ∧ ∀ s R, Pv xs.length s R → D.nx s R
section
variable {X : CxF}
theorem ds_for {tg iter : Expr} {body : List Stmt} {wd : DTI} {g : DTG} {tb : DTS} {pos : Pos} (hp : PassesOwn (model X.prog X.w) X.A X.env X.xe) (hc : X.calm = true) (hi : DI X tg iter wd) (hg : DG X tg g) (hb : DSs X body tb)
    (hs : ∀ x, foldedSetIterable iter X.env x = pure x := by intro _; rfl) : DS X (.For tg iter body [] pos) (dFor wd g tb) := by
  obtain ⟨wi, i1, i2⟩ := hi; obtain ⟨g1, ga, gb⟩ := hg; obtain ⟨t1, a1, a2⟩ := hb
  refine ⟨_, ps_for hp hc i1 ga a1 hs, fun G sd s R H Ed E sv rh q k => i2 G sd s R H _ _ sv rh q fun G1 R1 H1 J xs ok e1 rh1 sim q1 => ?_⟩
  obtain ⟨Pv, p0, pok, step, fin⟩ := q1
  refine ⟨fun i m s' H' => ∃ G' sd' R', Stp G1 R1 H1 G' R' H' ∧ SV X.K G' sd' s' ∧ RepH X.K G' R' H' ∧ i ≤ xs.length ∧ m = xs.length - i ∧ Pv i sd' R', ⟨_, G1, sd, R1, Stp.refl _ _ _, sv.st e1, rh1, Nat.zero_le _, rfl, p0⟩, ?_⟩
  rintro i m s2 H2 ⟨G2, sd2, R2, e2, sv2, rh2, hi, rfl, p2⟩
  obtain ⟨go, stop⟩ := sim G2 R2 H2 e2.g rh2 (pok i sd2 R2 hi p2)
  by_cases hlt : i < xs.length
  · refine .inr ⟨(go i xs[i] (List.getElem?_eq_getElem hlt)).1, fun s' H' => ∃ G' sd' R', Stp G1 R1 H1 G' R' H' ∧ SV X.K G' sd' s' ∧ RepH X.K G' R' H' ∧ i + 1 ≤ xs.length ∧ Pv (i + 1) sd' R', ?_, fun x H' y => ?_⟩
    · rintro s' H' ⟨G3, sd3, R3, e3, sv3, rh3, h3, p3⟩
      exact ⟨xs.length - (i + 1), by omega, G3, sd3, R3, e3, sv3, rh3, h3, rfl, p3⟩
    · obtain ⟨G3, e3, rh3, dv3⟩ := (go i xs[i] (List.getElem?_eq_getElem hlt)).2 x H' y
      refine gb G3 sd2 s2 R2 H' _ _ _ _ (sv2.st e3) rh3 dv3 (step i xs[i] sd2 R2 (List.getElem?_eq_getElem hlt) p2) fun G4 sd4 s4 R4 H4 e4 sv4 rh4 q4 => ?_
      have e14 := e2.trans (e3.trans e4)
      have kk := k.st (e1.trans e14)
      refine a2 G4 sd4 s4 R4 H4 _ _ sv4 rh4 q4 ⟨fun G5 sd5 s5 R5 H5 e5 sv5 rh5 q5 => ⟨G5, sd5, R5, e14.trans e5, sv5, rh5, hlt, q5⟩, kk.rt, fun G5 sd5 s5 R5 H5 e5 sv5 rh5 q5 => kk.nx G5 sd5 s5 R5 H5 e5 sv5 rh5 q5, fun G5 sd5 s5 R5 H5 e5 sv5 rh5 q5 => ⟨G5, sd5, R5, e14.trans e5, sv5, rh5, hlt, q5⟩⟩
  · have e : i = xs.length := by omega
    subst e
    exact .inl ⟨stop _ (Nat.le_refl _), k.nx G2 sd2 s2 R2 H2 (e1.trans e2) sv2 rh2 (fin sd2 R2 p2)⟩
end

/-! ### sources -/
/-- the items of a sequence as it may be read -/
def seqOf (R : Rs) : D → Option (List D)
  | .tup xs => some xs
  | .lst xs => some xs
  | .rls xs => some xs
  | .ref l => match R l with
    | some (.lst xs) => some xs
    | _ => none
  | _ => none
/-- a list or tuple that the loop leaves as it is -/
def dISeq (te : DTE) : DTI := fun s R Kd => te s R fun d R1 => ∃ xs, seqOf R1 d = some xs ∧ Kd xs (fun R' => seqOf R' d = some xs) R1
/-- one that never changes -/
def dITup (te : DTE) : DTI := fun s R Kd => te s R fun d R1 => ∃ xs, d = .tup xs ∧ Kd xs (fun _ => True) R1
def dILst (te : DTE) : DTI := fun s R Kd => te s R fun d R1 => ∃ xs, (d = .lst xs ∧ Kd xs (fun _ => True) R1) ∨ (∃ l, d = .ref l ∧ R1 l = some (.lst xs) ∧ Kd xs (fun R' => R' l = some (.lst xs)) R1)
def dIRng1 (te : DTE) : DTI := fun s R Kd => te s R fun d R1 => ∃ n : Nat, d = .int n ∧ n < 2 ^ 62 ∧ Kd ((List.range n).map fun i => D.int (i : Nat)) (fun _ => True) R1
def dIRng2 (te tb : DTE) : DTI := fun s R Kd => te s R fun d R1 => tb s R1 fun d2 R2 => ∃ i j : Int, d = .int i ∧ d2 = .int j ∧ -(2 ^ 62) ≤ i ∧ i < 2 ^ 62 ∧ -(2 ^ 62) ≤ j ∧ j < 2 ^ 62 ∧ Kd ((List.range (j - i).toNat).map fun k => D.int (i + (k : Nat))) (fun _ => True) R2
def dIStr (te : DTE) : DTI := fun s R Kd => te s R fun d R1 => ∃ x : Str, d = .str x ∧ Kd (x.cps.toList.map fun c => D.str ⟨#[c]⟩) (fun _ => True) R1
section
variable {X : CxF} {tg e a b : Expr} {te ta tb : DTE} {pos p : Pos}
theorem sim_list {K : KF} {G : Hp} {l : Addr} {xs : List D} {ok : Rs → Prop} (h : ∀ G' R H, Same G G' → RepH K G' R H → ok R → ∃ vs, SqL K H l vs ∧ DVs K G' xs vs) : Sim K G (Itl K l) xs ok := by
  intro G' R H e rh hok
  obtain ⟨vs, hl, dv⟩ := h G' R H e rh hok
  refine ⟨fun i d hd => ?_, fun i hi => ⟨vs, hl, by rw [← dv.length]; exact hi⟩⟩
  obtain ⟨v, hv, dv'⟩ := dv.get hd
  refine ⟨⟨vs, v, hl, hv⟩, fun x H' y => ?_⟩
  obtain ⟨rfl, y⟩ := y
  have := y vs hl
  rw [hv] at this; cases this
  exact ⟨G', Stp.refl _ _ _, rh, dv'⟩
theorem sim_tup {K : KF} {G : Hp} {l : Addr} {xs : List D} {ok : Rs → Prop} (h : ∀ G' R H, Same G G' → RepH K G' R H → ok R → ∃ vs, SqT K H l vs ∧ DVs K G' xs vs) : Sim K G (Itt K l) xs ok := by
  intro G' R H e rh hok
  obtain ⟨vs, hl, dv⟩ := h G' R H e rh hok
  refine ⟨fun i d hd => ?_, fun i hi => ⟨vs, hl, by rw [← dv.length]; exact hi⟩⟩
  obtain ⟨v, hv, dv'⟩ := dv.get hd
  refine ⟨⟨vs, v, hl, hv⟩, fun x H' y => ?_⟩
  obtain ⟨rfl, y⟩ := y
  have := y vs hl
  rw [hv] at this; cases this
  exact ⟨G', Stp.refl _ _ _, rh, dv'⟩
theorem di_list (h : DE X e te) : DI X tg e (dILst te) := by
  obtain ⟨t1, a1, a2⟩ := h
  refine ⟨_, pi_list a1, fun G sd s R H Kd Rr sv rh q k => a2 G sd s R H _ _ sv rh q fun G1 R1 H1 d v e1 rh1 dv1 q1 => ?_⟩
  obtain ⟨xs, q1⟩ := q1
  rcases q1 with ⟨rfl, q2⟩ | ⟨l, rfl, hl, q2⟩
  · cases dv1 with
    | lst h1 h2 => exact ⟨_, rfl, ⟨_, .inl (.inl (rh1.g _ _ h1))⟩, k G1 R1 H1 _ _ _ e1 rh1 (sim_list fun G' R' H' e' rh' _ => ⟨_, .inl (.inl (rh'.g _ _ (e' _ _ h1))), h2.mono e'⟩) q2⟩
  · cases dv1
    obtain ⟨vs, h1, h2⟩ := rh1.lst hl
    exact ⟨_, rfl, ⟨_, .inl (.inl h1)⟩, k G1 R1 H1 _ _ _ e1 rh1 (sim_list fun G' R' H' e' rh' hok => let ⟨vs, p1, p2⟩ := rh'.lst hok; ⟨vs, .inl (.inl p1), p2⟩) q2⟩
theorem di_tup (h : DE X e te) : DI X tg e (dITup te) := by
  obtain ⟨t1, a1, a2⟩ := h
  refine ⟨_, pi_tup a1, fun G sd s R H Kd Rr sv rh q k => a2 G sd s R H _ _ sv rh q fun G1 R1 H1 d v e1 rh1 dv1 q1 => ?_⟩
  obtain ⟨xs, rfl, q2⟩ := q1
  cases dv1 with
  | tup h1 h2 => exact ⟨_, rfl, ⟨_, SqT.same rh1.g h1⟩, k G1 R1 H1 _ _ _ e1 rh1 (sim_tup fun G' R' H' e' rh' _ => ⟨_, SqT.same (e'.trans rh'.g) h1, h2.mono e'⟩) q2⟩
theorem sim_rng {K : KF} {G : Hp} {lo : Int} {n : Nat} : Sim K G (Itr lo n) ((List.range n).map fun i => D.int (lo + (i : Nat))) (fun _ => True) := by
  intro G' R H e rh _
  refine ⟨fun i d hd => ?_, fun i hi => ?_⟩
  rotate_left
  · show n ≤ i
    simpa using hi
  rw [List.getElem?_map] at hd
  by_cases hi : i < n
  · rw [List.getElem?_range hi] at hd
    cases hd
    refine ⟨hi, fun x H' y => ?_⟩
    obtain ⟨rfl, rfl⟩ := y
    exact ⟨G', Stp.refl _ _ _, rh, .int _⟩
  · rw [List.getElem?_eq_none (by simpa using hi)] at hd; cases hd
theorem di_range1 (hg : Gl X "range") (hm : X.mg "range" = none) (h : DE X a ta) (hst : starEach [a] X.env = (false, eval a X.env) :: starEach [] X.env := by rfl) : DI X tg (.Call (.Name "range" p) [a] [] pos) (dIRng1 ta) := by
  obtain ⟨t1, a1, a2⟩ := h
  refine ⟨_, pi_range1 hg hm (pa_cons a1 pa_nil hst) hst, fun G sd s R H Kd Rr sv rh q k => a2 G sd s R H _ _ sv rh q fun G1 R1 H1 d v e1 rh1 dv1 q1 => ?_⟩
  obtain ⟨n, rfl, hn, q2⟩ := q1
  cases dv1
  refine ⟨n, rfl, by omega, by omega, ?_⟩
  refine k G1 R1 H1 (Itr 0 (n : Int).toNat) _ _ e1 rh1 ?_ q2
  have := sim_rng (K := X.K) (G := G1) (lo := 0) (n := n)
  simp only [Int.zero_add] at this
  exact this
theorem di_str (h : DE X e te) : DI X tg e (dIStr te) := by
  obtain ⟨t1, a1, a2⟩ := h
  refine ⟨_, pi_str a1, fun G sd s R H Kd Rr sv rh q k => a2 G sd s R H _ _ sv rh q fun G1 R1 H1 d v e1 rh1 dv1 q1 => ?_⟩
  obtain ⟨x, rfl, q2⟩ := q1
  cases dv1
  refine ⟨x, rfl, k G1 R1 H1 _ _ _ e1 rh1 ?_ q2⟩
  intro G' R H e rh _
  refine ⟨fun i d hd => ?_, fun i hi => ?_⟩
  · rw [List.getElem?_map] at hd
    cases q : x.cps.toList[i]? with
    | none => rw [q] at hd; cases hd
    | some c =>
      rw [q] at hd; cases hd
      have q' : x.cps[i]? = some c := by simpa using q
      have hi : i < x.cps.size := (Array.getElem?_eq_some_iff.mp q').1
      refine ⟨hi, fun y H' z => ?_⟩
      obtain ⟨rfl, c', q2, rfl⟩ := z
      rw [q'] at q2; cases q2
      exact ⟨G', Stp.refl _ _ _, rh, .str _⟩
  · show x.cps.size ≤ i
    simpa using hi
end

/-! ### comprehensions -/
def dwipe (s : DSt) : List Nat → DSt
  | [] => s
  | v :: vs => (dwipe s vs).set v none
theorem SV.wipe {K : PySem.W.Frag} {G : Hp} {sd : DSt} {s : L2.St} (h : SV K G sd s) : ∀ vs : List Nat, SV K G (dwipe sd vs) (wipe s vs)
  | [] => h
  | v :: vs => (SV.wipe h vs).forget v
theorem wipe_set_out {s : L2.St} {i : Nat} {x : Option V} : ∀ {vs : List Nat}, i ∉ vs → wipe (s.set i x) vs = (wipe s vs).set i x
  | [], _ => rfl
  | v :: vs, h => by
    simp only [List.mem_cons, not_or] at h
    unfold wipe
    rw [wipe_set_out h.2, List.set_comm _ _ (fun e => h.1 (by omega))]
theorem wipe_set {s : L2.St} {i : Nat} {x : Option V} : ∀ {vs : List Nat}, i ∈ vs → wipe (s.set i x) vs = wipe s vs
  | [], h => by simp at h
  | v :: vs, h => by
    unfold wipe
    by_cases hi : i ∈ vs
    · rw [wipe_set hi]
    · have e : i = v := by simpa [hi] using h
      subst e
      rw [wipe_set_out hi, List.set_set]
/-- a target that stores slots of vs alone -/
def LGw (K : KF) (vs : List Nat) (g : TG) (gd : DTG) : Prop := ∀ G sd s R H d v Qd Q, SV K G sd s → RepH K G R H → DV K G d v → gd d sd R Qd → CBS K G R H Qd (fun s' H' => wipe s' vs = wipe s vs → Q s' H') → g v s H Q
def LGsw (K : KF) (vs : List Nat) (g : TGs) (gd : DTGs) : Prop := ∀ G sd s R H ds xs Qd Q, SV K G sd s → RepH K G R H → DVs K G ds xs → gd ds sd R Qd → CBS K G R H Qd (fun s' H' => wipe s' vs = wipe s vs → Q s' H') → g xs s H Q
def DGw (X : CxF) (vs : List Nat) (tg : Expr) (g : DTG) : Prop := ∃ t, PG X tg t ∧ LGw X.K vs t g
def DGsw (X : CxF) (vs : List Nat) (tg : List Expr) (g : DTGs) : Prop := ∃ t, PGs X tg t ∧ LGsw X.K vs t g
section
variable {X : CxF} {e : Expr} {es : List Expr} {pos : Pos} {vs : List Nat}
theorem dgw_name {i : Nat} {x : Str} (hN : X.N.Nodup) (hi : X.N[i]? = some x) (hx : Loc X.env.scope x) (hv : i ∈ vs := by simp) (hf : X.fn x = true ∨ X.env.scope.names.lookup x = some .local := by first | exact .inl rfl | exact .inr rfl | assumption) : DGw X vs (.Name x pos) (dgName i) :=
  ⟨_, pg_name hN hi hx hf, fun G sd s R H d v Qd Q sv rh dv q k => k G _ _ R H (Stp.refl G R H) (sv.set i dv) rh q (wipe_set hv)⟩
theorem dgsw_nil : DGsw X vs [] dgNil := ⟨_, pgs_nil, fun G sd s R H ds xs Qd Q sv rh dv q k => by
  obtain ⟨rfl, q⟩ := q
  cases dv
  exact ⟨rfl, k G _ _ R H (Stp.refl G R H) sv rh q rfl⟩⟩
theorem dgsw_cons {t : DTG} {u : DTGs} (h : DGw X vs e t) (r : DGsw X vs es u) (hs : (assignEach (e :: es) X.env).map (·.2) = assign e X.env :: (assignEach es X.env).map (·.2) := by rfl) : DGsw X vs (e :: es) (dgCons t u) := by
  obtain ⟨t1, a1, a2⟩ := h; obtain ⟨t2, b1, b2⟩ := r
  refine ⟨_, pgs_cons a1 b1 hs, fun G sd s R H ds xs Qd Q sv rh dv q k => ?_⟩
  obtain ⟨d, r, rfl, q⟩ := q
  cases dv with
  | cons x y => exact ⟨_, _, rfl, a2 G sd s R H _ _ _ _ sv rh x q fun G1 sd1 s1 R1 H1 e1 sv1 rh1 q1 w1 => b2 G1 sd1 s1 R1 H1 _ _ _ _ sv1 rh1 (y.st e1) q1 fun G2 sd2 s2 R2 H2 e2 sv2 rh2 q2 w2 => k G2 sd2 s2 R2 H2 (e1.trans e2) sv2 rh2 q2 (w2.trans w1)⟩
theorem dgw_tup {x1} {n : Nat} {t : DTGs} (hc : X.calm = true) (h : DGsw X vs es t) (hn : (assignEach es X.env).length = n := by rfl) (hst : (assignEach es X.env).findIdx? (·.1) = none := by rfl) : DGw X vs (.Tuple es x1 pos) (dgTup n t) := by
  obtain ⟨t1, a1, a2⟩ := h
  subst hn
  refine ⟨_, pg_tup hc a1 rfl hst, fun G sd s R H d v Qd Q sv rh dv q k => ?_⟩
  obtain ⟨ds, rfl, hl, q⟩ := q
  cases dv with
  | tup h1 h2 => exact ⟨_, _, rfl, SqT.same rh.g h1, by rw [← h2.length]; exact hl, a2 G sd s R H _ _ _ _ sv rh h2 q k⟩
end
def DTs (X : CxF) (ifs : List Expr) (t : DTT) : Prop := ∃ te, PTs X ifs te ∧ LT X.K te t
def dYes : DTT := fun _ R Q => Q true R
theorem dts_nil {X : CxF} : DTs X [] dYes := ⟨_, pts_nil, fun G sd s R H Qd Q sv rh q k => k G R H true (Stp.refl G R H) rh q⟩
/-- the turns of a comprehension -/
def dLcT (wd : DTI) (g : DTG) (tt : DTT) (te : DTE) (vs : List Nat) (s : DSt) (R : Rs) (Q : List D → Rs → Prop) : Prop := wd s R fun xs ok R1 => xs.length ≤ sizeLine ∧ ∃ Pv : Nat → List D → Rs → Prop, Pv 0 [] R1 ∧ (∀ i acc R, i ≤ xs.length → Pv i acc R → ok R) ∧
  (∀ (i : Nat) x acc R, xs[i]? = some x → acc.length ≤ i → Pv i acc R → g x (dwipe s vs) R fun s2 R2 => tt s2 R2 fun b R3 => if b = true then te s2 R3 fun y R4 => Pv (i + 1) (acc ++ [y]) R4 else Pv (i + 1) acc R3) ∧
  ∀ acc R, acc.length ≤ xs.length → Pv xs.length acc R → Q acc R
/-- its list never changes -/
def dLcF (wd : DTI) (g : DTG) (tt : DTT) (te : DTE) (vs : List Nat) : DTE := fun s R Q => dLcT wd g tt te vs s R fun acc R' => Q (.lst acc) R'
/-- its list may change -/
def dLc (wd : DTI) (g : DTG) (tt : DTT) (te : DTE) (vs : List Nat) : DTE := fun s R Q => dLcT wd g tt te vs s R fun acc R' => ∀ p, R' p = none → Q (.ref p) (put R' p (.lst acc))
section
variable {X : CxF} {elt tg iter : Expr} {ifs : List Expr} {scope : Scope} {own : List (Str × Nat)} {pos : Pos} {wd : DTI} {g : DTG} {tt : DTT} {te : DTE}
/-- the list stands hidden at its place -/
def Hid (G : Hp) (R : Rs) (H : Hp) (p : Addr) (o : HO) : Prop := H p = some o ∧ R p = none ∧ G p = none
theorem Hid.st {G G' : Hp} {R R' : Rs} {H H' : Hp} {p : Addr} {o : HO} (h : Hid G R H p o) (e : Stp G R H G' R' H') (n : NoTab o := by intro ps z; cases z) : Hid G' R' H' p o := e.f p o h.1 n h.2.1 h.2.2
theorem RepH.hide {K : KF} {G : Hp} {R : Rs} {H : Hp} (h : RepH K G R H) {p : Addr} {o : HO} (hr : R p = none) (hg : G p = none) (φ : K.Φ.p G R (upd H p o)) (b : K.F.B.p G R (upd H p o)) : RepH K G R (upd H p o) :=
  ⟨fun b u q => by rw [upd_ne (ne_of_none q hg)]; exact h.g b u q, fun a ro q => by
    obtain ⟨h1, u, h2, h3⟩ := h.r a ro q
    have hb : a ≠ p := by intro z; subst z; rw [hr] at q; cases q
    exact ⟨h1, u, by rw [upd_ne hb]; exact h2, h3⟩, φ, b⟩
/-- the step where a hidden thing at p is written -/
theorem Stp.wr {G0 G : Hp} {R0 R : Rs} {H0 H : Hp} {p : Addr} {o : HO} (e : Stp G0 R0 H0 G R H) (h0 : H0 p = none) : Stp G0 R0 H0 G R (upd H p o) := ⟨e.g, fun a u q1 n q2 q3 => by
  have hb : a ≠ p := ne_of_none q1 h0
  rw [upd_ne hb]
  exact e.f a u q1 n q2 q3, fun a q z h => by
  have ⟨_, _, ps0, h3, _⟩ := h
  have hb : a ≠ p := ne_of_none h3 h0
  obtain ⟨z1, z2, ps, z3, z4⟩ := e.t a q z h
  exact ⟨z1, z2, ps, by rw [upd_ne hb]; exact z3, z4⟩⟩
theorem lcT_core {K : KF} {vs : List Nat} {wi : TI} {g0 : TG} {tt0 : TT} {te0 : TE} (hi : LI K wi wd) (hg : LGw K vs g0 g) (ht : LT K tt0 tt) (he : LE K te0 te) {G : Hp} {sd : DSt} {s : L2.St} {R : Rs} {H : Hp} {Qd : List D → Rs → Prop} {Q : VK}
    (sv : SV K G sd s) (rh : RepH K G R H) (q : dLcT wd g tt te vs sd R Qd)
    (k : ∀ G1 R1 H1 G' R' H' p acc xs, Stp G R H G1 R1 H1 → H1 p = none → Stp G1 R1 H1 G' R' H' → RepH K G' R' H' → Hid G' R' H' p (.lst xs) → DVs K G' acc xs → Qd acc R' → Q (.ref p) H') : tLc wi g0 tt0 te0 vs s H Q := by
  refine hi G sd s R H _ _ sv rh q fun G1 R1 H1 J xs ok e1 rh1 sim q1 => fun p hp => ?_
  obtain ⟨hz, Pv, p0, pok, step, fin⟩ := q1
  have r1p := rh1.free hp
  have g1p := rh1.gfree hp
  have sv1 := sv.st e1
  refine ⟨fun i m H2 => ∃ G2 R2 acc ys, Stp G1 R1 H1 G2 R2 H2 ∧ RepH K G2 R2 H2 ∧ Hid G2 R2 H2 p (.lst ys) ∧ DVs K G2 acc ys ∧ acc.length ≤ i ∧ i ≤ xs.length ∧ m = xs.length - i ∧ Pv i acc R2,
    ⟨_, G1, R1, [], [], (Stp.refl _ _ _).wr hp, rh1.hide r1p g1p (K.Φ.st ((Stp.refl _ _ _).wr hp) rh1.φ) (K.F.B.st ((Stp.refl _ _ _).wr hp) rh1.b), ⟨upd_same, r1p, g1p⟩, .nil, Nat.le_refl _, Nat.zero_le _, rfl, p0⟩, ?_⟩
  rintro i m H2 ⟨G2, R2, acc, ys, e2, rh2, hd2, dv2, ha, hi', rfl, p2⟩
  obtain ⟨go, stop⟩ := sim G2 R2 H2 e2.g rh2 (pok i acc R2 hi' p2)
  by_cases hlt : i < xs.length
  · obtain ⟨go1, go2⟩ := go i xs[i] (List.getElem?_eq_getElem hlt)
    refine .inr ⟨go1, fun H3 => ∃ G3 R3 acc ys, Stp G1 R1 H1 G3 R3 H3 ∧ RepH K G3 R3 H3 ∧ Hid G3 R3 H3 p (.lst ys) ∧ DVs K G3 acc ys ∧ acc.length ≤ i + 1 ∧ Pv (i + 1) acc R3, ?_, fun x H' y => ?_⟩
    · rintro H3 ⟨G3, R3, acc3, ys3, e3, rh3, hd3, dv3, ha3, p3⟩
      exact ⟨xs.length - (i + 1), by omega, G3, R3, acc3, ys3, e3, rh3, hd3, dv3, ha3, hlt, rfl, p3⟩
    · obtain ⟨G3, e3, rh3, dv3⟩ := go2 x H' y
      have hd3 := hd2.st e3
      have sv3 : SV K G3 (dwipe sd vs) (wipe s vs) := ((sv1.st e2).st e3).wipe vs
      refine hg G3 _ _ R2 H' _ _ _ _ sv3 rh3 dv3 (step i xs[i] acc R2 (List.getElem?_eq_getElem hlt) ha p2) fun G4 sd4 s4 R4 H4 e4 sv4 rh4 q4 w4 => ?_
      refine ⟨w4.trans (by
        have : ∀ us : List Nat, (∀ i ∈ us, i ∈ vs) → wipe (wipe s us) vs = wipe s vs := by
          intro us
          induction us with
          | nil => intro _; rfl
          | cons u us ih =>
            intro hu
            show wipe ((wipe s us).set u none) vs = _
            rw [wipe_set (hu u (by simp)), ih fun i hi => hu i (by simp [hi])]
        exact this vs fun _ h => h), ?_⟩
      refine ht G4 sd4 s4 R4 H4 _ _ sv4 rh4 q4 fun G5 R5 H5 b e5 rh5 q5 => ?_
      cases b with
      | false =>
        have e25 := e3.trans (e4.trans e5)
        exact ⟨G5, R5, acc, ys, e2.trans e25, rh5, hd2.st e25, dv2.st e25, Nat.le_succ_of_le ha, q5⟩
      | true =>
        refine he G5 sd4 s4 R5 H5 _ _ (sv4.st e5) rh5 q5 fun G6 R6 H6 d v e6 rh6 dv6 q6 => ?_
        have e26 := e3.trans (e4.trans (e5.trans e6))
        obtain ⟨h1, h2, h3⟩ := hd2.st e26
        have dvA := dv2.st e26
        refine ⟨ys, h1, ?_, G6, R6, acc ++ [d], ys ++ [v], (e2.trans e26).wr hp, rh6.hide h2 h3 (K.Φ.st ((e2.trans e26).wr hp) rh1.φ) (K.F.B.st ((e2.trans e26).wr hp) rh1.b), ⟨upd_same, h2, h3⟩, dvA.append (.cons dv6 .nil), by simp; omega, q6⟩
        rw [← dvA.length]; omega
  · have e : i = xs.length := by omega
    subst e
    exact .inl ⟨stop _ (Nat.le_refl _), k G1 R1 H1 G2 R2 H2 p acc ys e1 hp e2 rh2 hd2 dv2 (fin acc R2 ha p2)⟩
/-- a hidden new list is told as one that never changes -/
theorem RepH.tell {K : KF} {G : Hp} {R : Rs} {H : Hp} (h : RepH K G R H) {p : Addr} {o : HO} (hd : Hid G R H p o) (φ : K.Φ.p (upd G p o) R H) (b : K.F.B.p (upd G p o) R H) : Same G (upd G p o) ∧ RepH K (upd G p o) R H := by
  have s1 : Same G (upd G p o) := fun b u q => by rw [upd_ne (ne_of_none q hd.2.2)]; exact q
  refine ⟨s1, ⟨fun b u q => ?_, fun a ro q => ?_, φ, b⟩⟩
  · by_cases hb : b = p
    · subst hb; rw [upd_same] at q; cases q; exact hd.1
    · rw [upd_ne hb] at q; exact h.g b u q
  · obtain ⟨h1, u, h2, h3⟩ := h.r a ro q
    have hb : a ≠ p := by intro z; subst z; rw [hd.2.1] at q; cases q
    exact ⟨by rw [upd_ne hb]; exact h1, u, h2, h3.mono s1⟩
theorem RepH.tellR {K : KF} {G : Hp} {R : Rs} {H : Hp} (h : RepH K G R H) {p : Addr} {o : HO} {ro : RO} (hd : Hid G R H p o) (k : ROk K G ro o) (φ : K.Φ.p G (put R p ro) H) (b : K.F.B.p G (put R p ro) H) : RepH K G (put R p ro) H := by
  refine ⟨h.g, fun a r q => ?_, φ, b⟩
  by_cases hb : a = p
  · subst hb; rw [put_same] at q; cases q; exact ⟨hd.2.2, o, hd.1, k⟩
  · rw [put_ne hb] at q; exact h.r a r q
theorem Stp.tellG {G0 G : Hp} {R0 R : Rs} {H0 H : Hp} {p : Addr} {o : HO} (e : Stp G0 R0 H0 G R H) (h0 : H0 p = none) (hg : G p = none) : Stp G0 R0 H0 (upd G p o) R H := by
  have s1 : Same G (upd G p o) := fun b u q => by rw [upd_ne (ne_of_none q hg)]; exact q
  exact ⟨e.g.trans s1, fun a u q1 n q2 q3 => by
    have hb : a ≠ p := ne_of_none q1 h0
    rw [upd_ne hb]
    exact e.f a u q1 n q2 q3, fun a q z h => by
    have ⟨_, _, ps0, h3, _⟩ := h
    have hb : a ≠ p := ne_of_none h3 h0
    obtain ⟨z1, z2, ps, z3, z4, z5⟩ := e.t a q z h
    exact ⟨by rw [upd_ne hb]; exact z1, z2, ps, z3, z4, fun pos cv hc => let ⟨c, e1, e2⟩ := z5 pos cv hc; ⟨c, e1, s1 _ _ e2⟩⟩⟩
theorem Stp.tellR {G0 G : Hp} {R0 R : Rs} {H0 H : Hp} {p : Addr} {ro : RO} (e : Stp G0 R0 H0 G R H) (h0 : H0 p = none) : Stp G0 R0 H0 G (put R p ro) H :=
  ⟨e.g, fun a u q1 n q2 q3 => by
    have hb : a ≠ p := ne_of_none q1 h0
    rw [put_ne hb]
    exact e.f a u q1 n q2 q3, fun a q z h => by
    have ⟨_, _, ps0, h3, _⟩ := h
    have hb : a ≠ p := ne_of_none h3 h0
    obtain ⟨z1, z2, ps, z3, z4, z5⟩ := e.t a q z h
    exact ⟨z1, by rw [put_ne hb]; exact z2, ps, z3, z4, z5⟩⟩
theorem LE.lcF {K : KF} {vs : List Nat} {wi : TI} {g0 : TG} {tt0 : TT} {te0 : TE} (hi : LI K wi wd) (hg : LGw K vs g0 g) (ht : LT K tt0 tt) (he : LE K te0 te) : LE K (tLc wi g0 tt0 te0 vs) (dLcF wd g tt te vs) := fun G sd s R H Qd Q sv rh q k =>
  lcT_core hi hg ht he sv rh q fun G1 R1 H1 G' R' H' p acc xs e1 hp e2 rh2 hd dv q2 => by
    obtain ⟨s1, rh3⟩ := rh2.tell hd (K.Φ.st (e1.trans (e2.tellG hp hd.2.2)) rh.φ) (K.F.B.st (e1.trans (e2.tellG hp hd.2.2)) rh.b)
    exact k _ R' H' _ _ (e1.trans (e2.tellG hp hd.2.2)) rh3 (.lst upd_same (dv.mono s1)) q2
/-- what is asked of a comprehension's parts -/
structure LcD (X : CxF) (tg iter : Expr) (ifs : List Expr) (elt : Expr) (scope : Scope) (own : List (Str × Nat)) (wd : DTI) (g : DTG) (tt : DTT) (te : DTE) : Prop where
  i : DI X tg iter wd
  ok : BlkOk X.N X.env.scope scope own
  g : ∃ g0 : TG, (∀ (s : Shared) (H : Hp) (C : Addr) (cl : List (Str × Addr)) (fp : List Addr), PG (X.blk s H scope (compEnvC scope cl C X.env) fp) tg g0) ∧ LGw X.K (own.map (·.2)) g0 g
  t : ∃ t0 : TT, (∀ (s : Shared) (H : Hp) (C : Addr) (cl : List (Str × Addr)) (fp : List Addr), PTs (X.blk s H scope (compEnvC scope cl C X.env) fp) ifs t0) ∧ LT X.K t0 tt
  e : ∃ e0 : TE, (∀ (s : Shared) (H : Hp) (C : Addr) (cl : List (Str × Addr)) (fp : List Addr), PE (X.blk s H scope (compEnvC scope cl C X.env) fp) elt e0) ∧ LE X.K e0 te
def cE (K : KF) (td : DTE) : TE := fun s H Q => ∃ G sd R Qd, SV K G sd s ∧ RepH K G R H ∧ td sd R Qd ∧ CB K G R H Qd Q
def cT (K : KF) (td : DTT) : TT := fun s H Q => ∃ G sd R Qd, SV K G sd s ∧ RepH K G R H ∧ td sd R Qd ∧ CBT K G R H Qd Q
def cGw (K : KF) (vs : List Nat) (gd : DTG) : TG := fun v s H Q => ∃ G sd R d Qd, SV K G sd s ∧ RepH K G R H ∧ DV K G d v ∧ gd d sd R Qd ∧ CBS K G R H Qd (fun s' H' => wipe s' vs = wipe s vs → Q s' H')
theorem LE.c {K : KF} {td : DTE} : LE K (cE K td) td := fun G sd s R H Qd Q sv rh q k => ⟨G, sd, R, Qd, sv, rh, q, k⟩
theorem LT.c {K : KF} {td : DTT} : LT K (cT K td) td := fun G sd s R H Qd Q sv rh q k => ⟨G, sd, R, Qd, sv, rh, q, k⟩
theorem LGw.c {K : KF} {vs : List Nat} {gd : DTG} : LGw K vs (cGw K vs gd) gd := fun G sd s R H d v Qd Q sv rh dv q k => ⟨G, sd, R, d, Qd, sv, rh, dv, q, k⟩
theorem DE.pe {e : Expr} {td : DTE} (h : DE X e td) : PE X e (cE X.K td) := by
  obtain ⟨t1, a1, a2⟩ := h
  exact ⟨fun pins s σ H Q I ⟨G, sd, R, Qd, sv, rh, q, k⟩ => a1.run pins s σ H Q I (a2 G sd σ R H Qd Q sv rh q k)⟩
theorem DT.pt {e : Expr} {td : DTT} (h : DT X e td) : PT X e (cT X.K td) := by
  obtain ⟨t1, a1, a2⟩ := h
  exact ⟨fun pins s σ H Q I ⟨G, sd, R, Qd, sv, rh, q, k⟩ => a1.run pins s σ H Q I (a2 G sd σ R H Qd Q sv rh q k)⟩
theorem DTs.pts {es : List Expr} {td : DTT} (h : DTs X es td) : PTs X es (cT X.K td) := by
  obtain ⟨t1, a1, a2⟩ := h
  exact ⟨fun pins s σ H Q I ⟨G, sd, R, Qd, sv, rh, q, k⟩ => a1.run pins s σ H Q I (a2 G sd σ R H Qd Q sv rh q k)⟩
theorem DGw.pg {e : Expr} {vs : List Nat} {gd : DTG} (h : DGw X vs e gd) : PG X e (cGw X.K vs gd) := by
  obtain ⟨t1, a1, a2⟩ := h
  exact ⟨fun pins s σ H v u Q I r ⟨G, sd, R, d, Qd, sv, rh, dv, q, k⟩ => a1.run pins s σ H v u Q I r (a2 G sd σ R H d v Qd Q sv rh dv q k)⟩
theorem lcd (hi : DI X tg iter wd) (ok : BlkOk X.N X.env.scope scope own) (hg : ∀ (s : Shared) (H : Hp) (C : Addr) (cl : List (Str × Addr)) (fp : List Addr), DGw (X.blk s H scope (compEnvC scope cl C X.env) fp) (own.map (·.2)) tg g)
    (ht : ∀ (s : Shared) (H : Hp) (C : Addr) (cl : List (Str × Addr)) (fp : List Addr), DTs (X.blk s H scope (compEnvC scope cl C X.env) fp) ifs tt)
    (he : ∀ (s : Shared) (H : Hp) (C : Addr) (cl : List (Str × Addr)) (fp : List Addr), DE (X.blk s H scope (compEnvC scope cl C X.env) fp) elt te) : LcD X tg iter ifs elt scope own wd g tt te :=
  ⟨hi, ok, ⟨_, fun s H C cl fp => (hg s H C cl fp).pg, LGw.c⟩, ⟨_, fun s H C cl fp => (ht s H C cl fp).pts, LT.c⟩, ⟨_, fun s H C cl fp => (he s H C cl fp).pe, LE.c⟩⟩
theorem de_lcF (hc : X.calm = true) (hN : X.N.Nodup) (h : LcD X tg iter ifs elt scope own wd g tt te) (hs : ∀ x, foldedSetIterable iter X.env x = pure x := by intro _; rfl) : DE X (.ListComp elt [⟨tg, iter, ifs, 0⟩] scope pos) (dLcF wd g tt te (own.map (·.2))) := by
  obtain ⟨⟨wi, i1, i2⟩, ok, ⟨g0, ga, gb⟩, ⟨t0, ta, tb⟩, ⟨e0, ea, eb⟩⟩ := h
  exact ⟨_, pe_lc hc hN i1 ok ga ta ea hs, LE.lcF i2 gb tb eb⟩
theorem LS.asg {K : KF} {te0 : TE} {te : DTE} (i : Nat) (h : LE K te0 te) : LS K (tAsg te0 (gName i)) (dAsg te (dgName i)) := fun G sd s R H Ed E sv rh q k =>
  h G sd s R H _ _ sv rh q fun G1 R1 H1 d v e1 rh1 dv1 q1 => k.nx G1 _ _ R1 H1 e1 ((sv.st e1).set i dv1) rh1 q1
/-- name = [..], on one line -/
theorem ds_setLcF {i : Nat} {y : Str} {py spos : Pos} (hc : X.calm = true) (hN : X.N.Nodup) (hy : X.N[i]? = some y) (hyl : X.env.scope.names.lookup y = some .local) (hsw : swapsWith (.ListComp elt [⟨tg, iter, ifs, 0⟩] scope pos) (some (.Name y py)) spos.line X.env = pure true)
    (h : LcD X tg iter ifs elt scope own wd g tt te) (hs : ∀ x, foldedSetIterable iter X.env x = pure x := by intro _; rfl) :
    DS X (.Assign [.Name y py] (.ListComp elt [⟨tg, iter, ifs, 0⟩] scope pos) spos) (dAsg (dLcF wd g tt te (own.map (·.2))) (dgName i)) := by
  obtain ⟨⟨wi, i1, i2⟩, ok, ⟨g0, ga, gb⟩, ⟨t0, ta, tb⟩, ⟨e0, ea, eb⟩⟩ := h
  exact ⟨_, ps_setLc hc hN hy hyl hsw i1 ok ga ta ea hs, LS.asg i (LE.lcF i2 gb tb eb)⟩
end
end DL
end
section
set_option Elab.async false
set_option maxRecDepth 100000
set_option linter.all false
set_option autoImplicit false
/-! DLG: a def's promise where no repr is under way (guards empty) -/
namespace DL
open PySem PySem.Spec PyProof.Rows L2
variable [TabCtx]

structure FnG (P : Program) (w : World) (K : PySem.W.Frag) (mg : Str → Option Value) (base : Heap) (CX : CXT) (k : Nat) (f : Addr) (fd : FuncData) (ps : List Str) (sp : Sp) : Prop where
  len : ∀ vs H Q E, sp vs H Q E → vs.length = ps.length
  go : ∀ (A : Around), A.guards = some [] → Room k A → ∀ (outer : List Env) (s : Shared) (H : Hp), Env0 P w K mg base A outer s H →
    ∀ (args : Args) (us : List Value) (vs : List V) (Q : VK) (E : XK), BindsTo s fd args (ps.zip us) → Vals vs us → sp vs H Q E → codeAny (model P w) A (.call (.ref f) args) (CR CX outer P w H s Q E) s
theorem FnG.mono {P : Program} {w : World} {K : PySem.W.Frag} {mg : Str → Option Value} {base : Heap} {CX : CXT} {j k : Nat} {f : Addr} {fd : FuncData} {ps : List Str} {sp : Sp} (F : FnG P w K mg base CX j f fd ps sp) (h : j ≤ k) : FnG P w K mg base CX k f fd ps sp :=
  ⟨F.len, fun A g r => F.go A g (r.mono h)⟩
theorem FnG.of {P : Program} {w : World} {K : PySem.W.Frag} {mg : Str → Option Value} {base : Heap} {CX : CXT} {k : Nat} {f : Addr} {fd : FuncData} {ps : List Str} {sp : Sp} (F : FnOk P w K mg base CX k f fd ps sp) : FnG P w K mg base CX k f fd ps sp :=
  ⟨F.len, fun A _ r outer s H e args us vs Q E => F.run A outer s H args us vs Q E r e⟩

section
variable {X : Cx} {CX : CXT} {k : Nat} {f C : Addr} {fd : FuncData} {ps : List Str} {sp : Sp} {dvs : List V} {ds : List Value} {E : XK} {x m : Str} {p pos apos : Pos} {e o : Expr} {es : List Expr} {ta : TE} {t : TA}
theorem goG {pins : List (Addr × Obj)} {σ : L2.St} {H : Hp} {s : Shared} {Q : VK} {us : List Value} {vs : List V} (F : FnG X.prog X.w X.K X.mg X.base CX k f fd ps sp) (hgd : X.A.guards = some []) (room : Room k X.A) (bd : Binds X.K fd ps ds) (dd : Vals dvs ds) (ps' : Passes CX X E)
    (I : Inv X pins σ H s) (rv : Vals vs us) (q : sp (vs ++ dvs) H Q E) : wpAny (model X.prog X.w) X.A (call (.ref f) us) (EP X pins σ Q) X.xe s := by
  have all : Vals (vs ++ dvs) (us ++ ds) := rv.append dd
  have n : (us ++ ds).length = ps.length := all.length.symm.trans (F.len _ _ _ _ q)
  apply wpAny_call
  apply codeAny_mono (F.go X.A hgd room X.stack s H I.env0 ⟨us, []⟩ (us ++ ds) (vs ++ dvs) Q E (bd s us I.kIn n) all q)
  rintro (er | fl) s' z
  · exact ps' pins σ H s er s' I z
  · cases fl <;> first | exact False.elim z | exact I.after z
theorem pe_callG (F : FnG X.prog X.w X.K X.mg X.base CX k f fd ps sp) (hgd : X.A.guards = some []) (room : Room k X.A) (gl : Gl X x) (hm : X.mg x = some (.ref f)) (kp : PySem.W.keepIn X.K (.ref f) = true) (bd : Binds X.K fd ps ds) (dd : Vals dvs ds) (ps' : Passes CX X E)
    (ha : PA X (e :: es) t) (hdb : (x == ("__debug__" : Str)) = false := by decide) (he : starEach (e :: es) X.env = (false, eval e X.env) :: starEach es X.env := by rfl) (hpl : (backTo pos (starEach es X.env)).any (·.1) = false := by rfl) :
    PE X (.Call (.Name x p) (e :: es) [] pos) (tCall sp dvs E t) :=
  ⟨fun pins s σ H Q I h => wpAny_Call_Name_kw (ld_glob I gl hm (PySem.W.callWith_K (h₀ := X.base) I.ok.mod.kin kp
    (thn (ha.run pos pins s σ H _ I h) fun us s1 ⟨vs, H1, I1, r, q⟩ => ⟨I1.kIn, goG F hgd room bd dd ps' I1 r q⟩) he hpl) hdb)⟩
end

section
variable {CX : CXT} {P : Program} {w : World} {K : PySem.W.Frag} {mg : Str → Option Value} {base : Heap}
theorem fnG_of {k : Nat} {f : Addr} {name qual : Str} {params : Arguments} {body : List Stmt} {scope : Scope} {dV kV doc pm cdv ct oc : Value} {an od : Option Addr}
    {osl : Array (Option Value)} {N ps : List Str} {sp : Sp} (lk : K.lookup f = some ⟨oc, od, .func (PySem.W.fnOf name qual params body scope dV kV doc pm an cdv ct), osl⟩) (hcd : PySem.W.codeIn K cdv qual = true) (S : FnScope N ps scope)
    (len : ∀ vs H Q E, sp vs H Q E → vs.length = ps.length)
    (hbody : ∀ (A : Around), A.guards = some [] → ∀ (outer : List Env) (s : Shared) (H : Hp) (vs : List V) (Q : VK) (E : XK), Room k (A.deeper (envOfC qual scope s.heap.objs.size f cdv)) → sp vs H Q E →
      ∃ t, PSs (cxOf CX P w K mg base N qual scope f cdv A outer s H E) body t ∧ t { nx := fun _ H' => Q .non H', rt := Q } (L2.start N vs) H) :
    FnG P w K mg base CX (k + 1) f (PySem.W.fnOf name qual params body scope dV kV doc pm an cdv ct) ps sp where
  len := len
  go := by
    intro A gd room outer s H e0 args us vs Q E bd rv q
    have kin : K.In s.heap := e0.mod.kin.keeps fun b o z => (e0.bs b o z).1
    have nl : s.heap.NoLimit := e0.mod.nolimit.keeps fun b o z => (e0.bs b o z).1
    apply codeAny_call_function room.depth (kin _ _ lk) rfl S.co S.gen rfl (PySem.W.codeRec_of kin hcd)
    apply bd
    have kinds : ∀ y ∈ ps.zip us, scope.names.lookup y.1 = some .local ∨ (scope.names.lookup y.1 = some .cell ∧ ((cellsFrom (s.heap.objs.size + 1) scope.names []).lookup y.1).isSome = true) := by
      rintro ⟨n, v⟩ hy
      exact (S.par n (List.of_mem_zip hy).1).imp id fun z => ⟨z, PySem.W.cellsFrom_some _ _ _ (.inl z)⟩
    apply wpAny_newFunctionEnv_cells S.kind kinds
    rintro env rfl s1 ic
    refine ⟨nl.keeps ic.toInCall.keep, codeAny_func ?_⟩
    obtain ⟨t, ht, tq⟩ := hbody A gd outer s H vs Q E (room.deeper _) q
    have inv : Inv (cxOf CX P w K mg base N qual scope f cdv A outer s H E) [] (L2.start N vs) H s1 := inv_start S room.hd e0 (len _ _ _ _ q) rv ic
    have done : ∀ {σ' : L2.St} {H' : Hp} {v : V} {u : Value} {s' : Shared}, Inv (cxOf CX P w K mg base N qual scope f cdv A outer s H E) [] σ' H' s' → RelV v u → Q v H' → CE outer P w H s Q u s' := by
      intro σ' H' v u s' J r z
      exact ⟨v, H', J.os, J.bare, J.base, J.hok, r, z⟩
    apply wpAny_mono (ht.run [] s1 _ H _ inv tq)
    · rintro fl s' z
      cases fl with
      | ret u => obtain ⟨v, σ', H', J, r, z⟩ := z; exact done J r z
      | next => obtain ⟨σ', H', J, z⟩ := z; exact done (v := V.non) (u := Value.none) J rfl z
      | brk => obtain ⟨_, _, _, z⟩ := z; exact z.elim
      | cont => obtain ⟨_, _, _, z⟩ := z; exact z.elim
    · exact fun _ _ z => z
/-- a def of the text that lets nothing out -/
theorem okG {x qual : Str} {st : Stmt} {f : Addr} {fd : FuncData} {N ps : List Str} {k : Nat} {sp : Sp} (F : Fun K x qual st f fd) (S : FnScope N ps (defScope st)) (len : ∀ vs H Q E, sp vs H Q E → vs.length = ps.length)
    (hbody : ∀ (cdv : Value) (A : Around), A.guards = some [] → ∀ (outer : List Env) (s : Shared) (H : Hp) (vs : List V) (Q : VK) (E : XK), Room k (A.deeper (envOfC qual (defScope st) s.heap.objs.size f cdv)) → sp vs H Q E →
      ∃ t, PSs (cxOf CX0 P w K mg base N qual (defScope st) f cdv A outer s H E).nox (defBody st) t ∧ t { nx := fun _ H' => Q .non H', rt := Q } (L2.start N vs) H) : FnG P w K mg base CX0 (k + 1) f fd ps sp := by
  obtain ⟨oc, od, kV, doc, pm, an, cdv, ct, osl, rfl, lk, cd⟩ := F.ex
  refine fnG_of lk cd S len fun A gd outer s H vs Q E room q => ?_
  obtain ⟨t, h, z⟩ := hbody cdv A gd outer s H vs Q E room q
  exact ⟨t, h.nox, z⟩
end
end DL
end
section
set_option Elab.async false
set_option maxRecDepth 100000
set_option linter.all false
set_option autoImplicit false
/-! DLE: the end of a law's row, from a promise FnG -/
namespace DL
open PySem PySem.Spec PyProof.Rows L2
variable [TabCtx]

section
variable {P : Program} {w : World} {K : PySem.W.Frag} {mg mb : Str → Option Value} {CX : CXT} {k : Nat} {fa a : Addr} {fd : FuncData} {x : Str} {sp : Sp} {s1 : Shared} {vs : List Value} {ns : List Int}
end
end DL
end
section
set_option Elab.async false
set_option maxRecDepth 100000
set_option linter.all false
set_option autoImplicit false
/-! DL4: defs and their promises, calls -/
namespace DL
open PySem PySem.Spec PyProof.Rows L2
variable [TabCtx]

/-- an exception: its class, its fields -/
abbrev DXK := Value → List (Str × D) → Rs → Prop
def ExD (K : PySem.W.Frag) (G : Hp) (R : Rs) (H : Hp) (od : Option Addr) (fs : List (Str × D)) : Prop := match od with
  | none => fs = []
  | some d => ∃ vs : List V, H d = some (.xd ((fs.map (·.1)).zip vs)) ∧ R d = none ∧ G d = none ∧ DVs K G (fs.map (·.2)) vs
theorem ExD.st {K : PySem.W.Frag} {G G' : Hp} {R R' : Rs} {H H' : Hp} {od : Option Addr} {fs : List (Str × D)} (h : ExD K G R H od fs) (e : Stp G R H G' R' H') : ExD K G' R' H' od fs := by
  unfold ExD at *
  cases od with
  | none => exact h
  | some d =>
    obtain ⟨vs, h1, h2, h3, h4⟩ := h
    obtain ⟨q1, q2, q3⟩ := e.f d _ h1 (by intro ps z; cases z) h2 h3
    exact ⟨vs, q1, q2, q3, h4.st e⟩
def CBX (K : KF) (G : Hp) (R : Rs) (H : Hp) (Ed : DXK) (E : XK) : Prop := ∀ G' R' H' cls od fs, Stp G R H G' R' H' → RepH K G' R' H' → ExD K G' R' H' od fs → Ed cls fs R' → E cls od H'
theorem CBX.st {K : KF} {G G' : Hp} {R R' : Rs} {H H' : Hp} {Ed : DXK} {E : XK} (h : CBX K G R H Ed E) (e : Stp G R H G' R' H') : CBX K G' R' H' Ed E := fun g r h' c o f q => h g r h' c o f (e.trans q)
section
variable {K : KF} {F : KB} {Φ : Phi} {G : Hp} {R : Rs} {H : Hp}
theorem RepH.toAll (h : RepH K G R H) : RepH ⟨K.F, .all⟩ G R H := ⟨h.g, h.r, trivial, h.b⟩
theorem RepH.ofAll (h : RepH ⟨F, .all⟩ G R H) (φ : Φ.p G R H) : RepH ⟨F, Φ⟩ G R H := ⟨h.g, h.r, φ, h.b⟩
theorem CB.toAll {Qd : DK} {Q : VK} (h : CB K G R H Qd Q) (φ : K.Φ.p G R H) : CB ⟨K.F, .all⟩ G R H Qd Q := fun G' R' H' d v e rh dv q => h G' R' H' d v e (rh.ofAll (K.Φ.st e φ)) dv q
theorem CB.ofAll {Qd : DK} {Q : VK} (h : CB ⟨F, .all⟩ G R H Qd Q) : CB ⟨F, Φ⟩ G R H Qd Q := fun G' R' H' d v e rh dv q => h G' R' H' d v e rh.toAll dv q
end
abbrev DSp := List D → Rs → DK → DXK → Prop
def spOf (K : KB) (dsp : DSp) : Sp := fun vs H Q E => ∃ G ds R Qd Ed, DVs K G ds vs ∧ RepH ⟨K, .all⟩ G R H ∧ dsp ds R Qd Ed ∧ CB ⟨K, .all⟩ G R H Qd Q ∧ CBX ⟨K, .all⟩ G R H Ed E
abbrev Ed0 : DXK := fun _ _ _ => False

/-- a def's end: what it made may be forgotten; a list that it made and hands back may be told as one that never changes -/
def Fin (Qd : DK) : DK := fun d R' => (∃ R2, (∀ a ro, R2 a = some ro → R' a = some ro) ∧ Qd d R2) ∨
  (∃ p ds R2, d = .ref p ∧ R' p = some (.lst ds) ∧ (∀ a ro, R2 a = some ro → a ≠ p ∧ R' a = some ro) ∧ Qd (.lst ds) R2)
theorem fin {Qd : DK} {d : D} {R : Rs} (h : Qd d R) : Fin Qd d R := .inl ⟨R, fun _ _ q => q, h⟩
theorem finS {Qd : DK} {d : D} {R R' : Rs} (s : ∀ a ro, R a = some ro → R' a = some ro) (h : Qd d R) : Fin Qd d R' := .inl ⟨R, s, h⟩
theorem CB.fin {K : KF} {G : Hp} {R : Rs} {H : Hp} {Qd : DK} {Q : VK} (h : CB K G R H Qd Q) : CB K G R H (Fin Qd) Q := fun G' R' H' d v e rh dv q => by
  rcases q with ⟨R2, s, q⟩ | ⟨p, ds, R2, rfl, hp, s, q⟩
  · exact h G' R2 H' d v (e.drop s) (rh.sub0 s) dv q
  · cases dv
    obtain ⟨vs, h1, h2⟩ := rh.lst hp
    obtain ⟨gp, _⟩ := rh.r p _ hp
    have hr2 : R2 p = none := by
      cases z : R2 p with
      | none => rfl
      | some ro => exact absurd rfl (s p ro z).1
    have s' : ∀ a ro, R2 a = some ro → R' a = some ro := fun a ro z => (s a ro z).2
    have S2 : Stp G' R' H' (upd G' p (.lst vs)) R2 H' := .mk0 (fun b u q => by rw [upd_ne (ne_of_none q gp)]; exact q) fun a o q1 q2 q3 => by
      have hb : a ≠ p := by intro z; subst z; rw [hp] at q2; cases q2
      refine ⟨q1, ?_, by rw [upd_ne hb]; exact q3⟩
      cases z : R2 a with
      | none => rfl
      | some ro => rw [s' a ro z] at q2; cases q2
    obtain ⟨s1, rh2⟩ := (rh.sub0 s').tell (p := p) (o := .lst vs) ⟨h1, hr2, gp⟩ (K.Φ.st S2 rh.φ) (K.F.B.st S2 rh.b)
    exact h _ R2 H' _ _ (e.trans S2) rh2 (.lst upd_same (h2.mono s1)) q
def dstart (N : List Str) (ds : List D) : DSt := ds.map some ++ List.replicate (N.length - ds.length) none
theorem SV.start {K : PySem.W.Frag} {G : Hp} {N : List Str} {ds : List D} {vs : List V} (h : DVs K G ds vs) : SV K G (dstart N ds) (L2.start N vs) := by
  refine ⟨by unfold dstart L2.start; simp [h.length], fun i d hd => ?_⟩
  have hl := h.length
  unfold dstart at hd
  unfold L2.start
  by_cases hi : i < ds.length
  · rw [List.getElem?_append_left (by simpa using hi), List.getElem?_map, List.getElem?_eq_getElem hi] at hd
    cases hd
    obtain ⟨v, hv, dv⟩ := h.get (List.getElem?_eq_getElem hi)
    exact ⟨v, by rw [List.getElem?_append_left (by simp; omega), List.getElem?_map, hv]; rfl, dv⟩
  · rw [List.getElem?_append_right (by simpa using hi), List.getElem?_replicate] at hd
    split at hd <;> cases hd

section
variable {P : Program} {w : World} {K : KB} {mg : Str → Option Value} {base : Heap}
theorem spOf_len {dsp : DSp} {n : Nat} (len : ∀ ds R Q E, dsp ds R Q E → ds.length = n) : ∀ vs H Q E, spOf K dsp vs H Q E → vs.length = n := fun vs H Q E ⟨G, ds, R, Qd, Ed, dv, rh, q, _⟩ => by rw [← dv.length]; exact len _ _ _ _ q
/-- a def that lets no exception out -/
theorem okD {x qual : Str} {st : Stmt} {f : Addr} {fd : FuncData} {N ps : List Str} {k : Nat} {dsp : DSp} (F : Fun K x qual st f fd) (S : FnScope N ps (defScope st)) (len : ∀ ds R Q E, dsp ds R Q E → ds.length = ps.length)
    (hbody : ∀ (cdv : Value) (A : Around) (outer : List Env) (s : Shared) (H : Hp) (E : XK), A.guards = some [] → Room k (A.deeper (envOfC qual (defScope st) s.heap.objs.size f cdv)) →
      ∃ t, DSs ⟨(cxOf CX0 P w K mg base N qual (defScope st) f cdv A outer s H E).nox, .all, K.B⟩ (defBody st) t ∧ ∀ ds R Qd Ed, dsp ds R Qd Ed → t { nx := fun _ R' => Fin Qd .non R', rt := Fin Qd } (dstart N ds) R) : FnG P w K mg base CX0 (k + 1) f fd ps (spOf K dsp) := by
  refine okG F S (spOf_len len) fun cdv A gd outer s H vs Q E hr ⟨G, ds, R, Qd, Ed, dv, rh, q, cb, cx⟩ => ?_
  obtain ⟨t, ⟨t0, a1, a2⟩, h⟩ := hbody cdv A outer s H E gd hr
  refine ⟨t0, a1, a2 G _ _ R H _ _ (SV.start dv) rh (h ds R Qd Ed q) ⟨fun G' sd s R' H' e sv rh' q => cb.fin G' R' H' _ _ e rh' .non q, fun G' R' H' d v e rh' dv' q => cb.fin G' R' H' d v e rh' dv' q, fun _ _ _ _ _ _ _ _ q => q.elim, fun _ _ _ _ _ _ _ _ q => q.elim⟩⟩
end

/-! ### calls -/
def dCall (dsp : DSp) (Ed : DXK) (t : DTA) : DTE := fun s R Q => t s R fun ds R1 => dsp ds R1 Q Ed
section
variable {X : CxF} {CX : CXT} {k : Nat} {f C : Addr} {fd : FuncData} {ps : List Str} {dsp : DSp} {x m : Str} {p pos apos : Pos} {e o : Expr} {es : List Expr} {t : DTA}
theorem LE.call {K : KF} {t0 : TA} {Ed : DXK} {E : XK} (h : LA K t0 t) (hx : ∀ G R H, K.Φ.p G R H → CBX ⟨K.F, .all⟩ G R H Ed E) : LE K (tCall (spOf K.F dsp) [] E t0) (dCall dsp Ed t) := fun G sd s R H Qd Q sv rh q k =>
  h G sd s R H _ _ sv rh q fun G1 R1 H1 ds vs e1 rh1 dv1 q1 => by
    rw [List.append_nil]
    exact ⟨G1, ds, R1, Qd, Ed, dv1, rh1.toAll, q1, (k.st e1).toAll rh1.φ, hx _ _ _ rh1.φ⟩
theorem de_call (F : FnG X.prog X.w X.K X.mg X.base CX k f fd ps (spOf X.K.F dsp)) (hgd : X.A.guards = some []) (hr : Room k X.A) (hg : Gl X x) (hm : X.mg x = some (.ref f)) (hk : PySem.W.keepIn X.K (.ref f) = true) (hb : Binds X.K fd ps []) (hx : Passes CX X E0)
    (ha : DA X (e :: es) t) (hdb : (x == ("__debug__" : Str)) = false := by decide) (he : starEach (e :: es) X.env = (false, eval e X.env) :: starEach es X.env := by rfl) (hpl : (backTo pos (starEach es X.env)).any (·.1) = false := by rfl) :
    DE X (.Call (.Name x p) (e :: es) [] pos) (dCall dsp Ed0 t) := by
  obtain ⟨t0, a1, a2⟩ := ha
  exact ⟨_, pe_callG F hgd hr hg hm hk hb .nil hx a1 hdb he hpl, LE.call a2 fun _ _ _ _ _ _ _ _ _ _ _ _ _ q => q.elim⟩
end

/-! ### methods of built-in types -/
def TyD (T : String) (d : D) (R : Rs) : Prop := match d with
  | .str _ => T = "str"
  | .int _ => T = "int"
  | .lst _ => T = "list"
  | .rls _ => T = "list"
  | .dK _ _ => T = "dict"
  | .dT _ _ => T = "dict"
  | .ref l => (T = "list" ∧ ∃ xs, R l = some (.lst xs)) ∨ (T = "dict" ∧ ((∃ kvs, R l = some (.dK kvs)) ∨ ∃ kvs, R l = some (.dT kvs)))
  | _ => False
theorem TyD.ty {K : KF} {G : Hp} {R : Rs} {H : Hp} {T : String} {d : D} {v : V} (h : TyD T d R) (rh : RepH K G R H) (dv : DV K G d v) : tyV K T v H := by
  cases dv with
  | non => exact h.elim
  | bl b => exact h.elim
  | ty n => exact h.elim
  | tup _ _ => exact h.elim
  | ins _ _ _ => exact h.elim
  | lam _ _ => exact h.elim
  | dK h1 h2 h3 => exact .inr (.inr (.inl ⟨h, .inl ⟨_, rh.g _ _ h1⟩⟩))
  | dT h1 h2 h3 => exact .inr (.inr (.inl ⟨h, .inr ⟨_, rh.g _ _ h1⟩⟩))
  | int i => exact h
  | str x => exact h
  | lst h1 h2 => exact .inl ⟨h, _, .inl (.inl (rh.g _ _ h1))⟩
  | rls h1 h2 => exact .inl ⟨h, _, SqL.same rh.g h1⟩
  | ref a =>
    rcases h with ⟨h, xs, q⟩ | ⟨h, q⟩
    · obtain ⟨vs, q1, _⟩ := rh.lst q
      exact .inl ⟨h, vs, .inl (.inl q1)⟩
    · refine .inr (.inr (.inl ⟨h, ?_⟩))
      rcases q with ⟨kvs, q⟩ | ⟨kvs, q⟩
      · obtain ⟨_, o, h2, vs, rfl, _⟩ := rh.r a _ q
        exact .inl ⟨_, h2⟩
      · obtain ⟨_, o, h2, vs, rfl, _⟩ := rh.r a _ q
        exact .inr ⟨_, h2⟩
def dBM0 (T : String) (r : D → List D → Rs → DK → Prop) (to : DTE) : DTE := fun s R Q => to s R fun d R1 => TyD T d R1 ∧ r d [] R1 Q
def dBM (T : String) (r : D → List D → Rs → DK → Prop) (to : DTE) (t : DTA) : DTE := fun s R Q => to s R fun d R1 => TyD T d R1 ∧ t s R1 fun ds R2 => r d ds R2 Q
section
variable {X : CxF} {o e : Expr} {es : List Expr} {to : DTE} {t : DTA} {name : Str} {apos cpos : Pos} {T id : String} {r : D → List D → Rs → DK → Prop}
theorem de_bm0 (pa : PlainAttrs T) (slot : Slot T name id) (hty : typeOf (.builtin id) = pure (.type "method_descriptor")) (hm : MtD X id r) (ho : DE X o to)
    (hbase : attributeBase o name X.env (eval o X.env) = eval o X.env := by rfl) (hline : (apos.endLine == cpos.line) = true := by rfl) : DE X (.Call (.Attribute o name apos) [] [] cpos) (dBM0 T r to) := by
  obtain ⟨r0, m1, m2⟩ := hm; obtain ⟨t0, a1, a2⟩ := ho
  exact ⟨_, pe_bm0 pa slot hty m1 a1 hbase hline, fun G sd s R H Qd Q sv rh q k => a2 G sd s R H _ _ sv rh q fun G1 R1 H1 d v e1 rh1 dv1 q1 => ⟨q1.1.ty rh1 dv1, m2 G1 R1 H1 v [] d [] _ _ rh1 dv1 .nil q1.2 (k.st e1)⟩⟩
theorem de_bm (pa : PlainAttrs T) (slot : Slot T name id) (hty : typeOf (.builtin id) = pure (.type "method_descriptor")) (hm : MtD X id r) (ho : DE X o to) (ha : DA X (e :: es) t)
    (hbase : attributeBase o name X.env (eval o X.env) = eval o X.env := by rfl)
    (hfew : ((backTo cpos (starEach (e :: es) X.env)).all (fun x => !x.1) && (backToKw cpos (keywordEach [] X.env)).all (fun x => x.1.isSome)
      && decide ((e :: es).length + ([] : List Keyword).length + (if ([] : List Keyword).isEmpty then 0 else 1) < 30)) = true := by rfl)
    (hline : (apos.endLine == cpos.line) = true := by rfl) (hs : starEach (e :: es) X.env = (false, eval e X.env) :: starEach es X.env := by rfl) (hplain : (backTo cpos (starEach es X.env)).any (·.1) = false := by rfl) :
    DE X (.Call (.Attribute o name apos) (e :: es) [] cpos) (dBM T r to t) := by
  obtain ⟨r0, m1, m2⟩ := hm; obtain ⟨t0, a1, a2⟩ := ho; obtain ⟨t1, b1, b2⟩ := ha
  exact ⟨_, pe_bm pa slot hty m1 a1 b1 hbase hfew hline hs hplain, fun G sd s R H Qd Q sv rh q k => a2 G sd s R H _ _ sv rh q fun G1 R1 H1 d v e1 rh1 dv1 q1 => ⟨q1.1.ty rh1 dv1, b2 G1 sd s R1 H1 _ _ (sv.st e1) rh1 q1.2 fun G2 R2 H2 ds vs e2 rh2 dv2 q2 =>
    m2 G2 R2 H2 v vs d ds _ _ rh2 (dv1.st e2) dv2 q2 (k.st (e1.trans e2))⟩⟩
end

/-! ### stores -/
abbrev DTSet := D → D → D → Rs → (Rs → Prop) → Prop
def LSet (K : KF) (t : TSet) (td : DTSet) : Prop := ∀ G R H o i v od idx vd Qd Q, RepH K G R H → DV K G od o → DV K G idx i → DV K G vd v → td od idx vd R Qd → (∀ G' R' H', Stp G R H G' R' H' → RepH K G' R' H' → Qd R' → Q H') → t o i v H Q
def DSet (X : CxF) (td : DTSet) : Prop := ∃ t, PSet X t ∧ LSet X.K t td
def dgSub (to ti : DTE) (t : DTSet) : DTG := fun d s R Q => to s R fun o R1 => ti s R1 fun i R2 => t o i d R2 fun R3 => Q s R3
section
variable {X : CxF} {o i : Expr} {to ti : DTE} {t : DTSet} {pos : Pos}
theorem dg_sub (ho : DE X o to) (hi : DE X i ti) (hs : DSet X t)
    (ha : ∀ v, assign (.Subscript o i pos) X.env v = (do
      let ov ← holding [v] (eval o X.env)
      let iv ← holding [v, ov] (eval i X.env)
      standAt pos
      holding [v, ov, iv] (setItem ov iv v)
      release [v, ov, iv] []) := by intro _; rfl) : DG X (.Subscript o i pos) (dgSub to ti t) := by
  obtain ⟨t0, o1, o2⟩ := ho; obtain ⟨t1, i1, i2⟩ := hi; obtain ⟨t2, s1, s2⟩ := hs
  exact ⟨_, pg_sub o1 i1 s1 ha, fun G sd s R H d v Qd Q sv rh dv q k => o2 G sd s R H _ _ sv rh q fun G1 R1 H1 d1 v1 e1 rh1 dv1 q1 => i2 G1 sd s R1 H1 _ _ (sv.st e1) rh1 q1 fun G2 R2 H2 d2 v2 e2 rh2 dv2 q2 =>
    s2 G2 R2 H2 _ _ _ _ _ _ _ _ rh2 (dv1.st e2) dv2 ((dv.st e1).st e2) q2 fun G3 R3 H3 e3 rh3 q3 => k G3 sd s R3 H3 (e1.trans (e2.trans e3)) (((sv.st e1).st e2).st e3) rh3 q3⟩
/-- l[i] = v -/
def rdSetL : DTSet := fun o i v R Q => ∃ l ds k j, o = .ref l ∧ i = .int k ∧ R l = some (.lst ds) ∧ ixN ds.length k = some j ∧ Q (put R l (.lst (ds.set j v)))
theorem dset_list : DSet X rdSetL := by
  refine ⟨_, set_list, fun G R H o i v od idx vd Qd Q rh do_ di dv q k => ?_⟩
  obtain ⟨l, ds, n, j, rfl, rfl, hl, hj, q⟩ := q
  cases do_; cases di
  obtain ⟨vs, h1, h2⟩ := rh.lst hl
  refine ⟨l, vs, n, j, rfl, rfl, h1, by rw [← h2.length]; exact hj, ?_⟩
  obtain ⟨s1, rh1⟩ := rh.chg (ro := .lst (ds.set j vd)) (o := .lst (vs.set j v)) hl ⟨_, rfl, h2.set dv j⟩
  exact k G _ _ s1 rh1 q
end

/-! ### two names at once -/
def dPar (i j : Nat) (ta : DTA) : DTS := fun D s R => ta s R fun ds R1 => ∃ x y, ds = [x, y] ∧ D.nx ((s.set i (some x)).set j (some y)) R1
section
variable {X : CxF} {pos : Pos}
theorem ds_par {i j : Nat} {x y : Str} {a b : Expr} {ta : DTA} {px py pt : Pos} {kt k2 pt2} (hc : X.calm = true) (hN : X.N.Nodup) (hi : X.N[i]? = some x) (hj : X.N[j]? = some y) (hij : i ≠ j)
    (hx : X.env.scope.names.lookup x = some .local) (hy : X.env.scope.names.lookup y = some .local) (ha : DA X [a, b] ta)
    (hw : swappedStores [.Tuple [.Name x px, .Name y py] kt pt] (.Tuple [a, b] k2 pt2) X.env = pure (some [x, y]))
    (hs : swapsWithSole [.Tuple [.Name x px, .Name y py] kt pt] (.Tuple [a, b] k2 pt2) pos.line X.env = pure false := by rfl) :
    DS X (.Assign [.Tuple [.Name x px, .Name y py] kt pt] (.Tuple [a, b] k2 pt2) pos) (dPar i j ta) := by
  obtain ⟨t0, a1, a2⟩ := ha
  refine ⟨_, ps_par hc hN hi hj hij hx hy a1 hw hs, fun G sd s R H Ed E sv rh q k => a2 G sd s R H _ _ sv rh q fun G1 R1 H1 ds vs e1 rh1 dv1 q1 => ?_⟩
  obtain ⟨u, v, rfl, q2⟩ := q1
  cases dv1 with
  | cons d1 r =>
    cases r with
    | cons d2 r => cases r; exact ⟨_, _, rfl, k.nx G1 _ _ R1 H1 e1 (((sv.st e1).set i d1).set j d2) rh1 q2⟩
end
end DL
end
section
set_option Elab.async false
set_option maxRecDepth 100000
set_option linter.all false
set_option autoImplicit false
/-! DL5: operations on values -/
namespace DL
open PySem PySem.Spec PyProof.Rows L2
variable [TabCtx]

section
variable {X : CxF}
/-! ### ints -/
def rdI (C : Int → Int → Prop) (g : Int → Int → D) : DR2 := fun x y R Q => ∃ i j, x = .int i ∧ y = .int j ∧ C i j ∧ Q (g i j) R
def rdI0 (g : Int → Int → D) : DR2 := fun x y R Q => ∃ i j, x = .int i ∧ y = .int j ∧ Q (g i j) R
theorem LR2.i {K : KF} {C : Int → Int → Prop} {g : Int → Int → V} {gd : Int → Int → D} (h : ∀ G i j, DV K G (gd i j) (g i j)) : LR2 K (rI C g) (rdI C gd) := fun G R H x y xd yd Qd Q rh dx dy ⟨i, j, hx, hy, c, q⟩ k => by
  subst hx; subst hy; cases dx; cases dy
  exact ⟨i, j, rfl, rfl, c, k G R H _ _ (Stp.refl _ _ _) rh (h G i j) q⟩
theorem LR2.i0 {K : KF} {g : Int → Int → V} {gd : Int → Int → D} (h : ∀ G i j, DV K G (gd i j) (g i j)) : LR2 K (rI0 g) (rdI0 gd) := fun G R H x y xd yd Qd Q rh dx dy ⟨i, j, hx, hy, q⟩ k => by
  subst hx; subst hy; cases dx; cases dy
  exact ⟨i, j, rfl, rfl, k G R H _ _ (Stp.refl _ _ _) rh (h G i j) q⟩
theorem od_add : OpD X (binaryOp .Add) (rdI0 fun i j => .int (i + j)) := ⟨_, op_add, LR2.i0 fun _ _ _ => .int _⟩
theorem od_sub : OpD X (binaryOp .Sub) (rdI0 fun i j => .int (i - j)) := ⟨_, op_sub, LR2.i0 fun _ _ _ => .int _⟩
theorem od_mul : OpD X (binaryOp .Mult) (rdI CMul fun i j => .int (i * j)) := ⟨_, op_mul, LR2.i fun _ _ _ => .int _⟩
theorem od_fdiv : OpD X (binaryOp .FloorDiv) (rdI CDiv fun i j => .int (i / j)) := ⟨_, op_fdiv, LR2.i fun _ _ _ => .int _⟩
theorem od_mod : OpD X (binaryOp .Mod) (rdI (fun _ j => 0 < j) fun i j => .int (i % j)) := ⟨_, op_mod, LR2.i fun _ _ _ => .int _⟩
theorem od_pow : OpD X (binaryOp .Pow) (rdI CPow fun i j => .int (i ^ j.toNat)) := ⟨_, op_pow, LR2.i fun _ _ _ => .int _⟩
theorem od_lt : OpD X (compareOp .Lt) (rdI0 fun i j => .bl (decide (i < j))) := ⟨_, op_lt, LR2.i0 fun _ _ _ => .bl _⟩
theorem od_le : OpD X (compareOp .LtE) (rdI0 fun i j => .bl (decide (i ≤ j))) := ⟨_, op_le, LR2.i0 fun _ _ _ => .bl _⟩
theorem od_gt : OpD X (compareOp .Gt) (rdI0 fun i j => .bl (decide (j < i))) := ⟨_, op_gt, LR2.i0 fun _ _ _ => .bl _⟩
theorem od_ge : OpD X (compareOp .GtE) (rdI0 fun i j => .bl (decide (j ≤ i))) := ⟨_, op_ge, LR2.i0 fun _ _ _ => .bl _⟩
/-! ### texts -/
/-! ### equality of scalars -/
def D.sc : D → Option V
  | .non => some .non
  | .bl b => some (.bl b)
  | .int i => some (.int i)
  | .str x => some (.str x)
  | _ => none
theorem DV.sc {K : PySem.W.Frag} {G : Hp} {d : D} {v u : V} (h : DV K G d v) (e : d.sc = some u) : v = u := by
  cases h <;> first | (cases e; rfl) | cases e
def rdEqS (neg : Bool) : DR2 := fun x y R Q => ∃ u v, x.sc = some u ∧ y.sc = some v ∧ scal u v = true ∧ Q (.bl (if neg then !decide (u = v) else decide (u = v))) R
theorem od_eqS : OpD X (compareOp .Eq) (rdEqS false) := ⟨_, op_eq, fun G R H x y xd yd Qd Q rh dx dy ⟨u, v, hx, hy, c, q⟩ k => by
  rw [dx.sc hx, dy.sc hy]
  exact ⟨c, k G R H _ _ (Stp.refl _ _ _) rh (.bl _) q⟩⟩
theorem od_neS : OpD X (compareOp .NotEq) (rdEqS true) := ⟨_, op_ne, fun G R H x y xd yd Qd Q rh dx dy ⟨u, v, hx, hy, c, q⟩ k => by
  rw [dx.sc hx, dy.sc hy]
  exact ⟨c, k G R H _ _ (Stp.refl _ _ _) rh (.bl _) q⟩⟩
/-! ### is None -/
def D.isNon : D → Bool
  | .non => true
  | _ => false
theorem DV.isNon {K : PySem.W.Frag} {G : Hp} {d : D} {v : V} (h : DV K G d v) : decide (v = .non) = d.isNon := by
  cases h <;> rfl
/-! ### data: equality, membership, repr -/
/-- d may be read as the data p -/
def AsPy (R : Rs) (d : D) (p : PyData) : Prop := (d.plain = true ∧ p = d.py) ∨ ∃ l ds, d = .ref l ∧ R l = some (.lst ds) ∧ D.plains ds = true ∧ p = .list (D.pys ds)
theorem AsPy.dp {K : KF} {G : Hp} {R : Rs} {H : Hp} {d : D} {p : PyData} {v : V} (h : AsPy R d p) (rh : RepH K G R H) (dv : DV K G d v) : Dp K H v p := by
  rcases h with ⟨h, rfl⟩ | ⟨l, ds, rfl, hl, hp, rfl⟩
  · exact Dp.same rh.g (dv.dp h)
  · cases dv
    obtain ⟨vs, h1, h2⟩ := rh.lst hl
    exact .lst (.inl (.inl h1)) (DpAll.same rh.g (h2.dp hp))
def rdEqD (neg : Bool) : DR2 := fun x y R Q => ∃ p q, AsPy R x p ∧ AsPy R y q ∧ SeqAt.shaped p = true ∧ SeqAt.shaped q = true ∧ Q (.bl (if neg then !PyData.eqv p q else PyData.eqv p q)) R
theorem od_neD (hu : X.A.units + 64 < cLine) : OpD X (compareOp .NotEq) (rdEqD true) := ⟨_, op_neD hu, fun G R H x y xd yd Qd Q rh dx dy ⟨p, q, hp, hq, sp, sq, z⟩ k =>
  ⟨p, q, hp.dp rh dx, hq.dp rh dy, sp, sq, k G R H _ _ (Stp.refl _ _ _) rh (.bl _) z⟩⟩
def rdInD (neg : Bool) : DR2 := fun x y R Q => ∃ p qs, AsPy R x p ∧ AsPy R y (.list qs) ∧ SeqAt.shaped p = true ∧ SeqAt.shaped (.list qs) = true ∧ Q (.bl (if neg then !(qs.any fun z => PyData.eqv z p) else qs.any fun z => PyData.eqv z p)) R
theorem od_inD (hu : X.A.units + 65 < cLine) : OpD X (compareOp .In) (rdInD false) := ⟨_, op_inD hu, fun G R H x y xd yd Qd Q rh dx dy ⟨p, q, hp, hq, sp, sq, z⟩ k =>
  ⟨p, q, hp.dp rh dx, hq.dp rh dy, sp, sq, k G R H _ _ (Stp.refl _ _ _) rh (.bl _) z⟩⟩
/-! ### built-in functions -/
def rd1 (g : D → Rs → DK → Prop) : List D → Rs → DK → Prop := fun ds R Q => match ds with
  | [d] => g d R Q
  | _ => False
theorem cd_abs : CallD X (.builtin "abs") (fun ds R Q => ∃ i, ds = [.int i] ∧ Q (.int (if i < 0 then -i else i)) R) := ⟨_, call_abs, fun G R H xs ds Qd Q rh dv ⟨i, hx, q⟩ k => by
  subst hx
  cases dv with
  | cons a b => cases a; cases b; exact ⟨i, rfl, k G R H _ _ (Stp.refl _ _ _) rh (.int _) q⟩⟩
theorem cd_max2 (hc : X.calm = true) : CallD X (.builtin "max") (fun ds R Q => ∃ i j, ds = [.int i, .int j] ∧ Q (.int (if j > i then j else i)) R) := ⟨_, call_max2 hc, fun G R H xs ds Qd Q rh dv ⟨i, j, hx, q⟩ k => by
  subst hx
  cases dv with
  | cons a b =>
    cases b with
    | cons b c => cases a; cases b; cases c; exact ⟨i, j, rfl, k G R H _ _ (Stp.refl _ _ _) rh (.int _) q⟩⟩
theorem cd_min2 (hc : X.calm = true) : CallD X (.builtin "min") (fun ds R Q => ∃ i j, ds = [.int i, .int j] ∧ Q (.int (if j < i then j else i)) R) := ⟨_, call_min2 hc, fun G R H xs ds Qd Q rh dv ⟨i, j, hx, q⟩ k => by
  subst hx
  cases dv with
  | cons a b =>
    cases b with
    | cons b c => cases a; cases b; cases c; exact ⟨i, j, rfl, k G R H _ _ (Stp.refl _ _ _) rh (.int _) q⟩⟩
theorem cd_intB : CallD X (.type "int") (fun ds R Q => ∃ b, ds = [.bl b] ∧ Q (.int (if b = true then 1 else 0)) R) := ⟨_, call_int1, fun G R H xs ds Qd Q rh dv ⟨i, hx, q⟩ k => by
  subst hx
  cases dv with
  | cons a b => cases a; cases b; exact .inr ⟨i, rfl, k G R H _ _ (Stp.refl _ _ _) rh (.int _) q⟩⟩
theorem seqOf_ref {R : Rs} {l : Addr} {xs : List D} (h : seqOf R (.ref l) = some xs) : R l = some (.lst xs) := by
  unfold seqOf at h
  cases e : R l with
  | none => simp [e] at h
  | some o => cases o <;> simp [e] at h; subst h; rfl
theorem seqOf_lst {R : Rs} {l : Addr} {xs : List D} (h : R l = some (.lst xs)) : seqOf R (.ref l) = some xs := by
  unfold seqOf
  simp [h]
theorem seq_dv {K : KF} {G : Hp} {R : Rs} {H : Hp} {d : D} {v : V} {xs : List D} (h : seqOf R d = some xs) (rh : RepH K G R H) (dv : DV K G d v) : ∃ a vs, v = .ref a ∧ (SqL K H a vs ∨ SqT K H a vs) ∧ DVs K G xs vs := by
  cases dv with
  | tup h1 h2 => cases h; exact ⟨_, _, rfl, .inr (SqT.same rh.g h1), h2⟩
  | lst h1 h2 => cases h; exact ⟨_, _, rfl, .inl (.inl (.inl (rh.g _ _ h1))), h2⟩
  | rls h1 h2 => cases h; exact ⟨_, _, rfl, .inl (SqL.same rh.g h1), h2⟩
  | ref l =>
    obtain ⟨vs, h1, h2⟩ := rh.lst (seqOf_ref h)
    exact ⟨_, _, rfl, .inl (.inl (.inl h1)), h2⟩
  | non => cases h
  | bl _ => cases h
  | int _ => cases h
  | str _ => cases h
  | ty _ => cases h
  | ins _ _ _ => cases h
  | dK _ _ _ => cases h
  | dT _ _ _ => cases h
  | lam _ _ => cases h
theorem LRA.one {K : KF} {r : List V → Hp → VK → Prop} {g : D → Rs → DK → Prop} (h : ∀ G R H d v Qd Q, RepH K G R H → DV K G d v → g d R Qd → CB K G R H Qd Q → r [v] H Q) : LRA K r (rd1 g) := fun G R H xs ds Qd Q rh dv q k => by
  cases dv with
  | nil => exact q.elim
  | cons a b =>
    cases b with
    | cons _ _ => exact q.elim
    | nil => exact h G R H _ _ Qd Q rh a q k
/-- len of a list or tuple -/
theorem cd_len : CallD X (.builtin "len") (rd1 fun d R Q => ∃ xs, seqOf R d = some xs ∧ Q (.int xs.length) R) := ⟨_, call_len_seq, LRA.one fun G R H d v Qd Q rh dv ⟨xs, hx, q⟩ k => by
  obtain ⟨a, vs, rfl, hs, h2⟩ := seq_dv hx rh dv
  have fin := k G R H _ _ (Stp.refl _ _ _) rh (.int _) q
  rw [h2.length] at fin
  exact ⟨a, vs, rfl, hs, fin⟩⟩
theorem cd_lenS : CallD X (.builtin "len") (rd1 fun d R Q => ∃ x, d = .str x ∧ x.length ≤ sizeLine ∧ Q (.int x.length) R) := ⟨_, call_len_str, LRA.one fun G R H d v Qd Q rh dv ⟨x, hx, hz, q⟩ k => by
  subst hx; cases dv
  exact ⟨x, rfl, hz, k G R H _ _ (Stp.refl _ _ _) rh (.int _) q⟩⟩
/-- tuple(list), tuple(tuple) -/
theorem cd_tuple : CallD X (.type "tuple") (rd1 fun d R Q => ∃ xs, seqOf R d = some xs ∧ Q (.tup xs) R) := ⟨_, call_tuple_of, LRA.one fun G R H d v Qd Q rh dv ⟨xs, hx, q⟩ k => by
  have main : ∀ a vs, v = .ref a → SqL X.K H a vs → DVs X.K G xs vs → ∃ p ys, [v] = [.ref p] ∧ ((SqL X.K H p ys ∧ ∀ l, H l = none → Q (.ref l) (upd H l (.tup ys))) ∨ (SqT X.K H p ys ∧ Q (.ref p) H)) := fun a vs e hs h2 => by
    subst e
    refine ⟨a, vs, rfl, .inl ⟨hs, fun l hl => ?_⟩⟩
    obtain ⟨s1, rh2⟩ := rh.imm (o := .tup vs) hl
    exact k _ R _ _ _ s1 rh2 (.tup (.inl (.inl upd_same)) (h2.st s1)) q
  cases dv with
  | tup h1 h3 => cases hx; exact ⟨_, _, rfl, .inr ⟨SqT.same rh.g h1, k G R H _ _ (Stp.refl _ _ _) rh (.tup h1 h3) q⟩⟩
  | lst h1 h3 => cases hx; exact main _ _ rfl (.inl (.inl (rh.g _ _ h1))) h3
  | rls h1 h3 => cases hx; exact main _ _ rfl (SqL.same rh.g h1) h3
  | ref l =>
    obtain ⟨vs, h1, h2⟩ := rh.lst (seqOf_ref hx)
    exact main _ _ rfl (.inl (.inl h1)) h2
  | non => cases hx
  | bl _ => cases hx
  | int _ => cases hx
  | str _ => cases hx
  | ty _ => cases hx
  | ins _ _ _ => cases hx
  | dK _ _ _ => cases hx
  | dT _ _ _ => cases hx
  | lam _ _ => cases hx⟩
theorem cd_all (hc : X.calm = true) : CallD X (.builtin "all") (rd1 fun d R Q => ∃ xs : List Bool, d = .lst (xs.map D.bl) ∧ Q (.bl (xs.all id)) R) := ⟨_, cr_all hc, LRA.one fun G R H d v Qd Q rh dv ⟨xs, hx, q⟩ k => by
  subst hx
  cases dv with
  | lst h1 h2 => rw [h2.bls] at h1; exact ⟨_, xs, rfl, .inl (.inl (rh.g _ _ h1)), k G R H _ _ (Stp.refl _ _ _) rh (.bl _) q⟩⟩

/-! ### isinstance of a built-in class -/
def D.tyName (R : Rs) : D → Option String
  | .non => some "NoneType"
  | .bl _ => some "bool"
  | .int _ => some "int"
  | .str _ => some "str"
  | .tup _ => some "tuple"
  | .lst _ => some "list"
  | .rls _ => some "list"
  | .dK _ _ => some "dict"
  | .dT _ _ => some "dict"
  | .ref l => match R l with
    | some (.lst _) => some "list"
    | some (.dK _) => some "dict"
    | some (.dT _) => some "dict"
    | _ => none
  | _ => none
theorem tyX_of {K : KF} {G : Hp} {R : Rs} {H : Hp} {d : D} {v : V} {T : String} (h : d.tyName R = some T) (rh : RepH K G R H) (dv : DV K G d v) : TyX K H v (.type T) := by
  cases dv with
  | non => cases h; exact .base .non
  | bl b => cases h; exact .base (.bl b)
  | int i => cases h; exact .base (.int i)
  | str x => cases h; exact .base (.str x)
  | ty n => cases h
  | ins _ _ _ => cases h
  | lam _ _ => cases h
  | dK h1 _ _ => cases h; exact .base (.dK (rh.g _ _ h1))
  | dT h1 _ _ => cases h; exact .base (.dT (rh.g _ _ h1))
  | tup h1 h2 =>
    cases h
    rcases SqT.same rh.g h1 with (h | ⟨o, h⟩) | ⟨o, its, n, h, hc, _⟩
    · exact .base (.tup h)
    · exact .fTuple h
    · exact .kTuple h hc
  | lst h1 h2 => cases h; exact .base (.lst (rh.g _ _ h1))
  | rls h1 h2 =>
    cases h
    rcases SqL.same rh.g h1 with (h | ⟨o, h⟩) | ⟨o, its, n, h, hc, _⟩
    · exact .base (.lst h)
    · exact .base (.frz h)
    · exact .kList h hc
  | ref l =>
    unfold D.tyName at h
    cases e : R l with
    | none => simp [e] at h
    | some ro =>
      obtain ⟨_, o, h2, h3⟩ := rh.r l _ e
      cases ro <;> simp [e] at h <;> subst h
      · obtain ⟨vs, rfl, _⟩ := h3; exact .base (.lst h2)
      · obtain ⟨vs, rfl, _⟩ := h3; exact .base (.dK h2)
      · obtain ⟨vs, rfl, _⟩ := h3; exact .base (.dT h2)
/-- isinstance(x, T) -/
def rdIsi (isa : String → String → Option Bool) : List D → Rs → DK → Prop := fun ds R Q => match ds with
  | [d, .ty T] => ∃ S b, d.tyName R = some S ∧ isa S T = some b ∧ Q (.bl b) R
  | _ => False
theorem cd_isi : CallD X (.builtin "isinstance") (rdIsi kitB) := ⟨_, call_isi, fun G R H xs ds Qd Q rh dv q k => by
  cases dv with
  | nil => exact q.elim
  | @cons d1 ds1 v1 vs1 a b =>
    cases b with
    | nil => exact q.elim
    | @cons d2 ds2 v2 vs2 b c =>
      cases c with
      | cons _ _ => cases d2 <;> exact q.elim
      | nil =>
        cases b with
        | ty T =>
          obtain ⟨S, z, h1, h2, q⟩ := q
          exact ⟨_, _, .type S, .type T, z, rfl, .ty T, tyX_of h1 rh a, kit_ty h2, k G R H _ _ (Stp.refl _ _ _) rh (.bl _) q⟩
        | _ => exact q.elim⟩

/-! ### subscripts -/
theorem atI_dv {K : PySem.W.Frag} {G : Hp} {xs : List D} {vs : List V} {i : Int} {d : D} (h : DVs K G xs vs) (e : atI xs i = some d) : ∃ v, atI vs i = some v ∧ DV K G d v := by
  unfold atI at e ⊢
  rw [h.length] at e
  cases z : ixN vs.length i with
  | none => rw [z] at e; cases e
  | some j => rw [z] at e; exact h.get e
theorem xd_seq : IxD X (fun x y R Q => ∃ xs i d, seqOf R x = some xs ∧ y = .int i ∧ atI xs i = some d ∧ Q d R) := ⟨_, ix_seq, fun G R H x y xd yd Qd Q rh dx dy ⟨xs, i, d, hx, hy, hd, q⟩ k => by
  subst hy; cases dy
  obtain ⟨a, vs, rfl, hs, h2⟩ := seq_dv hx rh dx
  obtain ⟨v, h3, h4⟩ := atI_dv h2 hd
  have fin := k G R H _ _ (Stp.refl _ _ _) rh h4 q
  rcases hs with hs | hs
  · exact .inl ⟨a, vs, i, v, rfl, rfl, hs, h3, fin⟩
  · exact .inr (.inl ⟨a, vs, i, v, rfl, rfl, hs, h3, fin⟩)⟩
theorem xd_str : IxD X (fun x y R Q => ∃ z i c, x = .str z ∧ y = .int i ∧ z.length ≤ sizeLine ∧ atI z.cps.toList i = some c ∧ Q (.str ⟨#[c]⟩) R) := ⟨_, ix_str, fun G R H x y xd yd Qd Q rh dx dy ⟨z, i, c, hx, hy, hz, hd, q⟩ k => by
  subst hx; subst hy; cases dx; cases dy
  exact ⟨z, i, c, rfl, rfl, hz, hd, k G R H _ _ (Stp.refl _ _ _) rh (.str _) q⟩⟩
/-! ### slices -/
def cutD (xs : List D) (lo hi : Option Int) : List D := (xs.drop (HT.sIx xs.length 0 lo)).take (HT.sIx xs.length xs.length hi - HT.sIx xs.length 0 lo)
theorem cut_dv {K : PySem.W.Frag} {G : Hp} {xs : List D} {vs : List V} {lo hi : Option Int} (h : DVs K G xs vs) : DVs K G (cutD xs lo hi) (cutV vs lo hi) := by
  unfold cutD cutV
  rw [h.length]
  exact (h.drop _).take _
theorem cutD_whole {xs : List D} {lo hi : Option Int} (h1 : HT.sIx xs.length 0 lo = 0) (h2 : HT.sIx xs.length xs.length hi = xs.length) : cutD xs lo hi = xs := by
  unfold cutD
  rw [h1, h2]
  simp
theorem sd_tup : SlD X (fun x lo hi R Q => ∃ xs, x = .tup xs ∧ Q (.tup (cutD xs lo hi)) R) := ⟨_, sl_tupA, fun G R H x d lo hi Qd Q rh dv ⟨xs, hx, q⟩ k => by
  subst hx
  cases dv with
  | @tup a vs _ h1 h2 =>
    refine ⟨a, vs, rfl, SqT.same rh.g h1, fun ⟨z1, z2⟩ => ?_, fun _ p hp => ?_⟩
    · rw [← h2.length] at z1 z2
      rw [cutD_whole z1 z2] at q
      exact k G R H _ _ (Stp.refl _ _ _) rh (.tup h1 h2) q
    · obtain ⟨s1, rh2⟩ := rh.imm (o := .tup (cutV vs lo hi)) hp
      exact k _ R _ _ _ s1 rh2 (.tup (.inl (.inl upd_same)) ((cut_dv h2).st s1)) q⟩
/-! ### methods of lists -/
theorem md_append : MtD X "list.append" (fun x ds R Q => ∃ l xs y, x = .ref l ∧ ds = [y] ∧ R l = some (.lst xs) ∧ xs.length < sizeLine ∧ Q .non (put R l (.lst (xs ++ [y])))) := ⟨_, mt_append, fun G R H x vs d ds Qd Q rh dv dvs ⟨l, xs, y, hx, hy, hl, hz, q⟩ k => by
  subst hx; subst hy; cases dv
  cases dvs with
  | cons a b =>
    cases b
    obtain ⟨us, h1, h2⟩ := rh.lst hl
    obtain ⟨s1, rh2⟩ := rh.chg (ro := .lst (xs ++ [y])) (o := .lst (us ++ [_])) hl ⟨_, rfl, h2.append (.cons a .nil)⟩
    exact ⟨l, us, _, rfl, rfl, h1, by rw [← h2.length]; exact hz, k _ _ _ _ _ s1 rh2 .non q⟩⟩
end
end DL
end
section
set_option Elab.async false
set_option maxRecDepth 100000
set_option linter.all false
set_option autoImplicit false
/-! DL6: operations that the hand layer has no rule for -/
namespace DL
open PySem PySem.Spec PyProof.Rows L2
variable [TabCtx]

section
variable {X : CxF}
/-! ### a list or tuple against the empty one -/
/-- one of kind list: its items -/
def lstOf (R : Rs) : D → Option (List D)
  | .lst xs => some xs
  | .rls xs => some xs
  | .ref l => match R l with
    | some (.lst xs) => some xs
    | _ => none
  | _ => none
theorem lst_dv {K : KF} {G : Hp} {R : Rs} {H : Hp} {d : D} {v : V} {xs : List D} (h : lstOf R d = some xs) (rh : RepH K G R H) (dv : DV K G d v) : ∃ a vs, v = .ref a ∧ SqL K H a vs ∧ DVs K G xs vs := by
  cases dv with
  | lst h1 h2 => cases h; exact ⟨_, _, rfl, .inl (.inl (rh.g _ _ h1)), h2⟩
  | rls h1 h2 => cases h; exact ⟨_, _, rfl, SqL.same rh.g h1, h2⟩
  | ref l =>
    have h' : R l = some (.lst xs) := by
      unfold lstOf at h
      cases e : R l with
      | none => simp [e] at h
      | some o => cases o <;> simp [e] at h; subst h; rfl
    obtain ⟨vs, h1, h2⟩ := rh.lst h'
    exact ⟨_, _, rfl, .inl (.inl h1), h2⟩
  | _ => cases h
/-- [..] == [], [..] != [] -/
def rNil (K : PySem.W.Frag) (neg : Bool) : R2 := fun x y H Q => ∃ a b xs, x = .ref a ∧ y = .ref b ∧ SqL K H a xs ∧ SqL K H b [] ∧ Q (.bl (if neg then !xs.isEmpty else xs.isEmpty)) H
def rdNil (neg : Bool) : DR2 := fun x y R Q => ∃ xs, lstOf R x = some xs ∧ lstOf R y = some [] ∧ Q (.bl (if neg then !xs.isEmpty else xs.isEmpty)) R
theorem LR2.nil {K : KF} (neg : Bool) : LR2 K (rNil K neg) (rdNil neg) := fun G R H x y xd yd Qd Q rh dx dy ⟨xs, h1, h2, q⟩ k => by
  obtain ⟨a, vs, rfl, s1, d1⟩ := lst_dv h1 rh dx
  obtain ⟨b, us, rfl, s2, d2⟩ := lst_dv h2 rh dy
  cases d2
  have e : vs.isEmpty = xs.isEmpty := by cases d1 <;> rfl
  exact ⟨a, b, vs, rfl, rfl, s1, s2, by rw [e]; exact k G R H _ _ (Stp.refl _ _ _) rh (.bl _) q⟩
/-- (..) == (), (..) != () -/
def rNilT (K : PySem.W.Frag) (neg : Bool) : R2 := fun x y H Q => ∃ a b xs, x = .ref a ∧ y = .ref b ∧ SqT K H a xs ∧ SqT K H b [] ∧ Q (.bl (if neg then !xs.isEmpty else xs.isEmpty)) H
def rdNilT (neg : Bool) : DR2 := fun x y R Q => ∃ xs, x = .tup xs ∧ y = .tup [] ∧ Q (.bl (if neg then !xs.isEmpty else xs.isEmpty)) R
/-! ### repr of data -/
def rRepr (K : PySem.W.Frag) : List V → Hp → VK → Prop := fun xs H Q => ∃ x d, xs = [x] ∧ Dp K H x d ∧ d.showable = true ∧ d.hasDict = false ∧ d.depth ≤ 190 ∧ d.shown.length ≤ sizeLine ∧ Q (.str d.shown) H
theorem call_reprD {k : Nat} (hgd : X.A.guards = some []) (hr : Room k X.A) : CallR X (.builtin "repr") (rRepr X.K) := by
  have hr : Room k X.X.A := hr
  intro pins s σ H xs us Q I r h
  obtain ⟨x, d, rfl, hd, hs, hnd, hdp, hz, q⟩ := h
  cases r with
  | @cons _ u _ us r1 r2 =>
    cases r2
    have un := hr.un
    obtain ⟨as, rd⟩ := Dp.reads I d x u hd r1
    cases hd with
    | non =>
      cases (show u = Value.none from r1)
      exact PySem.P.repr_of_none ⟨.str _, H, I.tok _, ⟨_, rfl⟩, q⟩
    | bl b =>
      cases (show u = Value.bool b from r1)
      exact PySem.P.repr_of_bool ⟨.str _, H, I.tok _, ⟨_, rfl⟩, q⟩
    | int i =>
      obtain ⟨t, e⟩ := (show ∃ t, u = Value.int i t from r1)
      subst e
      exact PySem.P.repr_of_int (by simpa [PyData.showable] using hs) ⟨.str _, H, I.tok _, ⟨_, rfl⟩, q⟩
    | str z =>
      obtain ⟨t, e⟩ := (show ∃ t, u = Value.str z t from r1)
      subst e
      exact PySem.P.repr_of_str ⟨.str _, H, I.tok _, ⟨_, rfl⟩, q⟩ hz
    | lst _ _ =>
      cases (show u = Value.ref _ from r1)
      exact repr_of_reads' rd hs (fun z => by rw [hnd] at z; cases z) hgd (by omega) (fun _ _ e => e) (fun h' u tk kp => ⟨.str _, H, I.kept (t' := tk) kp, ⟨_, rfl⟩, q⟩) hz
    | tup _ _ =>
      cases (show u = Value.ref _ from r1)
      exact repr_of_reads' rd hs (fun z => by rw [hnd] at z; cases z) hgd (by omega) (fun _ _ e => e) (fun h' u tk kp => ⟨.str _, H, I.kept (t' := tk) kp, ⟨_, rfl⟩, q⟩) hz
mutual
theorem hasDict_py : ∀ d : D, d.py.hasDict = false
  | .non => rfl
  | .bl _ => rfl
  | .int _ => rfl
  | .str _ => rfl
  | .ty _ => rfl
  | .ref _ => rfl
  | .tup xs => by rw [D.py, PyData.hasDict]; exact hasDict_pys xs
  | .lst xs => by rw [D.py, PyData.hasDict]; exact hasDict_pys xs
  | .rls xs => by rw [D.py, PyData.hasDict]; exact hasDict_pys xs
  | .ins _ _ _ => rfl
  | .dK _ _ => rfl
  | .dT _ _ => rfl
  | .lam _ => rfl
theorem hasDict_pys : ∀ ds : List D, PyData.hasDictAll (D.pys ds) = false
  | [] => by rw [D.pys]; rfl
  | d :: ds => by rw [D.pys, PyData.hasDictAll, hasDict_py d, hasDict_pys ds]; rfl
end
theorem AsPy.noDict {R : Rs} {d : D} {p : PyData} (h : AsPy R d p) : p.hasDict = false := by
  rcases h with ⟨_, rfl⟩ | ⟨_, ds, _, _, _, rfl⟩
  · exact hasDict_py d
  · rw [PyData.hasDict]; exact hasDict_pys ds
theorem cd_repr {k : Nat} (hgd : X.A.guards = some []) (hr : Room k X.A) : CallD X (.builtin "repr") (rd1 fun d R Q => ∃ p, AsPy R d p ∧ p.showable = true ∧ p.depth ≤ 190 ∧ p.shown.length ≤ sizeLine ∧ Q (.str p.shown) R) := ⟨_, call_reprD hgd hr, LRA.one fun G R H d v Qd Q rh dv ⟨p, hp, h1, h2, h3, q⟩ k =>
  ⟨v, p, rfl, hp.dp rh dv, h1, hp.noDict, h2, h3, k G R H _ _ (Stp.refl _ _ _) rh (.str _) q⟩⟩

/-! ### extend -/
theorem md_extend : MtD X "list.extend" (fun x ds R Q => ∃ l xs zs, x = .ref l ∧ ds = [.lst zs] ∧ R l = some (.lst xs) ∧ xs.length + zs.length ≤ sizeLine ∧ Q .non (put R l (.lst (xs ++ zs)))) := ⟨_, mt_extend, fun G R H x vs d ds Qd Q rh dv dvs ⟨l, xs, zs, hx, hy, hl, hz, q⟩ k => by
  subst hx; subst hy; cases dv
  cases dvs with
  | cons a b =>
    cases b
    cases a with
    | @lst b us _ h3 h4 =>
      obtain ⟨ws, h1, h2⟩ := rh.lst hl
      obtain ⟨s1, rh2⟩ := rh.chg (ro := .lst (xs ++ zs)) (o := .lst (ws ++ us)) hl ⟨_, rfl, h2.append h4⟩
      exact ⟨l, b, ws, us, rfl, rfl, h1, rh.g _ _ h3, by rw [← h2.length, ← h4.length]; exact hz, k _ _ _ _ _ s1 rh2 .non q⟩⟩
open AutoSeq1 in
def rExtT (K : PySem.W.Frag) : V → List V → Hp → VK → Prop := fun x vs H Q => ∃ l b xs zs, x = .ref l ∧ vs = [.ref b] ∧ H l = some (.lst xs) ∧ SqT K H b zs ∧ xs.length + zs.length ≤ sizeLine ∧ Q .non (upd H l (.lst (xs ++ zs)))
/-! ### a + b of lists -/
/-- lists as the concatenation wants them -/
def trk (R : Rs) : D → Option (List D)
  | .lst xs => some xs
  | .ref l => match R l with
    | some (.lst xs) => some xs
    | _ => none
  | _ => none
theorem trk_dv {K : KF} {G : Hp} {R : Rs} {H : Hp} {d : D} {v : V} {xs : List D} (h : trk R d = some xs) (rh : RepH K G R H) (dv : DV K G d v) : ∃ a vs, v = .ref a ∧ H a = some (.lst vs) ∧ DVs K G xs vs := by
  cases dv with
  | lst h1 h2 => cases h; exact ⟨_, _, rfl, rh.g _ _ h1, h2⟩
  | ref l =>
    have h' : R l = some (.lst xs) := by
      unfold trk at h
      cases e : R l with
      | none => simp [e] at h
      | some o => cases o <;> simp [e] at h; subst h; rfl
    obtain ⟨vs, h1, h2⟩ := rh.lst h'
    exact ⟨_, _, rfl, h1, h2⟩
  | _ => cases h
/-- the sum never changes -/
theorem od_catF : OpD X (binaryOp .Add) (fun x y R Q => ∃ xs ys, trk R x = some xs ∧ trk R y = some ys ∧ xs.length + ys.length ≤ sizeLine ∧ Q (.lst (xs ++ ys)) R) := ⟨_, op_cat, fun G R H x y xd yd Qd Q rh dx dy ⟨xs, ys, hx, hy, hz, q⟩ k => by
  obtain ⟨a, vs, rfl, h1, d1⟩ := trk_dv hx rh dx
  obtain ⟨b, us, rfl, h2, d2⟩ := trk_dv hy rh dy
  refine ⟨a, b, vs, us, rfl, rfl, h1, h2, by rw [← d1.length, ← d2.length]; exact hz, fun p hp => ?_⟩
  obtain ⟨s1, rh2⟩ := rh.imm (o := .lst (vs ++ us)) hp
  exact k _ R _ _ _ s1 rh2 (.lst upd_same ((d1.append d2).st s1)) q⟩
/-! ### tuples -/
/-! ### in: a sign in a text, a text in a list or tuple of texts -/
theorem od_inSign : OpD X (compareOp .In) (fun x y R Q => ∃ (c : Nat) (z : Str), x = .str ⟨#[c]⟩ ∧ y = .str z ∧ Q (.bl (decide (c ∈ z.cps.toList))) R) := ⟨_, op_in_sign, fun G R H x y xd yd Qd Q rh dx dy ⟨c, z, hx, hy, q⟩ k => by
  subst hx; subst hy; cases dx; cases dy
  exact ⟨c, z, rfl, rfl, k G R H _ _ (Stp.refl _ _ _) rh (.bl _) q⟩⟩
def rdInS (neg : Bool) : DR2 := fun x y R Q => ∃ (a : Str) (xs : List Str), x = .str a ∧ seqOf R y = some (xs.map D.str) ∧ Q (.bl (if neg then !decide (a ∈ xs) else decide (a ∈ xs))) R
theorem inV_str (a : Str) (xs : List Str) : inV (.str a) (xs.map V.str) = decide (a ∈ xs) := by
  unfold inV
  induction xs with
  | nil => rfl
  | cons x xs ih =>
    rw [List.map_cons, List.any_cons, ih]
    by_cases h : x = a
    · subst h; simp [eqV]
    · have h2 : ¬ a = x := fun e => h e.symm
      simp [eqV, h, h2]
theorem flat_strs (xs : List Str) : (xs.map V.str).all flatV = true := by
  induction xs with
  | nil => rfl
  | cons x xs ih => rw [List.map_cons, List.all_cons, ih]; rfl
theorem od_inS : OpD X (compareOp .In) (rdInS false) := ⟨_, op_in_seq, fun G R H x y xd yd Qd Q rh dx dy ⟨a, xs, hx, hy, q⟩ k => by
  subst hx; cases dx
  obtain ⟨p, vs, rfl, hs, d2⟩ := seq_dv hy rh dy
  rw [d2.strs] at hs
  exact ⟨p, _, rfl, hs, rfl, flat_strs xs, by rw [inV_str]; exact k G R H _ _ (Stp.refl _ _ _) rh (.bl _) q⟩⟩
/-! ### join -/
/-! ### is True -/
/-- a built-in class as a value -/
theorem de_ty {x : Str} {T : String} {pos : Pos} (hg : Gl X x) (hm : X.mg x = none) (hv : bootBuiltins x = some (.type T)) (hn : x ≠ "__name__" := by decide) (hdb : (x == ("__debug__" : Str)) = false := by decide) : DE X (.Name x pos) (dC (.ty T)) := ⟨_, pe_bltn (v := .ty T) hg hm hv rfl hn hdb, LE.con fun _ => .ty T⟩
end
end DL
end
section
set_option Elab.async false
set_option maxRecDepth 100000
set_option linter.all false
set_option autoImplicit false
/-! DL7: calls by name, the built-ins' names -/
namespace DL
open PySem PySem.Spec PyProof.Rows L2
variable [TabCtx]
theorem bt_len : bootBuiltins "len" = some (.builtin "len") := by decide +kernel
theorem bt_isi : bootBuiltins "isinstance" = some (.builtin "isinstance") := by decide +kernel
theorem bt_repr : bootBuiltins "repr" = some (.builtin "repr") := by decide +kernel
theorem bt_abs : bootBuiltins "abs" = some (.builtin "abs") := by decide +kernel
theorem bt_max : bootBuiltins "max" = some (.builtin "max") := by decide +kernel
theorem bt_min : bootBuiltins "min" = some (.builtin "min") := by decide +kernel
theorem bt_sorted : bootBuiltins "sorted" = some (.builtin "sorted") := by decide +kernel
theorem bt_all : bootBuiltins "all" = some (.builtin "all") := by decide +kernel
theorem bt_int : bootBuiltins "int" = some (.type "int") := by decide +kernel
theorem bt_str : bootBuiltins "str" = some (.type "str") := by decide +kernel
theorem bt_tuple : bootBuiltins "tuple" = some (.type "tuple") := by decide +kernel
/-- none of these names is the module's -/
def Blt (mg : Str → Option Value) (l : List Str) : Prop := ∀ x ∈ l, mg x = none
/-- a def of the module, called by its name -/
structure Cal (P : Program) (w : World) (K : KB) (mg : Str → Option Value) (base : Heap) (k : Nat) (x : Str) (dsp : DSp) : Prop where
  ex : ∃ (f : Addr) (fd : FuncData) (ps : List Str), FnG P w K mg base CX0 k f fd ps (spOf K dsp) ∧ mg x = some (.ref f) ∧ PySem.W.keepIn K (.ref f) = true ∧ Binds K fd ps []
section
variable {X : CxF} {k j : Nat} {x : Str} {dsp : DSp} {p pos : Pos} {e : Expr} {es : List Expr} {t : DTA}
theorem de_c (c : Cal X.prog X.w X.K.F X.mg X.base k x dsp) (gd : X.A.guards = some []) (hr : Room j X.A) (hk : k ≤ j) (hg : Gl X x) (ha : DA X (e :: es) t) (hdb : (x == ("__debug__" : Str)) = false := by decide)
    (he : starEach (e :: es) X.env = (false, eval e X.env) :: starEach es X.env := by rfl) (hpl : (backTo pos (starEach es X.env)).any (·.1) = false := by rfl) : DE X (.Call (.Name x p) (e :: es) [] pos) (dCall dsp Ed0 t) := by
  obtain ⟨f, fd, ps, F, hm, kp, bd⟩ := c.ex
  exact de_call F gd (hr.mono hk) hg hm kp bd pass0 ha hdb he hpl
end
/-- one statement, a middle, the rest -/
def dCut (t u : DTS) : DTS := fun D s R => ∃ Mid : DSt → Rs → Prop, t { D with nx := Mid } s R ∧ ∀ s' R', Mid s' R' → u D s' R'
theorem dss_cut {X : CxF} {st : Stmt} {rest : List Stmt} {t u : DTS} (h : DS X st t) (r : DSs X rest u) : DSs X (st :: rest) (dCut t u) := by
  obtain ⟨t1, a1, a2⟩ := h; obtain ⟨t2, b1, b2⟩ := r
  refine ⟨_, pss_cons a1 b1, fun G sd s R H Ed E sv rh ⟨Mid, q, m⟩ k => a2 G sd s R H _ _ sv rh q ⟨fun G1 sd1 s1 R1 H1 e1 sv1 rh1 q1 => b2 G1 sd1 s1 R1 H1 _ _ sv1 rh1 (m _ _ q1) (k.st e1), k.rt, k.bk, k.ct⟩⟩
/-- the promise with less asked -/
theorem FnG.imp {P : Program} {w : World} {K : PySem.W.Frag} {mg : Str → Option Value} {base : Heap} {CX : CXT} {k : Nat} {f : Addr} {fd : FuncData} {ps : List Str} {sp sp' : Sp} (F : FnG P w K mg base CX k f fd ps sp) (h : ∀ vs H Q E, sp' vs H Q E → sp vs H Q E) : FnG P w K mg base CX k f fd ps sp' :=
  ⟨fun vs H Q E q => F.len vs H Q E (h _ _ _ _ q), fun A g r outer s H e args us vs Q E b v q => F.go A g r outer s H e args us vs Q E b v (h _ _ _ _ q)⟩
/-- the slots as they stand: a shorthand to read one -/
theorem Room.cl {k : Nat} {A : Around} (r : Room k A) : A.units < cLine := r.units0
theorem Room.c65 {k : Nat} {A : Around} (r : Room k A) : A.units + 65 < cLine := by have := r.un; omega
end DL
namespace DL
variable [TabCtx]
open PySem PySem.Spec PyProof.Rows L2
/-! ### places -/
theorem at0 {α : Type} {a : α} {l : List α} : atI (a :: l) 0 = some a := by
  unfold atI ixN
  simp
theorem at1 {α : Type} {a b : α} {l : List α} : atI (a :: b :: l) 1 = some b := by
  have h : (1 : Int) < ((a :: b :: l).length : Nat) := by simp only [List.length_cons]; omega
  unfold atI ixN
  simp only [h, if_true, show (0 : Int) ≤ 1 by decide]
  rfl
theorem at2 {α : Type} {a b c : α} {l : List α} : atI (a :: b :: c :: l) 2 = some c := by
  have h : (2 : Int) < ((a :: b :: c :: l).length : Nat) := by simp only [List.length_cons]; omega
  unfold atI ixN
  simp only [h, if_true, show (0 : Int) ≤ 2 by decide]
  rfl
theorem ix30 : ixN 3 0 = some 0 := rfl
theorem ix31 : ixN 3 1 = some 1 := rfl
theorem ix32 : ixN 3 2 = some 2 := rfl
theorem at_map {α β : Type} (g : α → β) {l : List α} {i : Int} {a : α} (h : atI l i = some a) : atI (l.map g) i = some (g a) := by
  unfold atI at h ⊢
  rw [List.length_map]
  cases e : ixN l.length i with
  | none => rw [e] at h; cases h
  | some j => rw [e] at h; show (l.map g)[j]? = _; rw [List.getElem?_map]; have h' : l[j]? = some a := h; rw [h']; rfl
theorem at_lt {α : Type} {l : List α} {i : Int} (h0 : 0 ≤ i) (h : i < (l.length : Int)) : ∃ a, atI l i = some a ∧ a ∈ l ∧ l[i.toNat]? = some a := by
  have hi : i.toNat < l.length := by omega
  refine ⟨l[i.toNat], ?_, List.getElem_mem hi, List.getElem?_eq_getElem hi⟩
  unfold atI ixN
  simp only [h0, h, if_true]
  exact List.getElem?_eq_getElem hi
end DL
namespace DL
variable [TabCtx]
open PySem PySem.Spec PyProof.Rows L2
/-! ### readings at known values -/
section
variable {R : Rs} {Q : DK}
theorem eqS_ii {i j : Int} : rdEqS false (.int i) (.int j) R Q ↔ Q (.bl (decide (i = j))) R := by
  constructor
  · rintro ⟨u, v, h1, h2, _, q⟩; cases h1; cases h2; simpa using q
  · intro q; exact ⟨_, _, rfl, rfl, rfl, by simpa using q⟩
theorem neS_ii {i j : Int} : rdEqS true (.int i) (.int j) R Q ↔ Q (.bl (!decide (i = j))) R := by
  constructor
  · rintro ⟨u, v, h1, h2, _, q⟩; cases h1; cases h2; simpa using q
  · intro q; exact ⟨_, _, rfl, rfl, rfl, by simpa using q⟩
theorem eqS_ss {i j : Str} : rdEqS false (.str i) (.str j) R Q ↔ Q (.bl (decide (i = j))) R := by
  constructor
  · rintro ⟨u, v, h1, h2, _, q⟩; cases h1; cases h2; simpa using q
  · intro q; exact ⟨_, _, rfl, rfl, rfl, by simpa using q⟩
theorem neS_ss {i j : Str} : rdEqS true (.str i) (.str j) R Q ↔ Q (.bl (!decide (i = j))) R := by
  constructor
  · rintro ⟨u, v, h1, h2, _, q⟩; cases h1; cases h2; simpa using q
  · intro q; exact ⟨_, _, rfl, rfl, rfl, by simpa using q⟩
theorem sq_tup {xs : List D} : seqOf R (.tup xs) = some xs := rfl
theorem sq_lst {xs : List D} : seqOf R (.lst xs) = some xs := rfl
theorem sq_rls {xs : List D} : seqOf R (.rls xs) = some xs := rfl
theorem sq_ref {l : Addr} {xs : List D} (h : R l = some (.lst xs)) : seqOf R (.ref l) = some xs := seqOf_lst h
theorem lo_lst {xs : List D} : lstOf R (.lst xs) = some xs := rfl
theorem lo_rls {xs : List D} : lstOf R (.rls xs) = some xs := rfl
theorem lo_ref {l : Addr} {xs : List D} (h : R l = some (.lst xs)) : lstOf R (.ref l) = some xs := by unfold lstOf; simp [h]
theorem tr_lst {xs : List D} : trk R (.lst xs) = some xs := rfl
theorem tr_ref {l : Addr} {xs : List D} (h : R l = some (.lst xs)) : trk R (.ref l) = some xs := by unfold trk; simp [h]
theorem kb_tt : kitB "tuple" "tuple" = some true := by decide +kernel
theorem kb_st : kitB "str" "tuple" = some false := by decide +kernel
theorem kb_ss : kitB "str" "str" = some true := by decide +kernel
theorem kb_ts : kitB "tuple" "str" = some false := by decide +kernel
theorem kb_nt : kitB "NoneType" "tuple" = some false := by decide +kernel
theorem kb_bt : kitB "bool" "tuple" = some false := by decide +kernel
theorem kb_it : kitB "int" "tuple" = some false := by decide +kernel
theorem kb_lt : kitB "list" "tuple" = some false := by decide +kernel
theorem kb_ns : kitB "NoneType" "str" = some false := by decide +kernel
theorem kb_bs : kitB "bool" "str" = some false := by decide +kernel
theorem kb_is : kitB "int" "str" = some false := by decide +kernel
theorem kb_ls : kitB "list" "str" = some false := by decide +kernel
theorem isi_of {d : D} {S T : String} {b : Bool} (h1 : d.tyName R = some S) (h2 : kitB S T = some b) : rdIsi kitB [d, .ty T] R Q ↔ Q (.bl b) R := by
  constructor
  · rintro ⟨S', b', e1, e2, q⟩
    rw [h1] at e1; cases e1
    rw [h2] at e2; cases e2
    exact q
  · intro q; exact ⟨S, b, h1, h2, q⟩
theorem isi_tt {xs : List D} : rdIsi kitB [.tup xs, .ty "tuple"] R Q ↔ Q (.bl true) R := isi_of rfl kb_tt
theorem isi_st {x : Str} : rdIsi kitB [.str x, .ty "tuple"] R Q ↔ Q (.bl false) R := isi_of rfl kb_st
theorem isi_nt : rdIsi kitB [.non, .ty "tuple"] R Q ↔ Q (.bl false) R := isi_of rfl kb_nt
theorem isi_bt {x : Bool} : rdIsi kitB [.bl x, .ty "tuple"] R Q ↔ Q (.bl false) R := isi_of rfl kb_bt
theorem isi_it {x : Int} : rdIsi kitB [.int x, .ty "tuple"] R Q ↔ Q (.bl false) R := isi_of rfl kb_it
theorem isi_lt {x : List D} : rdIsi kitB [.lst x, .ty "tuple"] R Q ↔ Q (.bl false) R := isi_of rfl kb_lt
theorem isi_ts {xs : List D} : rdIsi kitB [.tup xs, .ty "str"] R Q ↔ Q (.bl false) R := isi_of rfl kb_ts
theorem isi_ss {x : Str} : rdIsi kitB [.str x, .ty "str"] R Q ↔ Q (.bl true) R := isi_of rfl kb_ss
theorem isi_ns : rdIsi kitB [.non, .ty "str"] R Q ↔ Q (.bl false) R := isi_of rfl kb_ns
theorem isi_bs {x : Bool} : rdIsi kitB [.bl x, .ty "str"] R Q ↔ Q (.bl false) R := isi_of rfl kb_bs
theorem isi_is {x : Int} : rdIsi kitB [.int x, .ty "str"] R Q ↔ Q (.bl false) R := isi_of rfl kb_is
theorem isi_ls {x : List D} : rdIsi kitB [.lst x, .ty "str"] R Q ↔ Q (.bl false) R := isi_of rfl kb_ls
end
end DL
namespace DL
variable [TabCtx]
open PySem PySem.Spec PyProof.Rows L2
theorem sz0 : (0 ≤ sizeLine) = True := eq_true (by decide)
theorem sz1 : (1 ≤ sizeLine) = True := eq_true (by decide)
theorem sz2 : (2 ≤ sizeLine) = True := eq_true (by decide)
theorem sz3 : (3 ≤ sizeLine) = True := eq_true (by decide)
theorem sz4 : (4 ≤ sizeLine) = True := eq_true (by decide)
theorem sz5 : (5 ≤ sizeLine) = True := eq_true (by decide)
theorem sz6 : (6 ≤ sizeLine) = True := eq_true (by decide)
theorem sl0 : (0 < sizeLine) = True := eq_true (by decide)
theorem sl1 : (1 < sizeLine) = True := eq_true (by decide)
theorem sl2 : (2 < sizeLine) = True := eq_true (by decide)
theorem ty_put {R : Rs} {p : Addr} {xs : List D} : TyD "list" (.ref p) (put R p (.lst xs)) = True := eq_true (.inl ⟨rfl, xs, put_same⟩)
theorem ty_str {R : Rs} {x : Str} : TyD "str" (.str x) R = True := eq_true rfl
theorem lo_put {R : Rs} {l : Addr} {xs : List D} : lstOf (put R l (.lst xs)) (.ref l) = some xs := lo_ref put_same
theorem sq_put {R : Rs} {l : Addr} {xs : List D} : seqOf (put R l (.lst xs)) (.ref l) = some xs := sq_ref put_same
theorem tr_put {R : Rs} {l : Addr} {xs : List D} : trk (put R l (.lst xs)) (.ref l) = some xs := tr_ref put_same
theorem put_comm {R : Rs} {a b : Addr} {o u : RO} (h : a ≠ b) : put (put R a o) b u = put (put R b u) a o := by
  funext x
  unfold put
  by_cases h1 : x = a
  · by_cases h2 : x = b
    · exact absurd (h1.symm.trans h2) h
    · rw [if_neg h2, if_pos h1, if_pos h1]
  · by_cases h2 : x = b
    · rw [if_pos h2, if_neg h1, if_pos h2]
    · rw [if_neg h2, if_neg h1, if_neg h1, if_neg h2]
end DL
namespace DL
variable [TabCtx]
theorem app1_empty {α : Type} {xs : List α} {y : α} : (xs ++ [y]).isEmpty = false := by cases xs <;> rfl
end DL
namespace DL
variable [TabCtx]
open PySem PySem.Spec PyProof.Rows L2
theorem fnG_none {P : Program} {w : World} {K : KB} {mg : Str → Option Value} {base : Heap} {CX : CXT} {k : Nat} {f : Addr} {fd : FuncData} {ps : List Str} {dsp : DSp} (h : ∀ ds R Q E, ¬ dsp ds R Q E) : FnG P w K mg base CX k f fd ps (spOf K dsp) :=
  ⟨fun vs H Q E ⟨G, ds, R, Qd, Ed, _, _, q, _⟩ => absurd q (h _ _ _ _), fun A _ _ outer s H _ args us vs Q E _ _ ⟨G, ds, R, Qd, Ed, _, _, q, _⟩ => absurd q (h _ _ _ _)⟩
theorem cut_drop {xs : List D} {k : Int} (h0 : 0 ≤ k) (h : k ≤ (xs.length : Int)) : cutD xs (some k) none = xs.drop k.toNat := by
  unfold cutD
  have e1 : HT.sIx xs.length xs.length none = xs.length := rfl
  have e2 : HT.sIx xs.length 0 (some k) = k.toNat := by
    unfold HT.sIx
    simp only []
    split <;> omega
  rw [e1, e2]
  rw [List.take_of_length_le]
  rw [List.length_drop]
  exact Nat.le_refl _
end DL
end
section
set_option Elab.async false
set_option maxRecDepth 100000
set_option linter.all false
set_option autoImplicit false
/-! DL8: names drawn by the laws (plain) -/
namespace DL
open PySem PySem.Spec PyProof.Rows L2 TL
variable [TabCtx]
def Let (c : Nat) : Prop := 97 ≤ c ∧ c ≤ 122
def Stem (st : Str) : Prop := (∀ c ∈ tl st, Let c) ∧ ((tl st).length ≤ 2 ∨ tl st = [122, 122, 122, 122, 122])
def Nm (x : Str) : Prop := ∃ (st : Str) (c : Nat), Stem st ∧ Let c ∧ tl x = tl st ++ [c]
def NmS (xs : List Str) (n : Nat) : Prop := xs.length = n ∧ xs.Nodup ∧ ∀ x ∈ xs, Nm x
abbrev abc : Str := "abcdefghijklmnopqrstuvwxyz"
theorem tl_abc : tl abc = (List.range 26).map (97 + ·) := by decide +kernel
def lstr (c : Nat) : Str := ⟨#[c]⟩
theorem len_tl (x : Str) : x.length = (tl x).length := by show x.cps.size = x.cps.toList.length; simp
theorem Stem.len {st : Str} (h : Stem st) : st.length ≤ 5 := by
  rw [len_tl]
  rcases h.2 with h | h
  · omega
  · rw [h]; decide
theorem Nm.len {x : Str} (h : Nm x) : 1 ≤ x.length ∧ x.length ≤ 6 := by
  obtain ⟨st, c, hs, _, e⟩ := h
  have := hs.len
  rw [len_tl] at this ⊢
  rw [e, List.length_append]
  simp only [List.length_singleton]
  omega
/-- the k-th name -/
def nth (st : Str) (a p : Int) (k : Nat) : Str := st ++ lstr (97 + ((a + p * (k : Int)) % 26).toNat)
end DL
end
section
set_option autoImplicit false
/-! TrA: trees, turns (plain) -/
namespace TrA
inductive Tr (α : Type) where
  | leaf (x : α)
  | node (l r : Tr α)
  deriving DecidableEq
section
variable {α : Type}
open Tr
def size : Tr α → Nat
  | leaf _ => 1
  | node l r => size l + size r
def height : Tr α → Nat
  | leaf _ => 0
  | node l r => max (height l) (height r) + 1
def leaves : Tr α → List α
  | leaf x => [x]
  | node l r => leaves l ++ leaves r
def turnsL : Tr α → Tr α → List (Tr α)
  | node a b, r => [node a (node b r)]
  | leaf _, _ => []
def turnsR : Tr α → Tr α → List (Tr α)
  | l, node a b => [node (node l a) b]
  | _, leaf _ => []
def turnsAt : Tr α → List (Tr α)
  | leaf _ => []
  | node l r => turnsL l r ++ turnsR l r
def turns : Tr α → List (Tr α)
  | leaf _ => []
  | node l r => (turns l).map (fun x => node x r) ++ (turns r).map (fun x => node l x) ++ turnsAt (node l r)
/-- a number that every turn changes -/
def rho : Tr α → Nat
  | leaf _ => 0
  | node l r => rho l + rho r + size r
/-! ### the search that is_turn makes -/
variable [DecidableEq α]
def mTurn : Tr α → Tr α → Bool
  | node l r, node a b => if node l r = node a b then false else if node a b ∈ turnsAt (node l r) then true else if l = a then mTurn r b else if r = b then mTurn l a else false
  | _, _ => false
end
/-! ### a tree put back into what stands around it -/
section
variable {α : Type}
open Tr
def grow : Tr α → List (Bool × Tr α) → Tr α
  | t, [] => t
  | t, (b, o) :: w => grow (if b = true then node o t else node t o) w
end
/-! ### all bracketings of a row -/
section
variable {α : Type}
open Tr
def treesF : Nat → List α → List (Tr α)
  | 0, _ => []
  | n + 1, row => match row with
    | [] => []
    | [x] => [leaf x]
    | row => (List.range (row.length - 1)).flatMap fun k => (treesF n (row.take (k + 1))).flatMap fun l => (treesF n (row.drop (k + 1))).map fun r => node l r
def trees (row : List α) : List (Tr α) := treesF row.length row
end
end TrA
namespace TrA
section
variable {α : Type}
open Tr
def catF : Nat → Nat → Nat
  | 0, _ => 0
  | n + 1, m => if m ≤ 1 then m else ((List.range (m - 1)).map fun k => catF n (k + 1) * catF n (m - (k + 1))).sum
/-! ### a leaf replaced -/
def ren (x : α) : Tr α → Int → Tr α × Nat
  | leaf y, p => (if p = 0 then leaf x else leaf y, 1)
  | node l r, p => (node (ren x l p).1 (ren x r (p - (ren x l p).2)).1, (ren x l p).2 + (ren x r (p - (ren x l p).2)).2)
end
end TrA
end
section
set_option Elab.async false
set_option maxRecDepth 100000
set_option linter.all false
set_option autoImplicit false
/-! DL9: trees of names as data -/
namespace DL
open PySem PySem.Spec PyProof.Rows L2 TL TrA
open TrA.Tr
variable [TabCtx]
abbrev T := Tr Str
def td : T → D
  | leaf x => .str x
  | node l r => .tup [td l, td r]
theorem Nm.all {x : Str} (h : Nm x) : ∀ c ∈ tl x, Let c := by
  obtain ⟨st, c, hs, hc, e⟩ := h
  intro d hd
  rw [e] at hd
  rcases List.mem_append.mp hd with z | z
  · exact hs.1 d z
  · have : d = c := by simpa using z
    rw [this]; exact hc
theorem Nm.ok {x : Str} (h : Nm x) : PyData.strOk x = true := by
  have h1 := h.all
  unfold PyData.strOk
  rw [← Array.all_toList, List.all_eq_true]
  intro c hc
  have := h1 c hc
  unfold Let at this
  simp only [decide_eq_true_eq]
  omega
def NT (t : T) : Prop := ∀ x ∈ leaves t, Nm x
theorem NT.l {l r : T} (h : NT (node l r)) : NT l := fun x hx => h x (List.mem_append_left _ hx)
theorem NT.r {l r : T} (h : NT (node l r)) : NT r := fun x hx => h x (List.mem_append_right _ hx)
/-- isinstance(t, tuple) -/
def isNode : T → Bool
  | leaf _ => false
  | node _ _ => true
end DL
end
section
set_option Elab.async false
set_option linter.all false
set_option maxRecDepth 100000
set_option maxHeartbeats 4000000
set_option autoImplicit false
/-! DLA: more rules: a target list that takes a list apart, a tuple times an int. -/
namespace DL
open PySem PySem.Spec PyProof.Rows L2
variable [TabCtx]
section
variable {X : CxF} {es : List Expr} {pos : Pos}
def dgLst (n : Nat) (t : DTGs) : DTG := fun d s R Q => ∃ ds, trk R d = some ds ∧ ds.length = n ∧ t ds s R Q
end
/-- no tables of code objects are told -/
def noTabs : TabCtx := ⟨fun _ => none⟩
/-- the law's script, as the row hands it -/
theorem vals_int {K : PySem.W.Frag} {G : Hp} : ∀ ns : List Int, DVs K G (ns.map D.int) (ns.map V.int)
  | [] => .nil
  | _ :: ns => .cons (.int _) (vals_int ns)
theorem script_okG {K : KB} {dsp : DSp} {G H : Hp} {a : Addr} {ns : List Int} (h : ∀ (R : Rs) (Ed : DXK), dsp [.rls (ns.map D.int)] R (fun d _ => d = .bl true) Ed) (hg : Same G H) (hb : K.B.p G (fun _ => none) H) (hS : SqL K G a (ns.map V.int)) : spOf K dsp [.ref a] H (fun v _ => v = .bl true) (fun _ _ _ => False) :=
  ⟨G, _, fun _ => none, _, fun _ _ _ => False, .cons (.rls hS (vals_int ns)) .nil, ⟨hg, fun a ro e => (by cases e), trivial, hb⟩, h _ _, fun G1 R1 H1 d v e1 rh1 dv1 q1 => by subst q1; cases dv1; rfl, fun _ _ _ _ _ _ _ _ _ z => z⟩
theorem take_step {α β : Type} {l : List α} {c : α → β} {i : Nat} {x : β} (hx : (l.map c)[i]? = some x) : ∃ v, x = c v ∧ v ∈ l ∧ l[i]? = some v ∧ l.take (i + 1) = l.take i ++ [v] := by
  rw [List.getElem?_map] at hx
  cases hv : l[i]? with
  | none => rw [hv] at hx; cases hx
  | some v =>
    rw [hv] at hx
    cases hx
    exact ⟨v, rfl, List.mem_of_getElem? hv, rfl, by rw [List.take_succ, hv]; rfl⟩
theorem range_step {n i : Nat} {x : D} {c : Nat → D} (hx : ((List.range n).map c)[i]? = some x) : x = c i ∧ i < n := by
  obtain ⟨v, rfl, hv, hi, _⟩ := take_step hx
  have hl : i < n := by
    obtain ⟨z, _⟩ := List.getElem?_eq_some_iff.mp hi
    simpa using z
  rw [List.getElem?_range hl] at hi
  cases hi
  exact ⟨rfl, hl⟩
end DL
end
section
set_option Elab.async false
set_option linter.all false
set_option maxRecDepth 100000
set_option maxHeartbeats 4000000
set_option autoImplicit false
/-! DLS: sorted(set(texts)), len(set(texts)). -/
namespace DL
open PySem PySem.Spec PyProof.Rows L2 PySem.Froz
variable [TabCtx]
abbrev kTx (e : Int × Value) : Str := strOf e.2
/-- the payload of a set of texts that can be walked -/
structure TS (P : Program) (w : World) (D : SD) (l : List Str) : Prop where
  ok : TxOk P w D l
  nd : l.Nodup
  ks : (D.1.toList.map kTx).Perm l
  vs : ∀ e ∈ D.1.toList, ∃ x u, e.2 = Value.str x u
  ris : Ris D.2.2.place.toList
  led : w.params.followText "set-order" = true ∨ D.2.2.led = true
section
variable {P : Program} {w : World} {A : Around} {E : Value → Shared → Prop} {s : Shared}
theorem TS.new : TS P w (#[], 0, .fresh 0 0 (!w.params.followText "set-order")) [] where
  ok := TxOk.nil rfl
  nd := List.nodup_nil
  ks := List.Perm.refl _
  vs := fun e he => by simp at he
  ris := List.Pairwise.nil
  led := by
    show _ ∨ (!w.params.followText "set-order") = true
    cases w.params.followText "set-order" with
    | false => exact .inr rfl
    | true => exact .inl rfl
theorem TS.add {D : SD} {l : List Str} {k : Str} (u : Tok) (T : TS P w D l) (hk : k ∉ l) : TS P w (addTx (hashStr w k) (.str k u) D) (k :: l) := by
  obtain ⟨es, ep, t⟩ := D
  have lp := layNew_perm t es (hashStr w k) (.str k u)
  have lr := layNew_ris t es (hashStr w k) (.str k u) T.ris
  have ll := layNew_led t es (hashStr w k) (.str k u)
  have F := add_ok u T.ok (k := k)
  have tks := T.ks; have tvs := T.vs; have tled := T.led
  unfold addTx tailTx at F ⊢
  dsimp only at F lp lr ll tks tvs tled ⊢
  generalize layNew t es (hashStr w k) (.str k u) = L at F lp lr ll ⊢
  obtain ⟨e1, t1, d1, g1⟩ := L
  dsimp only at F lp lr ll ⊢
  rw [Array.toList_push] at lp
  have p1 : (e1.toList.map kTx).Perm (k :: l) := (lp.map kTx).trans (by
    rw [List.map_append]
    exact (List.perm_append_singleton _ _).trans (tks.cons k))
  have v1 : ∀ e ∈ e1.toList, ∃ x u, e.2 = Value.str x u := fun e he => by
    rcases List.mem_append.mp (lp.mem_iff.mp he) with z | z
    · exact tvs e z
    · rw [List.mem_singleton.mp z]; exact ⟨k, u, rfl⟩
  have r2 : Ris (if t1.plain = true then { t1 with plain := false } else t1).place.toList := by split <;> exact lr
  have l2 : w.params.followText "set-order" = true ∨ (if t1.plain = true then { t1 with plain := false } else t1).led = true := by
    rcases tled with z | z
    · exact .inl z
    · refine .inr ?_
      rw [← ll] at z
      split <;> exact z
  generalize (if t1.plain = true then { t1 with plain := false } else t1) = t2 at F r2 l2 ⊢
  refine ⟨F, List.nodup_cons.mpr ⟨hk, T.nd⟩, ?_, ?_, ?_, ?_⟩ <;> split
  · exact ((relayAll_perm t2 e1 _).map kTx).trans p1
  · exact p1
  · exact fun e he => v1 e ((relayAll_perm t2 e1 _).mem_iff.mp he)
  · exact v1
  · exact relayAll_ris t2 e1 _
  · exact r2
  · exact l2.imp id fun z => by rw [relayAll_led]; exact z
  · exact l2
end
section
variable {P : Program} {w : World} {A : Around} {R : Result → Shared → Prop} {I : Addr} {fp wr : List Addr} {G : Array GenState → Array GenState → Prop} {n : Nat} {Pv : Nat → Value → Prop} {St : Nat → Shared → Prop}
/-- what the loop has gathered -/
def Gat (P : Program) (w : World) (S : Addr) (xs : List Str) (i : Nat) (s : Shared) : Prop := ∃ D l, s.heap.get? S = some (sObj "set" D) ∧ TS P w D l ∧ l.length ≤ i ∧ ∀ x, x ∈ l ↔ x ∈ xs.take i
end
section
variable {P : Program} {w : World} {A : Around} {E : Value → Shared → Prop} {s : Shared}
abbrev newSet (w : World) : Obj := { cls := .type "set", dict := none, data := .set #[] 0 (.fresh 0 0 (!w.params.followText "set-order")) }
/-- the set at a holds the texts of xs -/
def SetTx (P : Program) (w : World) (a : Addr) (xs : List Str) (h : Heap) : Prop := ∃ D l, h.get? a = some (sObj "set" D) ∧ TS P w D l ∧ l.length ≤ xs.length ∧ ∀ x, x ∈ l ↔ x ∈ xs
end
end DL
namespace DL
variable [TabCtx]
open PySem PySem.Spec PyProof.Rows L2 PySem.Froz
/-- sorted(set(xs)), xs a list of fewer than 64 texts -/
def tSortSet (K : PySem.W.Frag) (ta : TE) : TE := fun σ H Q => ta σ H fun x H1 => ∃ l, ∃ xs : List Str, x = .ref l ∧ SqL K H1 l (xs.map V.str) ∧ xs.length < 64 ∧
  ∀ (ys : List Str) (p : Addr), ys.Nodup → (∀ y, y ∈ ys ↔ y ∈ xs) → sortedS ys = true → H1 p = none → Q (.ref p) (upd H1 p (.lst (ys.map V.str)))
section
variable {X : CxF} {a : Expr} {p p2 q pos : Pos}
def dSortSet (t : DTE) : DTE := fun s R Q => t s R fun d R1 => ∃ xs : List Str, trk R1 d = some (xs.map D.str) ∧ xs.length < 64 ∧ ∀ ys : List Str, ys.Nodup → (∀ y, y ∈ ys ↔ y ∈ xs) → sortedS ys = true → Q (.lst (ys.map D.str)) R1
end
end DL
end
section
set_option Elab.async false
set_option linter.all false
set_option maxRecDepth 100000
set_option maxHeartbeats 4000000
set_option autoImplicit false
/-! DLR: what repr tells of trees; sorted lists of texts. -/
namespace DL
open PySem PySem.Spec PyProof.Rows L2 TL TrA
open TrA.Tr
variable [TabCtx]
theorem reprC : ∀ c, Let c → PySem.Builtin.Str.reprChar 39 c = [c] := by
  have h : ((List.range 26).all fun i => PySem.Builtin.Str.reprChar 39 (97 + i) == [97 + i]) = true := by decide +kernel
  intro c ⟨h1, h2⟩
  have := List.all_eq_true.mp h (c - 97) (List.mem_range.mpr (by omega))
  have e : 97 + (c - 97) = c := by omega
  rw [e] at this
  exact beq_iff_eq.mp this
theorem fold_rep (l : List Nat) (hl : ∀ c ∈ l, Let c) : ∀ acc : Array Nat, (l.foldl (fun out c => out ++ (PySem.Builtin.Str.reprChar 39 c).toArray) acc).toList = acc.toList ++ l := by
  induction l with
  | nil => intro acc; simp
  | cons c l ih =>
    intro acc
    rw [List.foldl_cons, ih (fun d hd => hl d (List.mem_cons_of_mem _ hd)), reprC c (hl c List.mem_cons_self)]
    simp
theorem tl_repr {x : Str} (h : ∀ c ∈ tl x, Let c) : tl (reprText x) = 39 :: (tl x ++ [39]) := by
  have q : reprQuote x = 39 := by
    unfold reprQuote
    rw [if_neg]
    intro z
    have z1 := (Bool.and_eq_true_iff.mp z).1
    have z2 : 39 ∈ tl x := by
      have := Array.contains_iff.mp z1
      exact Array.mem_toList_iff.mpr this
    have := h 39 z2
    unfold Let at this
    omega
  show (reprText x).cps.toList = _
  unfold reprText
  rw [q, Array.toList_push, ← Array.foldl_toList]
  have e := fold_rep x.cps.toList h #[39]
  rw [e]
  show ([39] ++ tl x) ++ [39] = _
  simp
theorem Nm.lets {x : Str} (h : Nm x) : ∀ c ∈ tl x, Let c := by
  obtain ⟨st, c, hs, hc, e⟩ := h
  intro d hd
  rw [e] at hd
  rcases List.mem_append.mp hd with z | z
  · exact hs.1 d z
  · have : d = c := by simpa using z
    rw [this]; exact hc
/-- the signs that repr shows of a tree -/
def sh : T → List Nat
  | leaf x => 39 :: (tl x ++ [39])
  | node l r => 40 :: (sh l ++ (44 :: 32 :: (sh r ++ [41])))
def shT (t : T) : Str := (td t).py.shown
/-! ### sorted lists of texts -/
abbrev leS (a b : Str) : Prop := tl a ≤ tl b
end DL
end
section
set_option Elab.async false
set_option linter.all false
set_option maxRecDepth 100000
set_option maxHeartbeats 4000000
set_option autoImplicit false
/-! DLT: a, *b = tuple; a name of the module that holds a value. -/
namespace DL
open PySem PySem.Spec PyProof.Rows L2
variable [TabCtx]
section
variable {P : Program} {w : World} {A : Around} {E : Value → Shared → Prop} {s : Shared}
end
/-- (a, *b) = a tuple of one item at least -/
def gStar (K : PySem.W.Frag) (t : TGs) : TG := fun v σ H Q => ∃ a x xs, v = .ref a ∧ SqT K H a (x :: xs) ∧ xs.length ≤ 16000 ∧ ∀ p, H p = none → t [x, .ref p] σ (upd H p (.lst xs)) Q
section
variable {X : CxF} {e e1 e2 : Expr} {es : List Expr} {p pos : Pos} {k : Nat}
/-! the same over plain data; b never changes -/
def dgStar (t : DTGs) : DTG := fun d s R Q => ∃ x xs, d = .tup (x :: xs) ∧ xs.length ≤ 16000 ∧ t [x, .lst xs] s R Q
/-- a name of the module that holds a value -/
def GC (K : PySem.W.Frag) (mg : Str → Option Value) (x : Str) (d : D) : Prop := ∃ u v, mg x = some u ∧ RelV v u ∧ ∀ G, DV K G d v
theorem de_glob {x : Str} {d : D} (c : GC X.K X.mg x d) (hg : Gl X x) (hd : (x == ("__debug__" : Str)) = false := by decide) : DE X (.Name x pos) (dC d) := by
  obtain ⟨u, v, h1, h2, h3⟩ := c
  exact ⟨_, pe_glob hg h1 h2 hd, fun G sd s R H Qd Q sv rh q k => k G R H d v (Stp.refl G R H) rh (h3 G) q⟩
theorem GC.str {K : PySem.W.Frag} {mg : Str → Option Value} {x y : Str} {t : Tok} (h : mg x = some (.str y t)) : GC K mg x (.str y) := ⟨_, .str y, h, ⟨t, rfl⟩, fun _ => .str y⟩
theorem GC.int {K : PySem.W.Frag} {mg : Str → Option Value} {x : Str} {i : Int} {t : Tok} (h : mg x = some (.int i t)) : GC K mg x (.int i) := ⟨_, .int i, h, ⟨t, rfl⟩, fun _ => .int i⟩
theorem vals_strs_of : ∀ {vs : List Value} {xs : List Str}, StrsAre vs xs → Vals (xs.map V.str) vs
  | _, _, .nil => .nil
  | _, _, .cons y t r => .cons ⟨t, rfl⟩ (vals_strs_of r)
theorem GC.strs {K : PySem.W.Frag} {mg : Str → Option Value} {x : Str} {a : Addr} {o : Obj} {its : Array Value} {n : Nat} {xs : List Str} (h : mg x = some (.ref a)) (hl : K.lookup a = some o) (hc : o.cls = .type "tuple") (hd : o.data = .seq its n) (hi : StrsAre its.toList xs) (hz : xs.length ≤ 1000) : GC K mg x (.tup (xs.map D.str)) :=
  ⟨_, .ref a, h, rfl, fun G => .tup (.inr ⟨o, its, n, hl, hc, hd, by have := hi.len_eq; rw [Array.length_toList] at this; rw [this, sizeLine_eq]; omega, vals_strs_of hi⟩) (DVs.ofStrs xs)⟩
end
end DL
end
section
set_option Elab.async false
set_option maxRecDepth 100000
set_option linter.all false
set_option autoImplicit false
/-! DLB: small data: what repr, ==, in need of a value -/
namespace DL
open PySem PySem.Spec PyProof.Rows L2
variable [TabCtx]
structure Sm (h w : Nat) (d : D) : Prop where
  pl : d.plain = true
  lay : d.py.canLay0 = true
  it : d.py.intsShort 13 = true
  dep : d.py.depth ≤ h
  wei : d.py.weight ≤ w
structure Sms (h w : Nat) (ds : List D) : Prop where
  pl : D.plains ds = true
  lay : PyData.canLayAll0 (D.pys ds) = true
  it : PyData.intsShortAll 13 (D.pys ds) = true
  dep : PyData.depthAll (D.pys ds) ≤ h
  wei : PyData.weightAll (D.pys ds) ≤ w
section
variable {h w h' w' : Nat} {d e : D} {ds : List D} {R : Rs} {Q : DK}
theorem Sm.mono (a : Sm h w d) (h1 : h ≤ h') (h2 : w ≤ w') : Sm h' w' d := ⟨a.pl, a.lay, a.it, Nat.le_trans a.dep h1, Nat.le_trans a.wei h2⟩
theorem Sms.mono (a : Sms h w ds) (h1 : h ≤ h') (h2 : w ≤ w') : Sms h' w' ds := ⟨a.pl, a.lay, a.it, Nat.le_trans a.dep h1, Nat.le_trans a.wei h2⟩
theorem Sms.nil : Sms h w [] := ⟨rfl, by simp [D.pys, PyData.canLayAll0], by simp [D.pys, PyData.intsShortAll], by simp [D.pys, PyData.depthAll], by simp [D.pys, PyData.weightAll]⟩
theorem Sms.cons (a : Sm h w d) (b : Sms h w' ds) : Sms h (w + 1 + w') (d :: ds) := ⟨by rw [D.plains, a.pl, b.pl]; rfl, by rw [D.pys, PyData.canLayAll0, a.lay, b.lay]; rfl, by rw [D.pys, PyData.intsShortAll, a.it, b.it]; rfl,
  by rw [D.pys, PyData.depthAll]; have := a.dep; have := b.dep; omega, by rw [D.pys, PyData.weightAll]; have := a.wei; have := b.wei; omega⟩
theorem Sms.all : ∀ {ds : List D}, (∀ d ∈ ds, Sm h w d) → Sms h ((w + 1) * ds.length) ds
  | [], _ => Sms.nil
  | d :: ds, q => (Sms.cons (q d (by simp)) (Sms.all fun e he => q e (by simp [he]))).mono (Nat.le_refl _) (by rw [List.length_cons, Nat.mul_succ]; omega)
theorem Sm.tup (a : Sms h w ds) : Sm (h + 1) w (.tup ds) := ⟨by rw [D.plain]; exact a.pl, by rw [D.py, PyData.canLay0]; exact a.lay, by rw [D.py, PyData.intsShort]; exact a.it, by rw [D.py, PyData.depth]; have := a.dep; omega, by rw [D.py, PyData.weight]; exact a.wei⟩
theorem Sm.lst (a : Sms h w ds) : Sm (h + 1) w (.lst ds) := ⟨by rw [D.plain]; exact a.pl, by rw [D.py, PyData.canLay0]; exact a.lay, by rw [D.py, PyData.intsShort]; exact a.it, by rw [D.py, PyData.depth]; have := a.dep; omega, by rw [D.py, PyData.weight]; exact a.wei⟩
theorem Sm.non : Sm h w .non := ⟨rfl, rfl, rfl, by simp [D.py, PyData.depth], by simp [D.py, PyData.weight]⟩
theorem Sm.bl (b : Bool) : Sm h w (.bl b) := ⟨rfl, rfl, rfl, by simp [D.py, PyData.depth], by simp [D.py, PyData.weight]⟩
theorem Sm.str {x : Str} (a : PyData.strOk x = true) (b : x.length ≤ w) : Sm h w (.str x) := ⟨rfl, by rw [D.py, PyData.canLay0]; exact a, rfl, by simp [D.py, PyData.depth], by rw [D.py, PyData.weight]; exact b⟩
theorem Sm.asPy (a : Sm h w d) : AsPy R d d.py := .inl ⟨a.pl, rfl⟩
theorem Sm.shaped (a : Sm h w d) (h1 : h ≤ 64) : SeqAt.shaped d.py = true := by
  show (d.py.canLay0 && decide (d.py.depth ≤ 64)) = true
  rw [a.lay, decide_eq_true (Nat.le_trans a.dep h1)]; rfl
end
mutual
/-- ints below 2 ^ 1920 -/
def D.sh : D → Bool
  | .int i => decide (i.natAbs.log2 < 1920)
  | .tup xs => D.shs xs
  | .lst xs => D.shs xs
  | .rls xs => D.shs xs
  | _ => true
def D.shs : List D → Bool
  | [] => true
  | x :: xs => x.sh && D.shs xs
end
mutual
theorem weight_log : ∀ d : D, d.py.weight ≤ 1900 → d.py.showable = true
  | .non, _ => by simp [D.py, PyData.showable]
  | .bl _, _ => by simp [D.py, PyData.showable]
  | .str _, _ => by simp [D.py, PyData.showable]
  | .ty _, _ => by simp [D.py, PyData.showable]
  | .ref _, _ => by simp [D.py, PyData.showable]
  | .int i, h => by
    simp only [D.py, PyData.showable, PyData.weight] at h ⊢
    rw [decide_eq_true_eq]
    by_cases z : i = 0
    · subst z; decide
    · rw [if_neg (by simpa using z)] at h; omega
  | .tup xs, h => by simp only [D.py, PyData.showable, PyData.weight] at h ⊢; exact weight_logs xs h
  | .lst xs, h => by simp only [D.py, PyData.showable, PyData.weight] at h ⊢; exact weight_logs xs h
  | .rls xs, h => by simp only [D.py, PyData.showable, PyData.weight] at h ⊢; exact weight_logs xs h
  | .ins _ _ _, _ => by simp [D.py, PyData.showable]
  | .dK _ _, _ => by simp [D.py, PyData.showable]
  | .dT _ _, _ => by simp [D.py, PyData.showable]
  | .lam _, _ => by simp [D.py, PyData.showable]
theorem weight_logs : ∀ ds : List D, PyData.weightAll (D.pys ds) ≤ 1900 → PyData.showableAll (D.pys ds) = true
  | [], _ => by simp [D.pys, PyData.showableAll]
  | d :: ds, h => by
    simp only [D.pys, PyData.showableAll, PyData.weightAll] at h ⊢
    rw [weight_log d (by omega), weight_logs ds (by omega)]; rfl
end
section
variable {h w h' w' : Nat} {d e : D} {ds : List D} {R : Rs} {Q : DK}
theorem Sm.repr (a : Sm h w d) (h1 : h ≤ 64) (h2 : w ≤ 1900) (q : Q (.str d.py.shown) R) : ∃ p, AsPy R d p ∧ p.showable = true ∧ p.depth ≤ 190 ∧ p.shown.length ≤ sizeLine ∧ Q (.str p.shown) R := by
  refine ⟨_, a.asPy, weight_log d (Nat.le_trans a.wei h2), by have := a.dep; omega, ?_, q⟩
  have hl : d.py.layable0 = true := by
    show (PyData.canLay0 d.py && decide (PyData.depth d.py ≤ 64) && decide (PyData.weight d.py ≤ 2 ^ 20)) = true
    have := a.dep; have := a.wei
    rw [a.lay, decide_eq_true (by omega), decide_eq_true (by omega)]; rfl
  have := shown_le13 hl a.it
  rw [sizeLine_eq]; omega
theorem Sm.r1 (a : Sm h w d) (h2 : w ≤ 1900 := by omega) : d.py.showable = true := weight_log d (Nat.le_trans a.wei h2)
theorem Sm.r2 (a : Sm h w d) (h1 : h ≤ 64 := by omega) : d.py.depth ≤ 190 := by have := a.dep; omega
theorem Sm.r3 (a : Sm h w d) (h1 : h ≤ 64 := by omega) (h2 : w ≤ 1900 := by omega) : d.py.shown.length ≤ sizeLine := by
  have hl : d.py.layable0 = true := by
    show (PyData.canLay0 d.py && decide (PyData.depth d.py ≤ 64) && decide (PyData.weight d.py ≤ 2 ^ 20)) = true
    have := a.dep; have := a.wei
    rw [a.lay, decide_eq_true (by omega), decide_eq_true (by omega)]; rfl
  have := shown_le13 hl a.it
  rw [sizeLine_eq]; omega
theorem Sm.eq (a : Sm h w d) (b : Sm h' w' e) (h1 : h ≤ 64) (h2 : h' ≤ 64) (q : Q (.bl (PyData.eqv d.py e.py)) R) : rdEqD false d e R Q := ⟨_, _, a.asPy, b.asPy, a.shaped h1, b.shaped h2, q⟩
theorem Sm.ne (a : Sm h w d) (b : Sm h' w' e) (h1 : h ≤ 64) (h2 : h' ≤ 64) (q : Q (.bl (!PyData.eqv d.py e.py)) R) : rdEqD true d e R Q := ⟨_, _, a.asPy, b.asPy, a.shaped h1, b.shaped h2, q⟩
theorem Sm.eqv (a : Sm h w d) : PyData.eqv d.py d.py = true := SeqAt.eqv_refl _ a.lay
theorem Sm.neSelf (a : Sm h w d) (h1 : h ≤ 64) (q : Q (.bl false) R) : rdEqD true d d R Q := a.ne a h1 h1 (by rw [a.eqv]; exact q)
/-- a comprehension that maps, leaving what may change -/
def PvM {α : Type} (l : List α) (g : α → D) (R : Rs) (i : Nat) (acc : List D) (R' : Rs) : Prop := R' = R ∧ acc = (l.take i).map g
theorem PvM.go {α : Type} {l : List α} {g : α → D} {R : Rs} {i : Nat} {v : α} (e : l.take (i + 1) = l.take i ++ [v]) : PvM l g R (i + 1) ((l.take i).map g ++ [g v]) R := ⟨rfl, by rw [e, List.map_append]; rfl⟩
theorem PvM.end {α : Type} {l : List α} {g : α → D} {R R' : Rs} {n : Nat} {acc : List D} (h : PvM l g R n acc R') (hn : n = l.length) : R' = R ∧ acc = l.map g := ⟨h.1, by rw [h.2, hn, List.take_length]⟩
end
end DL
end
section
set_option Elab.async false
set_option maxRecDepth 100000
set_option maxHeartbeats 2000000
set_option linter.all false
set_option autoImplicit false
/-! DLX1: own exceptions with one field, laid by their __init__ -/
namespace PySem
namespace LX
open PySem.W PySem.Calls PyProof.Rows PySem.HandSPX Builtin Builtin.ObjectAttr
/-- self.name = v on an exception without a dict; its class stands straight over a built-in one -/
theorem exc_osa {prog : Program} {w : World} {A : Around} {R : Result → Shared → Prop} {hp : Heap} {g : Array GenState} {d : Drawn} {t : Nat} {os : OsState} {K : W.Frag} {name : Str} {tk : Tok} {v : Value} {x C : Addr} {fv : Array Value} {cd : ClassData} {bm : List Value}
    (X : K.In hp) (hx : hp.get? x = some { cls := .ref C, data := .fields fv }) (hcd : W.clsIn K C = some cd) (hm : cd.mro = .ref C :: bm) (hpass : ∀ self, refuseLoop self "__setattr__" bm = pure ()) (hobj : bm.contains (.type "object") = true) (hh : cd.hasDict = true) (ha : W.findIn K (.ref C) name = some none)
    (hq : ∀ h' tk' dx, (∀ b o, b ≠ x → hp.get? b = some o → h'.get? b = some o) → hp.objs.size ≤ dx → dx ≠ x → h'.get? x = some { cls := .ref C, dict := some dx, data := .fields fv } →
      h'.Ns1 dx (fun y => if y = name then some v else none) → R (.ok (.ret .none)) ⟨h', g, d, tk', os⟩) :
    codeAny (model prog w) A (.call (.builtin "object.__setattr__") ⟨[.ref x, .str name tk, v], []⟩) R ⟨hp, g, d, t, os⟩ := by
  have I : W.InstAt hp x { cls := .ref C, data := .fields fv } C none := ⟨hx, rfl, rfl, trivial⟩
  have SF := F.store_object
  have ne : cd.mro.isEmpty = false := by rw [hm]; rfl
  have hob : cd.mro.contains (.type "object") = true := by rw [hm, List.contains_cons, hobj, Bool.or_true]
  have hxs : x ≠ hp.objs.size := Nat.ne_of_lt (Heap.lt_size hx)
  have sub : W.Looks (model prog w) hp (isInstance (.ref x) (.type "object")) true := I.type.andThen (W.looks_mroIn X (by unfold W.mroIn; rw [hcd, Option.bind_some, if_neg (by rw [ne]; decide), hob]))
  refine codeAny_call_builtin SF.slot.plain SF.entry (@W.check_slot (model prog w) _ _ ⟨hp, g, d, t, os⟩ "object.__setattr__" "object" "__setattr__" (.ref x) [.str name tk, v] [] _ SF.kind SF.split sub (SF.args (.ref x) (.str name tk) v) ?_)
  have hmr : W.Looks (model prog w) hp (mroOf (.ref C)) cd.mro := (W.looks_clsIn X hcd).andThen .now
  have L3 : W.Looks (model prog w) hp (storeTaker? none) none := .now
  have hcls : W.Looks (model prog w) hp (classData C) cd := W.looks_clsIn X hcd
  rw [W.osa_eq, refuse_eq]
  refine wpAny_bind (wpAny_bind (I.type.at (wpAny_bind (hmr.at ?_))))
  rw [hm, refuseLoop_ref, hpass]
  refine wpAny_pure (wpAny_bind (I.type.at (wpAny_bind ((W.looks_findIn X ha).at (wpAny_bind (L3.at ?_))))))
  show wpAny _ _ (storeInOwnDict (.ref x) (.ref C) (.str name tk) name v false) _ _ _
  obtain ⟨nm, bs, mro, ns, qn, hd, sn, sb, ab, col, del⟩ := cd
  dsimp only at hh
  subst hh
  unfold storeInOwnDict ownDictForStores
  repeat (first | with_reducible refine store_in_new ?_ ?_ | with_reducible refine wpAny_loadPart_at hx ?_ | with_reducible refine hcls.at ?_ | wp_step)
  · exact ⟨_, #[], _, (Heap.get?_update_ne _ _ _ _ hxs.symm).trans (Heap.get?_push_at rfl rfl), rfl, fun e he => absurd he (by simp), fun _ => rfl⟩
  · intro h' tk' hn' hs
    have hx₁ : (hp.push { cls := .type "dict", data := .dict #[] }).get? x = some { cls := .ref C, data := .fields fv } := Heap.get?_push_of_some _ hx
    refine hq h' tk' hp.objs.size (fun b o hb ho => ?_) (Nat.le_refl _) hxs.symm ?_ hn'
    · exact (hs.2 b (Nat.ne_of_lt (Heap.lt_size ho))).trans ((Heap.get?_update_ne _ _ _ _ hb).trans (Heap.get?_push_of_some _ ho))
    · exact (hs.2 x hxs).trans (Heap.get?_update_self _ hx₁ rfl)
/-- what __init__ leaves of a fresh exception at x -/
structure InitEnd (h h' : Heap) (x C dx t1 : Addr) (f : Str) (v : Value) : Prop where
  keep : ∀ b o, b ≠ x → h.get? b = some o → h'.get? b = some o
  obj : h'.get? x = some { cls := .ref C, dict := some dx, data := .fields #[.ref t1, .none, .none, .none, .bool false, .none] }
  dbig : h.objs.size ≤ dx
  dne : dx ≠ x
  ns : h'.Ns1 dx (fun y => if y = f then some v else none)
/-- a made exception -/
structure OwnMade (h h' : Heap) (e C d : Addr) (f : Str) (v : Value) : Prop where
  keep : ∀ b o, h.get? b = some o → h'.get? b = some o
  new : h.objs.size ≤ e
  obj : ∃ oe vs, h'.get? e = some oe ∧ oe.cls = .ref C ∧ oe.dict = some d ∧ oe.data = .fields vs ∧ vs[1]? = some .none ∧ vs[2]? = some .none ∧ 4 < vs.size
  dbig : h.objs.size ≤ d
  dne : d ≠ e
  ns : h'.Ns1 d (fun y => if y = f then some v else none)
theorem one_size (v : Value) : [v].length ≤ sizeLine := by
  rw [sizeLine_eq]
  exact (by decide : 1 ≤ 16777216)
theorem ldC {M : Model} {s : Shared} {name : Str} {scope : Scope} {L a : Addr} {cd : Value} {m : Str → Option Value} {x : Str} {pos : Pos} {v : Value} {Q : Value → Shared → Prop} {A : Around} {E : Value → Shared → Prop} (hn : s.heap.Ns L m) (hv : m x = some v) (h : Q v s)
    (hk : scope.kind = .function := by rfl) (hl : (envOfC name scope L a cd).kindOf x = some .local := by rfl) (hd : (x == ("__debug__" : Str)) = false := by decide) :
    wpAny M A (eval (.Name x pos) (envOfC name scope L a cd)) Q E s := wpAny_Name (wpAny_loadName_local hk hl hn hv h) hd
/-- what the written part says of an exception class cn, at C, with one field f -/
structure Low (K : Frag) (mg : Str → Option Value) (cn f : Str) (C : Addr) : Prop where
  gC : mg cn = some (.ref C)
  ga : findIn K (.ref C) "__getattribute__" = some (some (.builtin "BaseException.__getattribute__"))
  gg : findIn K (.ref C) "__getattr__" = some none
  noN : findIn K (.ref C) f = some none
  kC : keepIn K (.ref C) = true
  exC : subIn K (.ref C) (.type "BaseException") = some true
  tyC : typeIn K (.ref C) = some (.type "type")
  hdC : hasDictIn K C = true
  te : exmOne K (.ref C) (.ref C) = some true
  made : ∀ (prog : Program) (w : World) (A : Around) (R : Result → Shared → Prop) (s : Shared) (v : Value), K.In s.heap → s.heap.NoLimit → A.depth + 1 < recursionLimit →
    (∀ h' tk e d, OwnMade s.heap h' e C d f v → R (.ok (.ret (.ref e))) { s with heap := h', toks := tk }) → codeAny (model prog w) A (.call (.ref C) ⟨[v], []⟩) R s
theorem exm_self {K : PySem.W.Frag} {S : Addr} (h1 : PySem.W.subIn K (.ref S) (.type "BaseException") = some true) (h2 : PySem.W.isClsIn K S = true) (h3 : PySem.W.typeIn K (.ref S) = some (.type "type")) (h4 : PySem.W.subIn K (.ref S) (.ref S) = some true) :
    PySem.W.exmOne K (.ref S) (.ref S) = some true := by
  have e1 : (PySem.W.subIn K (.ref S) (.type "BaseException") == some true) = true := by rw [h1] <;> rfl
  have e2 : ((PySem.W.clsIn K S).isSome && PySem.W.typeIn K (.ref S) == some (.type "type")) = true := by
    have h2' : (PySem.W.clsIn K S).isSome = true := h2
    rw [h2', h3] <;> rfl
  show (if (PySem.W.subIn K (.ref S) (.type "BaseException") == some true) = true then (if ((PySem.W.clsIn K S).isSome && PySem.W.typeIn K (.ref S) == some (.type "type")) = true then PySem.W.subIn K (.ref S) (.ref S) else none) else none) = some true
  rw [if_pos e1, if_pos e2]
  exact h4
end LX
end PySem
namespace L2
open PySem PySem.Spec PyProof.Rows
theorem relO_x {v : V} {v' : Value} {n : Str} (r : RelV v v') (f : Str) : RelO (List.lookup f [(n, v)]) (if f = n then some v' else none) := by
  by_cases hw : f = n
  · subst hw
    rw [if_pos rfl]
    have q : List.lookup f [(f, v)] = some v := by simp [List.lookup]
    rw [q]
    exact r
  · rw [if_neg hw]
    have qw : (f == n) = false := by simpa using hw
    have q2 : List.lookup f [(n, v)] = none := by simp [List.lookup, qw]
    rw [q2]
    trivial
section
variable {X : Cx} {C : Addr} {cn f : Str}
/-- X(e) -/
def tMkX (C : Addr) (f : Str) (ta : TA) : St → Hp → XK → Prop := fun σ H Q => ta σ H fun vs H1 => ∃ v, vs = [v] ∧ ∀ d, H1 d = none → Q (.ref C) (some d) (upd H1 d (.xd [(f, v)]))
theorem pmk_x {a : Expr} {ta : TA} {p pos : Pos} (T : PySem.LX.Low X.K X.mg cn f C) (hr : X.A.depth + 1 < recursionLimit) (ha : PA X [a] ta) (hg : Gl X cn) (hdb : (cn == ("__debug__" : Str)) = false)
    (he : starEach (a :: []) X.env = (false, eval a X.env) :: starEach [] X.env := by rfl) (hpl : (backTo pos (starEach [] X.env)).any (·.1) = false := by rfl) :
    PMk X (.Call (.Name cn p) [a] [] pos) (tMkX C f ta) := by
  intro pins s σ H Q I h
  refine wpAny_Call_Name_kw (ld_glob I hg T.gC ?_ hdb)
  refine PySem.W.callWith_K (h₀ := X.base) I.ok.mod.kin T.kC (thn (ha.run pos pins s σ H _ I h) fun us s1 hh => ?_) he hpl
  obtain ⟨vs, H1, I1, r1, v, ev, q1⟩ := hh
  subst ev
  refine ⟨I1.kIn, ?_⟩
  cases r1 with
  | cons rv rn =>
    rename_i v' us'
    cases rn
    show wpAny _ _ (call (.ref C) [v']) _ _ _
    have hlim := I1.nolimit
    obtain ⟨hp, g, dr, tk, os⟩ := s1
    refine wpAny_call (T.made _ _ _ _ _ _ I1.kIn hlim hr fun h' tk' e d M => ?_)
    show MkP X pins σ Q (.ref e) ⟨h', g, dr, tk', os⟩
    obtain ⟨oe, fv, hoe, hc, hd, hdat, h1, _, _⟩ := M.obj
    have hns := M.ns
    obtain ⟨G', g1, g2⟩ := restrict h' fun b => decide (b ≠ e)
    have gk : ∀ b, b ≠ e → G'.get? b = h'.get? b := fun b hb => g1 b (decide_eq_true hb)
    have ge : G'.get? e = none := g2 e (by simp)
    have old : ∀ b o, hp.get? b = some o → G'.get? b = some o := fun b o q => (gk b (Nat.ne_of_lt (Nat.lt_of_lt_of_le (Heap.lt_size q) M.new))).trans (M.keep b o q)
    have ob : ObjOk X.prog X.w (upd H1 d (.xd [(f, v)])) G' d (.xd [(f, v)]) :=
      ⟨_, hns.at (fun o q => (gk d M.dne).trans q), fun f => relO_x rv f⟩
    have J : Inv X pins σ (upd H1 d (.xd [(f, v)])) ⟨G', g, dr, tk', os⟩ := I1.laid (t' := tk') old M.dbig ob
    refine ⟨e, oe, fv, ⟨G', g, dr, tk', os⟩, _, .ref C, some d, rfl, J, fun b o q => ?_, ge, hoe, ⟨hc, hd⟩, hdat, h1, ?_, rfl, I1.bare, raises_own T.exC T.tyC, q1 d (I1.hok.fresh M.dbig)⟩
    · by_cases hb : b = e
      · have q' : G'.get? b = some o := q
        rw [hb, ge] at q'; cases q'
      · exact (gk b hb).symm.trans q
    · rw [upd_ne (Ne.symm M.dne)]
      exact I1.hok.fresh M.new
/-- raise X(e) -/
def tRaiseX (C : Addr) (f : Str) (W : WX) (ta : TA) : TS := fun _ σ H => tMkX C f ta σ H fun cls d H' => W cls d σ H'
theorem ps_raiseX {a : Expr} {ta : TA} {W : WX} {p pos pos2 : Pos} (hc : X.calm = true) (T : PySem.LX.Low X.K X.mg cn f C) (hr : X.A.depth + 1 < recursionLimit) (tk : Takes X W) (ha : PA X [a] ta) (hg : Gl X cn) (hdb : (cn == ("__debug__" : Str)) = false)
    (he : starEach (a :: []) X.env = (false, eval a X.env) :: starEach [] X.env := by rfl) (hpl : (backTo pos (starEach [] X.env)).any (·.1) = false := by rfl) :
    PS X (.Raise (some (.Call (.Name cn p) [a] [] pos)) none pos2) (tRaiseX C f W ta) := ps_raise hc tk (pmk_x T hr ha hg hdb he hpl)
/-- e.f, e the exception that the suite holds (at a; its class cls, its dict d) -/
def tXF (C : Addr) (f : Str) (a : Addr) (cls : Value) (d : Option Addr) (te : TE) : TE := fun σ H Q => te σ H fun x H1 => x = .ref a ∧ cls = .ref C ∧ ∃ (dd : Addr) (v : V), d = some dd ∧ H1 dd = some (.xd [(f, v)]) ∧ Q v H1
theorem pe_xF {a : Addr} {oe : Obj} {cls : Value} {d : Option Addr} {pn : List (Addr × Obj)} {e : Expr} {te : TE} {pos : Pos} (T : PySem.LX.Low X.K X.mg cn f C) (hz : Zc cls d oe) (hf : ∃ vs, oe.data = .fields vs) (he : PE (X.suite a ((a, oe) :: pn)) e te)
    (hb : attributeBase e f X.env (eval e X.env) = eval e X.env := by rfl) :
    PE (X.suite a ((a, oe) :: pn)) (.Attribute e f pos) (tXF C f a cls d te) := by
  refine ⟨fun pins s σ H Q I h => ?_⟩
  refine attr_of hb (thn (he.run pins s σ H _ I h) fun u s1 hh => ?_)
  obtain ⟨x, H1, I1, rx, ex, ec, dd, v, ed, ea, q⟩ := hh
  subst ex
  obtain rfl : u = Value.ref a := rx
  subst ec
  subst ed
  obtain ⟨ha, _⟩ := I1.pin (a, oe) (List.mem_append_left _ List.mem_cons_self)
  obtain ⟨vs, hd⟩ := hf
  have hx : ObjOk X.prog X.w H1 s1.heap dd (.xd [(f, v)]) := I1.hok dd _ ea
  obtain ⟨mA, hns, hr⟩ := hx
  obtain ⟨od, ho, hl⟩ := lookIn_ns hns
  have l : List.lookup f [(f, v)] = some v := by simp [List.lookup]
  obtain ⟨u, hu, ru⟩ := RelO.some_of (v := v) (o := mA f) (by rw [← l]; exact hr f)
  have J : PySem.W.InstAt s1.heap a oe C (some od) := ⟨ha, hz.1, by unfold PySem.W.notCls; rw [hd] <;> rfl, by rw [hz.2]; exact ho⟩
  exact HandSPX.exc_get I1.kIn J T.ga T.gg T.exC (PySem.W.findObj_own T.hdC T.noN rfl (by rw [hl, hu])) (handed_of ru) ⟨v, H1, I1.tok _, ru, q⟩
end
end L2
end
section
set_option Elab.async false
set_option maxRecDepth 100000
set_option linter.all false
set_option autoImplicit false
/-! DLX2: raise, try, defs that raise, over plain data -/
namespace DL
open PySem PySem.Spec PyProof.Rows L2
variable [TabCtx]

abbrev DWX := Value → List (Str × D) → DSt → Rs → Prop
def LWX (K : KF) (W : WX) (Wd : DWX) : Prop := ∀ G R H cls od fs sd σ, SV K G sd σ → RepH K G R H → ExD K G R H od fs → Wd cls fs sd R → W cls od σ H
def TakesD (X : CxF) (Wd : DWX) : Prop := ∃ W, Takes X W ∧ LWX X.K W Wd
abbrev WNo : DWX := fun _ _ _ _ => False
theorem takesNo {X : CxF} : TakesD X WNo := ⟨fun _ _ _ _ => False, fun u s' ⟨_, _, _, _, _, _, _, _, _, _, _, _, _, _, _, _, w⟩ => w.elim, fun _ _ _ _ _ _ _ _ _ _ _ w => w⟩
def Phi.and (a b : Phi) : Phi := ⟨fun G R H => a.p G R H ∧ b.p G R H, fun e h => ⟨a.st e h.1, b.st e h.2⟩⟩
theorem RepH.imp {F : KB} {Φ Ψ : Phi} {G : Hp} {R : Rs} {H : Hp} (h : RepH ⟨F, Φ⟩ G R H) (q : Φ.p G R H → Ψ.p G R H) : RepH ⟨F, Ψ⟩ G R H := ⟨h.g, h.r, q h.φ, h.b⟩
theorem ExD.drop {K : PySem.W.Frag} {G : Hp} {R R2 : Rs} {H : Hp} {od : Option Addr} {fs : List (Str × D)} (h : ExD K G R H od fs) (s : ∀ a ro, R2 a = some ro → R a = some ro) : ExD K G R2 H od fs := by
  unfold ExD at *
  cases od with
  | none => exact h
  | some d =>
    obtain ⟨vs, h1, h2, h3, h4⟩ := h
    refine ⟨vs, h1, ?_, h3, h4⟩
    cases z : R2 d with
    | none => rfl
    | some ro => rw [s d ro z] at h2; cases h2

/-! ### raise -/
def dRaise (C : Addr) (f : Str) (Wd : DWX) (t : DTA) : DTS := fun _ s R => t s R fun ds R1 => ∃ v, ds = [v] ∧ Wd (.ref C) [(f, v)] s R1
section
variable {X : CxF} {C : Addr} {cn f : Str} {Wd : DWX}
theorem ds_raise {a : Expr} {t : DTA} {p pos pos2 : Pos} {k : Nat} (hc : X.calm = true) (T : PySem.LX.Low X.K X.mg cn f C) (hr : Room k X.A) (tk : TakesD X Wd) (ha : DA X [a] t) (hg : Gl X cn) (hdb : (cn == ("__debug__" : Str)) = false := by decide)
    (he : starEach (a :: []) X.env = (false, eval a X.env) :: starEach [] X.env := by rfl) (hpl : (backTo pos (starEach [] X.env)).any (·.1) = false := by rfl) :
    DS X (.Raise (some (.Call (.Name cn p) [a] [] pos)) none pos2) (dRaise C f Wd t) := by
  obtain ⟨W, tk, lw⟩ := tk
  obtain ⟨t1, a1, a2⟩ := ha
  refine ⟨_, ps_raiseX hc T (by have : Room k X.X.A := hr; have := this.dp; omega) tk a1 hg hdb he hpl, fun G sd s R H Ed E sv rh q k => a2 G sd s R H _ _ sv rh q fun G1 R1 H1 ds vs e1 rh1 dv q1 => ?_⟩
  obtain ⟨v, rfl, q2⟩ := q1
  cases dv with
  | cons d1 d2 =>
    cases d2
    refine ⟨_, rfl, fun d hd => ?_⟩
    exact lw G1 R1 _ _ (some d) [(f, v)] sd s (sv.st e1) (rh1.hide (rh1.free hd) (rh1.gfree hd) (X.Φ.st ((Stp.refl _ _ _).wr hd) rh1.φ) (X.B.st ((Stp.refl _ _ _).wr hd) rh1.b)) ⟨_, upd_same, rh1.free hd, rh1.gfree hd, .cons d1 .nil⟩ q2
end

/-! ### a def that may raise -/
def FinX (Ed : DXK) (cls : Value) (fs : List (Str × D)) (R : Rs) : Prop := ∃ R2, (∀ a ro, R2 a = some ro → R a = some ro) ∧ Ed cls fs R2
theorem finX {Ed : DXK} {cls : Value} {fs : List (Str × D)} {R : Rs} (h : Ed cls fs R) : FinX Ed cls fs R := ⟨R, fun _ _ q => q, h⟩
section
variable {P : Program} {w : World} {K : KB} {mg : Str → Option Value} {base : Heap}
theorem okX {x qual : Str} {st : Stmt} {f : Addr} {fd : FuncData} {N ps : List Str} {k : Nat} {dsp : DSp} (F : Fun K x qual st f fd) (S : FnScope N ps (defScope st)) (len : ∀ ds R Q E, dsp ds R Q E → ds.length = ps.length)
    (hbody : ∀ {Φ : Phi} (cdv : Value) (A : Around) (outer : List Env) (s : Shared) (H : Hp) (E : XK) (Ed : DXK), A.guards = some [] → Room k (A.deeper (envOfC qual (defScope st) s.heap.objs.size f cdv)) →
      TakesD ⟨cxOf (L2.CX P w) P w K mg base N qual (defScope st) f cdv A outer s H E, Φ, K.B⟩ (fun cls fs _ R => FinX Ed cls fs R) →
      ∃ t, DSs ⟨cxOf (L2.CX P w) P w K mg base N qual (defScope st) f cdv A outer s H E, Φ, K.B⟩ (defBody st) t ∧ ∀ ds R Qd, dsp ds R Qd Ed → t { nx := fun _ R' => Fin Qd .non R', rt := Fin Qd } (dstart N ds) R) : FnG P w K mg base (L2.CX P w) (k + 1) f fd ps (spOf K dsp) := by
  obtain ⟨oc, od, kV, doc, pm, an, cdv, ct, osl, rfl, lk, cd⟩ := F.ex
  refine fnG_of lk cd S (spOf_len len) fun A gd outer s H vs Q E hr ⟨G, ds, R, Qd, Ed, dv, rh, q, cb, cx⟩ => ?_
  have tk : TakesD ⟨cxOf (L2.CX P w) P w K mg base N qual (defScope st) f cdv A outer s H E, Phi.of G R H, K.B⟩ (fun cls fs _ R => FinX Ed cls fs R) :=
    ⟨fun cls d _ H => E cls d H, takes_of rfl rfl rfl rfl, fun G' R' H' cls od fs sd σ sv rh' ex ⟨R2, s2, q2⟩ => cx G' R2 H' cls od fs (Stp.drop rh'.φ s2) (rh'.sub0 s2).toAll (ex.drop s2) q2⟩
  obtain ⟨t, ⟨t0, a1, a2⟩, h⟩ := hbody cdv A outer s H E Ed gd hr tk
  have cb' := (cb.fin).ofAll (Φ := Phi.of G R H)
  exact ⟨t0, a1, a2 G _ _ R H _ _ (SV.start dv) (rh.ofAll (Stp.refl G R H)) (h ds R Qd q) ⟨fun G' sd s R' H' e sv rh' q => cb' G' R' H' _ _ e rh' .non q, fun G' R' H' d v e rh' dv' q => cb' G' R' H' d v e rh' dv' q, fun _ _ _ _ _ _ _ _ q => q.elim, fun _ _ _ _ _ _ _ _ q => q.elim⟩⟩
end

/-! ### its call -/
section
variable {X : Cx} {CX : CXT} {k : Nat} {f : Addr} {fd : FuncData} {ps : List Str} {sp : Sp} {E : L2.St → XK} {x : Str} {p pos : Pos} {e : Expr} {es : List Expr} {t : TA}
theorem goGS {pins : List (Addr × Obj)} {σ : L2.St} {H : Hp} {s : Shared} {Q : VK} {us : List Value} {vs : List V} (F : FnG X.prog X.w X.K X.mg X.base CX k f fd ps sp) (hgd : X.A.guards = some []) (room : Room k X.A) (bd : Binds X.K fd ps []) (ps' : PassesAt CX X σ (E σ))
    (I : Inv X pins σ H s) (rv : Vals vs us) (q : sp vs H Q (E σ)) : wpAny (model X.prog X.w) X.A (call (.ref f) us) (EP X pins σ Q) X.xe s := by
  have n : us.length = ps.length := rv.length.symm.trans (F.len _ _ _ _ q)
  have b := bd s us I.kIn (by rw [List.append_nil]; exact n)
  rw [List.append_nil] at b
  apply wpAny_call
  apply codeAny_mono (F.go X.A hgd room X.stack s H I.env0 ⟨us, []⟩ us vs Q (E σ) b rv q)
  rintro (er | fl) s' z
  · exact ps' pins H s er s' I z
  · cases fl <;> first | exact False.elim z | exact I.after z
theorem pe_callGS (F : FnG X.prog X.w X.K X.mg X.base CX k f fd ps sp) (hgd : X.A.guards = some []) (room : Room k X.A) (gl : Gl X x) (hm : X.mg x = some (.ref f)) (kp : PySem.W.keepIn X.K (.ref f) = true) (bd : Binds X.K fd ps []) (ps' : ∀ σ, PassesAt CX X σ (E σ))
    (ha : PA X (e :: es) t) (hdb : (x == ("__debug__" : Str)) = false := by decide) (he : starEach (e :: es) X.env = (false, eval e X.env) :: starEach es X.env := by rfl) (hpl : (backTo pos (starEach es X.env)).any (·.1) = false := by rfl) :
    PE X (.Call (.Name x p) (e :: es) [] pos) (tCallS sp E t) :=
  ⟨fun pins s σ H Q I h => wpAny_Call_Name_kw (ld_glob I gl hm (PySem.W.callWith_K (h₀ := X.base) I.ok.mod.kin kp
    (thn (ha.run pos pins s σ H _ I h) fun us s1 ⟨vs, H1, I1, r, q⟩ => ⟨I1.kIn, goGS F hgd room bd (ps' σ) I1 r q⟩) he hpl) hdb)⟩
end
def dCallX (dsp : DSp) (Wd : DWX) (t : DTA) : DTE := fun s R Q => t s R fun ds R1 => dsp ds R1 Q (fun cls fs R' => Wd cls fs s R')
theorem LE.callX {K : KF} {t0 : TA} {W : WX} {Wd : DWX} {dsp : DSp} {t : DTA} (h : LA K t0 t) (lw : LWX K W Wd) : LE K (tCallS (spOf K.F dsp) (WE W) t0) (dCallX dsp Wd t) := fun G sd s R H Qd Q sv rh q k =>
  h G sd s R H _ _ sv rh q fun G1 R1 H1 ds vs e1 rh1 dv1 q1 =>
    ⟨G1, ds, R1, Qd, _, dv1, rh1.toAll, q1, (k.st e1).toAll rh1.φ, fun G' R' H' cls od fs e rh' ex w => lw G' R' H' cls od fs sd s ((sv.st e1).st e) (rh'.ofAll (K.Φ.st e rh1.φ)) ex w⟩
structure CalX (P : Program) (w : World) (K : KB) (mg : Str → Option Value) (base : Heap) (k : Nat) (x : Str) (dsp : DSp) : Prop where
  ex : ∃ (f : Addr) (fd : FuncData) (ps : List Str), FnG P w K mg base (L2.CX P w) k f fd ps (spOf K dsp) ∧ mg x = some (.ref f) ∧ PySem.W.keepIn K (.ref f) = true ∧ Binds K fd ps []
section
variable {X : CxF} {k j : Nat} {x : Str} {dsp : DSp} {Wd : DWX} {p pos : Pos} {e : Expr} {es : List Expr} {t : DTA}
theorem de_cX (c : CalX X.prog X.w X.K.F X.mg X.base k x dsp) (gd : X.A.guards = some []) (hr : Room j X.A) (hk : k ≤ j) (tk : TakesD X Wd) (hg : Gl X x) (ha : DA X (e :: es) t) (hdb : (x == ("__debug__" : Str)) = false := by decide)
    (he : starEach (e :: es) X.env = (false, eval e X.env) :: starEach es X.env := by rfl) (hpl : (backTo pos (starEach es X.env)).any (·.1) = false := by rfl) : DE X (.Call (.Name x p) (e :: es) [] pos) (dCallX dsp Wd t) := by
  obtain ⟨f, fd, ps, F, hm, kp, bd⟩ := c.ex
  obtain ⟨W, tk, lw⟩ := tk
  obtain ⟨t0, a1, a2⟩ := ha
  exact ⟨_, pe_callGS F gd (hr.mono hk) hg hm kp bd (fun σ => passAt tk σ) a1 hdb he hpl, LE.callX a2 lw⟩
end

/-! ### try -/
def HasX (X : CxF) (d : Option Addr) (fs : List (Str × D)) : Prop := ∀ G R H, RepH X.K G R H → ExD X.K G R H d fs
def wAsD (K : PySem.W.Frag) (c : Value) (i : Nat) (tsd : Addr → Value → List (Str × D) → DTS) (Wout : DWX) (D : DEnds) : DWX := fun cls fs s R =>
  ∃ b, PySem.W.exmOne K cls c = some b ∧ (b = true → ∀ a, R a = none → tsd a cls fs { nx := fun s' R' => D.nx (s'.set i none) R', rt := D.rt, bk := fun s' R' => D.bk (s'.set i none) R', ct := fun s' R' => D.ct (s'.set i none) R' } (s.set i (some (.ref a))) R) ∧
    (b = false → Wout cls fs s R)
def wOnlyD (K : PySem.W.Frag) (c : Value) (tsd : Addr → Value → List (Str × D) → DTS) (Wout : DWX) (D : DEnds) : DWX := fun cls fs s R =>
  ∃ b, PySem.W.exmOne K cls c = some b ∧ (b = true → ∀ a, R a = none → tsd a cls fs D s R) ∧ (b = false → Wout cls fs s R)
def dTryAs (K : PySem.W.Frag) (c : Value) (i : Nat) (tbd : DWX → DTS) (tsd : Addr → Value → List (Str × D) → DTS) (Wout : DWX) : DTS := fun D s R => tbd (wAsD K c i tsd Wout D) D s R
def dTryOnly (K : PySem.W.Frag) (c : Value) (tbd : DWX → DTS) (tsd : Addr → Value → List (Str × D) → DTS) (Wout : DWX) : DTS := fun D s R => tbd (wOnlyD K c tsd Wout D) D s R
def cTb (F : KB) (tbd : DWX → DTS) (W : WX) : L2.TS := fun E s H => ∃ (Φ' : Phi) (Wd : DWX) (G : Hp) (sd : DSt) (R : Rs) (Ed : DEnds), LWX ⟨F, Φ'⟩ W Wd ∧ SV F G sd s ∧ RepH ⟨F, Φ'⟩ G R H ∧ tbd Wd Ed sd R ∧ EB ⟨F, Φ'⟩ G R H Ed E
def cTs (F : KB) (tsd : Addr → Value → List (Str × D) → DTS) (a : Addr) (cls : Value) (d : Option Addr) : L2.TS := fun E s H => ∃ (Φ' : Phi) (fs : List (Str × D)) (G : Hp) (sd : DSt) (R : Rs) (Ed : DEnds),
  (∀ G' R' H', RepH ⟨F, Φ'⟩ G' R' H' → ExD F G' R' H' d fs) ∧ SV F G sd s ∧ RepH ⟨F, Φ'⟩ G R H ∧ tsd a cls fs Ed sd R ∧ EB ⟨F, Φ'⟩ G R H Ed E
section
variable {X : CxF} {x n : Str} {c : Value} {i : Nat} {body suite : List Stmt} {b₀ : Stmt} {np pos pos' : Pos} {tbd : DWX → DTS} {tsd : Addr → Value → List (Str × D) → DTS} {Wout : DWX}
theorem ts_run (hsu : ∀ (Φ' : Phi) (a : Addr) (oe : Obj) (cls : Value) (d : Option Addr) (fs : List (Str × D)) (pn : List (Addr × Obj)), Zc cls d oe → (∃ vs, oe.data = .fields vs) → HasX ⟨X.X.suite a ((a, oe) :: pn), Φ', X.B⟩ d fs → DSs ⟨X.X.suite a ((a, oe) :: pn), Φ', X.B⟩ (b₀ :: suite) (tsd a cls fs))
    (a : Addr) (oe : Obj) (cls : Value) (d : Option Addr) (pn : List (Addr × Obj)) (hz : Zc cls d oe) (hf : ∃ vs, oe.data = .fields vs) : PSs (X.X.suite a ((a, oe) :: pn)) (b₀ :: suite) (cTs X.K.F tsd a cls d) := by
  refine ⟨fun pins s σ H E I h => ?_⟩
  obtain ⟨Φ', fs, G, sd, R, Ed, hx, sv, rh, q, eb⟩ := h
  obtain ⟨te, a1, a2⟩ := hsu Φ' a oe cls d fs pn hz hf hx
  exact a1.run pins s σ H E I (a2 G sd σ R H Ed E sv rh q eb)
/-- the suite's ends, from the try's -/
theorem suite_eb {F : KB} {Φ : Phi} {G G' : Hp} {R R' : Rs} {H H' : Hp} {Ed : DEnds} {E : Ends} (i : Nat) (k : EB ⟨F, Φ⟩ G R H Ed E) (e : Stp G R H G' R' H') : EB ⟨F, Φ.and (Phi.of G' R' H')⟩ G' R' H'
    { nx := fun s' R' => Ed.nx (s'.set i none) R', rt := Ed.rt, bk := fun s' R' => Ed.bk (s'.set i none) R', ct := fun s' R' => Ed.ct (s'.set i none) R' } { nx := fun σ' H' => E.nx (σ'.set i none) H', rt := E.rt, bk := fun σ' H' => E.bk (σ'.set i none) H', ct := fun σ' H' => E.ct (σ'.set i none) H' } :=
  ⟨fun G2 sd2 s2 R2 H2 e2 sv2 rh2 q2 => k.nx G2 _ _ R2 H2 (e.trans e2) (sv2.forget i) (rh2.imp And.left) q2, fun G2 R2 H2 d v e2 rh2 dv q2 => k.rt G2 R2 H2 d v (e.trans e2) (rh2.imp And.left) dv q2,
    fun G2 sd2 s2 R2 H2 e2 sv2 rh2 q2 => k.bk G2 _ _ R2 H2 (e.trans e2) (sv2.forget i) (rh2.imp And.left) q2, fun G2 sd2 s2 R2 H2 e2 sv2 rh2 q2 => k.ct G2 _ _ R2 H2 (e.trans e2) (sv2.forget i) (rh2.imp And.left) q2⟩
end
/-- e.f in a suite -/
def dXF (C : Addr) (f : Str) (a : Addr) (cls : Value) (fs : List (Str × D)) (t : DTE) : DTE := fun s R Q => t s R fun x R1 => x = .ref a ∧ cls = .ref C ∧ ∃ v, fs = [(f, v)] ∧ Q v R1
section
variable {X : Cx} {Φ B : Phi} {C : Addr} {cn f : Str}
theorem de_xF {a : Addr} {oe : Obj} {cls : Value} {d : Option Addr} {fs : List (Str × D)} {pn : List (Addr × Obj)} {e : Expr} {te : DTE} {pos : Pos} (T : PySem.LX.Low X.K X.mg cn f C) (hz : Zc cls d oe) (hf : ∃ vs, oe.data = .fields vs) (hx : HasX ⟨X.suite a ((a, oe) :: pn), Φ, B⟩ d fs)
    (he : DE ⟨X.suite a ((a, oe) :: pn), Φ, B⟩ e te) (hb : attributeBase e f X.env (eval e X.env) = eval e X.env := by rfl) : DE ⟨X.suite a ((a, oe) :: pn), Φ, B⟩ (.Attribute e f pos) (dXF C f a cls fs te) := by
  obtain ⟨t1, a1, a2⟩ := he
  refine ⟨_, pe_xF T hz hf a1 hb, fun G sd s R H Qd Q sv rh q k => a2 G sd s R H _ _ sv rh q fun G1 R1 H1 x v e1 rh1 dv1 q1 => ?_⟩
  obtain ⟨rfl, hc, v, rfl, q2⟩ := q1
  cases dv1
  have ex := hx G1 R1 H1 rh1
  cases d with
  | none => cases ex
  | some dd =>
    obtain ⟨vs, h1, _, _, h4⟩ := ex
    cases h4 with
    | cons h5 h6 =>
      cases h6
      exact ⟨rfl, hc, dd, _, rfl, h1, k G1 R1 H1 _ _ e1 rh1 h5 q2⟩
end
end DL
end
section
set_option Elab.async false
set_option maxRecDepth 100000
set_option linter.all false
set_option autoImplicit false
/-! DLX3: del xs[-k:], xs[i] += e -/
namespace DL
open PySem PySem.Spec PyProof.Rows L2
variable [TabCtx]
section
variable {prog : Program} {w : World} {A : Around} {E : Value → Shared → Prop} {s : Shared}
end
section
variable {X : Cx}
def tDelTail (to : TE) (k : Nat) : L2.TS := fun D σ H => to σ H fun x H1 => ∃ (l : Addr) (xs : List V), x = .ref l ∧ H1 l = some (.lst xs) ∧ k ≤ xs.length ∧ D.nx σ (upd H1 l (.lst (xs.take (xs.length - k))))
def rGetL (K : PySem.W.Frag) : V → V → Hp → VK → Prop := fun x y H Q => ∃ p xs i z, x = .ref p ∧ y = .int i ∧ SqL K H p xs ∧ atI xs i = some z ∧ Q z H
end
/-- del xs[-k:] over data -/
def dDelTail (to : DTE) (k : Nat) : DTS := fun D s R => to s R fun x R1 => ∃ l xs, x = .ref l ∧ R1 l = some (.lst xs) ∧ k ≤ xs.length ∧ D.nx s (put R1 l (.lst (xs.take (xs.length - k))))
def dAugL (to ti te : DTE) : DTS := fun D s R => to s R fun x R1 => ti s R1 fun y R2 => ∃ l xs i a, x = .ref l ∧ y = .int i ∧ R2 l = some (.lst xs) ∧ atI xs i = some (.str a) ∧ te s R2 fun z R3 => ∃ b j xs3, z = .str b ∧ a.length + b.length ≤ sizeLine ∧ R3 l = some (.lst xs3) ∧ ixN xs3.length i = some j ∧ D.nx s (put R3 l (.lst (xs3.set j (.str (a ++ b)))))
section
variable {X : CxF}
end
end DL
end
section
set_option Elab.async false
set_option maxRecDepth 100000
set_option linter.all false
set_option autoImplicit false
/-! DLX4: isinstance of a caught error; text * int; repeated texts -/
namespace DL
open PySem PySem.Spec PyProof.Rows L2
variable [TabCtx]
/-- what a class says, so that isinstance asks its instances rightly -/
structure ExcK (K : PySem.W.Frag) (C : Addr) : Prop where
  cl : (PySem.W.clsIn K C).isSome = true
  ga : PySem.W.findIn K (.ref C) "__getattribute__" = some (some (.builtin "BaseException.__getattribute__"))
  gg : PySem.W.findIn K (.ref C) "__getattr__" = some none
  hs : PySem.W.subIn K (.ref C) (.type "BaseException") = some true
  ha : PySem.W.findIn K (.ref C) "__class__" = some (some (.builtin "object.__class__"))
  hn : PySem.W.specialIn K (.builtin "object.__class__") "__get__" = some (some (.builtin "getset_descriptor.__get__"))
  ht : PySem.W.takesIn K (.builtin "object.__class__") = some true
  hm : PySem.W.mroIn K C (.type "object") = some true
inductive ClsD : D → Value → Prop where
  | ty (n : String) : ClsD (.ty n) (.type n)
  | own (C : Addr) : ClsD (.ref C) (.ref C)
theorem ClsD.rel {K : PySem.W.Frag} {G : Hp} {c : D} {v : V} {u w : Value} (k : ClsD c u) (dv : DV K G c v) (r : RelV v w) : w = u := by
  cases k with
  | ty n => cases dv; exact r
  | own C => cases dv; exact r
theorem ClsD.rels {K : PySem.W.Frag} {G : Hp} : ∀ {cs : List D} {vs : List V} {us ws : List Value}, Paired ClsD cs us → DVs K G cs vs → Vals vs ws → ws = us
  | _, _, _, _, .nil, .nil, .nil => rfl
  | _, _, _, _, .cons c k, .cons d ds, .cons r t => by rw [c.rel d r, ClsD.rels k ds t]
def rIsX (K : PySem.W.Frag) (C a : Addr) (d : Option Addr) (cls : Value) : List V → Hp → VK → Prop := fun xs H Q => cls = .ref C ∧ ∃ (c : V) (b : Bool), xs = [.ref a, c] ∧ Q (.bl b) H ∧ (d = none ∨ ∃ dd fs, d = some dd ∧ H dd = some (.xd fs)) ∧
  ((∃ cv, (∀ u, RelV c u → u = cv) ∧ PySem.W.kitOne K cls cv = some b) ∨ ∃ tp vs us, c = .ref tp ∧ SqT K H tp vs ∧ (∀ ws, Vals vs ws → ws = us) ∧ PySem.W.kitAny K cls us = some b)
theorem call_isX {X : Cx} {a C : Addr} {oe : Obj} {cls : Value} {d : Option Addr} {pn : List (Addr × Obj)} (T : ExcK X.K C) (hz : Zc cls d oe) (hf : ∃ vs, oe.data = .fields vs) :
    CallR (X.suite a ((a, oe) :: pn)) (.builtin "isinstance") (rIsX X.K C a d cls) := by
  intro pins s σ H xs us Q I r h
  obtain ⟨hc, c, b, rfl, q, hd, hcv⟩ := h
  subst hc
  obtain ⟨u1, u2, rfl, r1, r2⟩ := vals2 r
  obtain rfl : u1 = Value.ref a := r1
  obtain ⟨hget, _⟩ := I.pin (a, oe) (List.mem_append.mpr (.inl List.mem_cons_self))
  obtain ⟨vs, hv⟩ := hf
  have J : ∃ od, PySem.W.InstAt s.heap a oe C od := by
    obtain ⟨oc, odt, oda, osl⟩ := oe
    obtain ⟨h1, h2⟩ := hz
    dsimp only at h1 h2 hv
    subst h1 h2 hv
    rcases hd with rfl | ⟨dd, fs, rfl, hH⟩
    · exact ⟨none, hget, rfl, rfl, trivial⟩
    · obtain ⟨mA, hns, _⟩ := (show ObjOk X.prog X.w H s.heap dd (.xd fs) from I.hok dd _ hH)
      obtain ⟨od, ho, _⟩ := lookIn_ns hns
      exact ⟨some od, hget, rfl, rfl, ho⟩
  obtain ⟨od, J⟩ := J
  have Z := PySem.W.kitx_exc (x := a) (ox := oe) (od := od) T.cl T.ga T.gg T.hs T.ha T.hn T.ht T.hm
  rcases hcv with ⟨cv, hcv, e⟩ | ⟨tp, vs2, us2, rfl, hT, hw, e⟩
  · rw [hcv _ r2]
    exact PySem.W.kia_one Z I.kIn J e (fun z => nomatch z) fun tk => ⟨.bl b, H, I.kept (t' := tk) fun _ _ z => z, rfl, q⟩
  · obtain rfl : u2 = Value.ref tp := r2
    obtain ⟨its, rv, ⟨o, h1, h2, n, h3⟩, hz⟩ := I.tuple hT
    have e3 := hw _ rv
    subst e3
    obtain ⟨oc, odt, dt, sl⟩ := o
    simp only at h2 h3
    subst h2 h3
    exact PySem.W.kia_tup Z I.kIn J h1 e (fun z => nomatch z) fun tk => ⟨.bl b, H, I.kept (t' := tk) fun _ _ z => z, rfl, q⟩
/-- isinstance(e, c), isinstance(e, (c, ..)) in a suite -/
def rdIsX (K : PySem.W.Frag) (C a : Addr) (cls : Value) : List D → Rs → DK → Prop := fun ds R Q => cls = .ref C ∧ ∃ c b, ds = [.ref a, c] ∧ ((∃ u, ClsD c u ∧ PySem.W.kitOne K cls u = some b) ∨ ∃ cs us, c = .tup cs ∧ Paired ClsD cs us ∧ PySem.W.kitAny K cls us = some b) ∧ Q (.bl b) R
theorem cd_isX {X : Cx} {Φ B : Phi} {a C : Addr} {oe : Obj} {cls : Value} {d : Option Addr} {fs : List (Str × D)} {pn : List (Addr × Obj)} (T : ExcK X.K C) (hz : Zc cls d oe) (hf : ∃ vs, oe.data = .fields vs) (hx : HasX ⟨X.suite a ((a, oe) :: pn), Φ, B⟩ d fs) :
    CallD ⟨X.suite a ((a, oe) :: pn), Φ, B⟩ (.builtin "isinstance") (rdIsX X.K C a cls) := ⟨_, call_isX T hz hf, fun G R H xs ds Qd Q rh dv ⟨hc, c, b, hds, hcv, q⟩ k => by
  subst hds
  cases dv with
  | cons d1 d2 =>
    cases d1
    cases d2 with
    | cons d3 d4 =>
      cases d4
      refine ⟨hc, _, b, rfl, k G R H _ _ (Stp.refl _ _ _) rh (.bl b) q, ?_, ?_⟩
      · have ex := hx G R H rh
        cases d with
        | none => exact .inl rfl
        | some dd => obtain ⟨vs, h1, _⟩ := ex; exact .inr ⟨dd, _, rfl, h1⟩
      · rcases hcv with ⟨u, k1, e⟩ | ⟨cs, us, rfl, k1, e⟩
        · exact .inl ⟨u, fun w r => k1.rel d3 r, e⟩
        · cases d3 with
          | tup h1 h2 =>
            exact .inr ⟨_, _, us, rfl, SqT.same rh.g h1, fun ws r => ClsD.rels k1 h2 r, e⟩⟩
theorem GC.ref {K : PySem.W.Frag} {mg : Str → Option Value} {x : Str} {C : Addr} (h : mg x = some (.ref C)) : GC K mg x (.ref C) := ⟨_, .ref C, h, rfl, fun _ => .ref C⟩
theorem bt_ValueError : bootBuiltins "ValueError" = some (.type "ValueError") := by decide +kernel
/-- text * int -/
theorem op_mulS {X : Cx} : OpR X (binaryOp .Mult) (fun x y H Q => ∃ a n, x = .str a ∧ y = .int n ∧ PySem.MulOk a n ∧ Q (.str (Txt.mul a n)) H) := by
  intro pins s σ H x y v u Q I rx ry h
  obtain ⟨a, n, rfl, rfl, ok, q⟩ := h
  obtain ⟨t, rfl⟩ := rx
  obtain ⟨t', rfl⟩ := ry
  exact SB.mul ok fun t2 k => ⟨.str _, H, I.tok _, ⟨_, rfl⟩, q⟩
theorem od_mulS {X : CxF} : OpD X (binaryOp .Mult) (fun x y R Q => ∃ a n, x = .str a ∧ y = .int n ∧ PySem.MulOk a n ∧ Q (.str (Txt.mul a n)) R) := ⟨_, op_mulS, fun G R H x y xd yd Qd Q rh dx dy ⟨a, n, hx, hy, c, q⟩ k => by
  subst hx hy
  cases dx; cases dy
  exact ⟨a, n, rfl, rfl, c, k G R H _ _ (Stp.refl _ _ _) rh (.str _) q⟩⟩
end DL
end
section
set_option Elab.async false
set_option maxRecDepth 100000
set_option linter.all false
set_option autoImplicit false
/-! DLX5: text.replace of written texts in a display that begins with a written text + .. -/
namespace DL
open PySem PySem.Spec PyProof.Rows L2 CwR PySem.StrLaws
variable [TabCtx]
section
variable {X : Cx}
end
def DET (X : CxF) (e : Expr) (t : DTE) : Prop := ∃ te, PET X e te ∧ LE X.K te t
def DAT (X : CxF) (es : List Expr) (t : DTA) : Prop := ∃ te, PAT X es te ∧ LA X.K te t
def dRepl (to : DTE) (y z : Str) : DTE := fun s R Q => to s R fun d R1 => ∃ x, d = .str x ∧ x.length + (x.length + 1) * z.length ≤ 16777216 ∧ Q (.str (Txt.replace x y z)) R1
section
variable {X : CxF} {o e : Expr} {es : List Expr} {to te : DTE} {t : DTA} {y z : Str} {j k : Nat} {c0 c1 apos pos p1 : Pos}
end
end DL
end
section
set_option Elab.async false
set_option maxRecDepth 100000
set_option linter.all false
set_option autoImplicit false
/-! DLL: lambdas as data; f-strings -/
namespace DL
open PySem PySem.Spec PyProof.Rows L2 LamX NdefX
variable [TabCtx]

/-! ### a lambda is made -/
section
variable {X : Cx} {pins : List (Addr × Obj)} {σ : L2.St} {H : Hp} {s : Shared}
theorem inv_lam {L : Lam} {c : Addr} {t' : Nat} {pm ctv : Value} (I : Inv X pins σ H s) :
    Inv X pins σ (upd H s.heap.objs.size (LamO s.heap.objs.size L c)) { s with heap := s.heap.push (PySem.W.kla_obj "<lambda>" L.qual L.params L.body L.scope L.cl pm c ctv), toks := t' } := by
  refine I.laid (a := s.heap.objs.size) (fun b u e => Heap.get?_push_of_some _ e) (Nat.le_refl _) ?_
  have e : (s.heap.push (PySem.W.kla_obj "<lambda>" L.qual L.params L.body L.scope L.cl pm c ctv)).get? s.heap.objs.size = some (PySem.W.kla_obj "<lambda>" L.qual L.params L.body L.scope L.cl pm c ctv) := Heap.get?_push_size _ rfl
  exact ⟨⟨pm, ctv, e⟩, ⟨_, e⟩, fun h1 h2 ⟨p, t, z⟩ st => ⟨p, t, st _ z⟩⟩
end
def tLamV (P : Addr) (nm : Nat → Nat → Str) (pos : Pos) (L : Lam) : TE := fun σ H Q => ∃ ps : Array Value, H P = some (.tbl ps) ∧ TriplesOk ps.toList ∧ (∀ (p : Pos) (cv : Value), codeAmong p ps.toList = some cv → ∃ c, cv = .ref c ∧ H c = some (CodeO c (nm p.line p.col))) ∧
  (∀ f c', codeAmong pos ps.toList = some (.ref c') → H f = none → Q (.ref f) (upd H f (LamO f L c'))) ∧
  (∀ f c', H f = none → H c' = none → f ≠ c' → f ≠ P → Q (.ref f) (upd (upd (upd H P (.tbl (ps ++ #[rawInt pos.line, rawInt pos.col, .ref c']))) c' (CodeO c' L.qual)) f (LamO f L c')))
theorem pe_lam {X : Cx} {params : Arguments} {body : Expr} {scope : Scope} {pos : Pos} {c P : Addr} {nm : Nat → Nat → Str} (TB : TabB X.base X.mg c P) (hcode : X.env.code = .ref c) (hdef : defaultsOf params X.env = ([], []))
    (hfree : ∀ y ∈ scope.names, y.2 = .free → X.env.scope.names.lookup y.1 = some .cell ∨ X.env.scope.names.lookup y.1 = some .free) :
    PE X (.Lambda params body scope pos) (tLamV P nm pos ⟨X.env.qual ++ "<lambda>", params, body, scope, cloFrom X.env.cells scope.names []⟩) := by
  refine ⟨fun pins s σ H Q I h => ?_⟩
  obtain ⟨ps, hP, ht, ha, hit, new⟩ := h
  have hfr : ∀ y ∈ scope.names, y.2 = .free → ∃ c, X.env.cells.lookup y.1 = some c := fun y hy e => (hfree y hy e).elim (fun z => I.ok.has _ (.inl z)) fun z => I.ok.has _ (.inr z)
  refine PySem.W.kla_eval hdef ?_
  have bP : s.heap.BuiltinsAt X.mg P := TB.bm.keeps I.bk
  have hP' : s.heap.get? P = some { cls := .none, data := .fields ps } := I.hok P _ hP
  cases hc : codeAmong pos ps.toList with
  | none =>
    refine PySem.W.kla_makeFunction (mg := X.mg) (c := c) (P := P) (ps := ps) (closure_ok hfr) I.ok.glob (I.mod.glob.keeps I.bk) hcode (TB.code.keeps I.bk) hP' ht hc TB.gP bP fun c' ctv h' tk hx hge hlt hrec htb => ?_
    obtain ⟨c2, oc, vs, t, e2, hoc, hd, hv⟩ := hrec
    cases e2
    have nC : H c' = none := I.hok.fresh hge
    have hsz : s.heap.objs.size ≤ h'.objs.size := Nat.le_trans hge (Nat.le_of_lt hlt)
    have I1 := inv_table (t' := tk) (more := #[rawInt pos.line, rawInt pos.col, .ref c']) (h' := h') I hP (fun b o hb e => hx b o hb e) htb hge ⟨oc, vs, t, hoc, hd, hv⟩
    have I2 := inv_lam (L := ⟨X.env.qual ++ "<lambda>", params, body, scope, cloFrom X.env.cells scope.names []⟩) (c := c') (t' := tk) (pm := (X.mg "__name__").getD .none) (ctv := ctv) I1
    refine ⟨.ref _, _, I2, rfl, new _ _ (I.hok.fresh hsz) nC (Nat.ne_of_gt hlt) ?_⟩
    exact Nat.ne_of_gt (Nat.lt_of_lt_of_le (Heap.lt_size hP') hsz)
  | some cv =>
    obtain ⟨c', e, hco⟩ := ha pos cv hc
    subst e
    refine PySem.W.kla_makeFunctionHit (mg := X.mg) (c := c) (P := P) (ps := ps) (closure_ok hfr) I.ok.glob (I.mod.glob.keeps I.bk) hcode (TB.code.keeps I.bk) hP' ht hc bP fun ctv h' tk hx hsz => ?_
    have I1 : Inv X pins σ H { s with heap := h', toks := tk } := I.kept hx
    have I2 := inv_lam (L := ⟨X.env.qual ++ "<lambda>", params, body, scope, cloFrom X.env.cells scope.names []⟩) (c := c') (t' := tk) (pm := (X.mg "__name__").getD .none) (ctv := ctv) I1
    exact ⟨.ref _, _, I2, rfl, hit _ _ hc (I1.hok.fresh (Nat.le_refl _))⟩
theorem upd_comm {H : Hp} {a b : Addr} {o u : HO} (h : a ≠ b) : upd (upd H a o) b u = upd (upd H b u) a o := by
  funext x
  unfold upd
  by_cases h1 : x = a <;> by_cases h2 : x = b <;> simp [h1, h2]
  · subst h1; exact absurd h2 h
  · subst h1; simp [h]
  · subst h2; intro z; exact absurd z.symm h
section
variable {K : KF} {G : Hp} {R : Rs} {H : Hp}
theorem RepH.tabw {P : Addr} {nm : Nat → Nat → Str} {ps ps' : Array Value} (h : RepH K G R H) (hT : TabCtx.T P = some nm) (g0 : G P = none) (r0 : R P = none) (hP : H P = some (.tbl ps)) (ok : TriplesOk ps'.toList)
    (hc : ∀ (pos : Pos) (cv : Value), codeAmong pos ps'.toList = some cv → ∃ c, cv = .ref c ∧ G c = some (CodeO c (nm pos.line pos.col))) : Stp G R H G R (upd H P (.tbl ps')) ∧ RepH K G R (upd H P (.tbl ps')) := by
  have S : Stp G R H G R (upd H P (.tbl ps')) := ⟨Same.refl G, fun a o q1 n q2 q3 => by
      have hb : a ≠ P := by intro z; subst z; rw [hP] at q1; cases q1; exact n ps rfl
      exact ⟨by rw [upd_ne hb]; exact q1, q2, q3⟩, fun a q z h => by
      by_cases hb : a = P
      · subst hb
        rw [hT] at z; cases z
        exact ⟨g0, r0, ps', upd_same, ok, hc⟩
      · obtain ⟨h1, h2, ps1, h3, h4⟩ := h
        exact ⟨h1, h2, ps1, by rw [upd_ne hb]; exact h3, h4⟩⟩
  refine ⟨S, fun b u q => ?_, fun a ro q => ?_, K.Φ.st S h.φ, K.F.B.st S h.b⟩
  · have hb : b ≠ P := by intro z; subst z; rw [g0] at q; cases q
    rw [upd_ne hb]; exact h.g b u q
  · have hb : a ≠ P := by intro z; subst z; rw [r0] at q; cases q
    obtain ⟨h1, o, h2, h3⟩ := h.r a ro q
    exact ⟨h1, o, by rw [upd_ne hb]; exact h2, h3⟩
end
def dLam (L : Lam) : DTE := fun _ R Q => Q (.lam L) R
/-- what is asked where a lambda is made: the code object of the running def, its table -/
structure LamAt (X : CxF) (P : Addr) (nm : Nat → Nat → Str) : Prop where
  ex : ∃ c, TabB X.X.base X.X.mg c P ∧ X.X.env.code = .ref c
  tb : ∀ G R H, X.B.p G R H → TabH G R H P nm
  tc : TabCtx.T P = some nm
theorem de_lam {X : CxF} {params : Arguments} {body : Expr} {scope : Scope} {pos : Pos} {P : Addr} {nm : Nat → Nat → Str} (M : LamAt X P nm) (hn : nm pos.line pos.col = X.X.env.qual ++ "<lambda>") (hdef : defaultsOf params X.X.env = ([], []) := by rfl)
    (hfree : ndefB X.X.env.scope scope [] = true := by first | rfl | with_unfolding_all rfl) :
    DE X (.Lambda params body scope pos) (dLam ⟨X.X.env.qual ++ "<lambda>", params, body, scope, cloFrom X.X.env.cells scope.names []⟩) := by
  obtain ⟨c, TB, hcode⟩ := M.ex
  refine ⟨_, pe_lam (nm := nm) TB hcode hdef (ndef_free hfree), fun G sd s R H Qd Q sv rh q k => ?_⟩
  obtain ⟨g0, r0, ps, h1, h2, h3⟩ := M.tb G R H rh.b
  refine ⟨ps, h1, h2, fun p cv hc => let ⟨c, e1, e2⟩ := h3 p cv hc; ⟨c, e1, rh.g _ _ e2⟩, fun f c' hc hf => ?_, fun f c' hf hc' hne hnP => ?_⟩
  · obtain ⟨c, e1, e2⟩ := h3 pos _ hc
    cases e1
    rw [hn] at e2
    obtain ⟨S, rh2⟩ := rh.imm (o := LamO f _ c') hf
    exact k _ R _ _ _ S rh2 (.lam upd_same (S.g _ _ e2)) q
  · obtain ⟨S1, rh1⟩ := rh.imm (p := c') (o := CodeO c' (X.X.env.qual ++ "<lambda>")) hc'
    have hPc : P ≠ c' := ne_of_none h1 hc'
    have eL : (ps ++ #[rawInt pos.line, rawInt pos.col, .ref c']).toList = ps.toList ++ [rawInt pos.line, rawInt pos.col, .ref c'] := by simp
    obtain ⟨S2, rh2⟩ := rh1.tabw (P := P) (nm := nm) (ps := ps) (ps' := ps ++ #[rawInt pos.line, rawInt pos.col, .ref c']) M.tc (by rw [upd_ne hPc]; exact g0) r0 (by rw [upd_ne hPc]; exact h1) (by rw [eL]; exact PySem.TriplesOk_snoc _ _ _ _ h2) (fun p' cv hcv => by
      rw [eL] at hcv
      rcases among_app2 _ h2 hcv with z | ⟨z, z1, z2⟩
      · obtain ⟨c0, e1, e2⟩ := h3 p' cv z
        exact ⟨c0, e1, S1.g _ _ e2⟩
      · refine ⟨c', z, ?_⟩
        rw [← z1, ← z2, hn]
        exact upd_same)
    have hf2 : upd (upd H c' (CodeO c' (X.X.env.qual ++ "<lambda>"))) P (.tbl (ps ++ #[rawInt pos.line, rawInt pos.col, .ref c'])) f = none := by rw [upd_ne hnP, upd_ne hne]; exact hf
    obtain ⟨S3, rh3⟩ := rh2.imm (p := f) (o := LamO f ⟨X.X.env.qual ++ "<lambda>", params, body, scope, cloFrom X.X.env.cells scope.names []⟩ c') hf2
    rw [upd_comm hPc]
    exact k _ R _ _ _ (S1.trans (S2.trans S3)) rh3 (.lam upd_same (S3.g _ _ upd_same)) q

/-! ### what it promises -/
abbrev nf (L : Lam) (c : Addr) : NF := ⟨"<lambda>", L.qual, L.params, [], L.scope, L.cl, c⟩
structure LOk (P : Program) (w : World) (K : PySem.W.Frag) (mg : Str → Option Value) (base : Heap) (CX : CXT) (k : Nat) (L : Lam) (ps fr : List Str) (sp : List (Option V) → Sp) : Prop where
  len : ∀ ws vs H Q E, sp ws vs H Q E → vs.length = ps.length
  go : ∀ (A : Around), A.guards = some [] → Room k A → ∀ (outer : List Env) (s : Shared) (H : Hp), Env0 P w K mg base A outer s H → ∀ (f c : Addr) (us : List Value) (vs : List V) (ws : List (Option V)) (Q : VK) (E : XK), H f = some (LamO f L c) → H c = some (CodeO c L.qual) →
    CellsAt L.cl fr ws s.heap H → Vals vs us → sp ws vs H Q E → codeAny (model P w) A (.call (.ref f) ⟨us, []⟩) (CR CX outer P w H s Q E) s
section
variable {CX : CXT} {P : Program} {w : World} {K : PySem.W.Frag} {mg : Str → Option Value} {base : Heap} {N ps fr : List Str} {L : Lam} {k : Nat} {sp : List (Option V) → Sp}
theorem lok_of (S : NScope N ps fr L.scope) (hb : ∀ (pm cv ctv : Value) (us : List Value), us.length = ps.length → bindArgs (PySem.W.kla_fn "<lambda>" L.qual L.params L.body L.scope L.cl pm cv ctv) ⟨us, []⟩ = pure (ps.zip us)) (len : ∀ ws vs H Q E, sp ws vs H Q E → vs.length = ps.length)
    (hbody : ∀ (A : Around) (outer : List Env) (s : Shared) (H : Hp) (f c : Addr) (vs : List V) (ws : List (Option V)) (Q : VK) (E : XK), A.guards = some [] → Room k (A.deeper (envF (nf L c) f s.heap.objs.size)) → ws.length = fr.length → sp ws vs H Q E →
      ∃ t, PE (ncx CX P w K mg base N (nf L c) f A outer s H E) L.body t ∧ t (startF N vs ws) H Q) :
    LOk P w K mg base CX (k + 1) L ps fr sp := by
  refine ⟨len, fun A gd hr outer s H e0 f c us vs ws Q E hf hc C r hsp => ?_⟩
  have hl := len _ _ _ _ _ hsp
  have lim : s.heap.NoLimit := e0.mod.nolimit.keeps fun b o e => (e0.bs b o e).1
  obtain ⟨⟨pm, ctv, ho⟩, _, _⟩ := e0.hok f _ hf
  refine PySem.W.kla_callFunE hr.depth ho rfl S.co S.gen rfl (codeO_at e0.hok hc) ?_
  rw [hb pm (.ref c) ctv us (by rw [← r.length]; exact hl)]
  refine wpAny_pure (wpAny_newFunctionEnv S.nocell (fun ⟨n, _⟩ hy => S.par n (List.of_mem_zip hy).1) (fun h₁ hns hsb => ⟨lim.fresh _ hsb, ?_⟩) S.kind)
  show codeAny _ _ (.expr L.body (envF (nf L c) f s.heap.objs.size)) _ _
  have kp : ∀ b o, s.heap.get? b = some o → h₁.get? b = some o := fun b o e => hsb.extBut b o (Nat.ne_of_lt (Heap.lt_size e)) (Heap.get?_push_of_some _ e)
  obtain ⟨t, ht, hq⟩ := hbody A outer s H f c vs ws Q E gd (hr.deeper _) C.len hsp
  have I : Inv (ncx CX P w K mg base N (nf L c) f A outer s H E) [] (startF N vs ws) H { s with heap := h₁, toks := s.toks + (ps.zip us).length } := inv_startN S hr.hd e0 hl r C hns kp
  refine PySem.W.kla_codeExpr (wpAny_mono (ht.run [] _ (startF N vs ws) H _ I hq) (fun v s' hs => ?_) fun e s' hs => hs)
  obtain ⟨w', H', J', rv, q⟩ := hs
  exact ⟨w', H', J'.os, J'.bare, J'.base, J'.hok, rv, q⟩
end
/-- a lambda that captured nothing, and its promise -/
structure LamP (P : Program) (w : World) (K : KB) (mg : Str → Option Value) (base : Heap) (k : Nat) (L : Lam) (dsp : DSp) : Prop where
  cl : L.cl = []
  ex : ∃ ps, LOk P w K mg base CX0 k L ps [] fun _ => spOf K dsp
section
variable {P : Program} {w : World} {K : KB} {mg : Str → Option Value} {base : Heap}
end
/-! ### its call by a local name -/
def tCallLV (i : Nat) (L : Lam) (sp : Sp) (E : XK) (t : TA) : TE := fun σ H Q => ∃ f c, σ[i]? = some (some (.ref f)) ∧ H f = some (LamO f L c) ∧ t σ H fun vs H1 => H1 f = some (LamO f L c) ∧ H1 c = some (CodeO c L.qual) ∧ sp vs H1 Q E
theorem lamAt_of {X : Cx} {pins : List (Addr × Obj)} {σ : L2.St} {H : Hp} {s : Shared} {f c : Addr} {L : Lam} (I : Inv X pins σ H s) (e : H f = some (LamO f L c)) : PySem.W.FnAt f s.heap := by
  obtain ⟨⟨pm, ctv, ho⟩, _, _⟩ := I.hok f _ e
  exact ⟨_, _, _, _, ho⟩
section
variable {X : Cx} {CX : CXT} {ps : List Str} {i j k : Nat} {x : Str} {L : Lam} {sp : Sp} {E : XK} {t : TA} {e : Expr} {es : List Expr} {p pos : Pos}
end
def dCallL (i : Nat) (L : Lam) (dsp : DSp) (t : DTA) : DTE := fun s R Q => s[i]? = some (some (.lam L)) ∧ t s R fun ds R1 => dsp ds R1 Q Ed0
section
variable {X : CxF} {i j k : Nat} {x : Str} {L : Lam} {dsp : DSp} {t : DTA} {e : Expr} {es : List Expr} {p pos : Pos}
end

/-! ### f-strings -/
def dFmt (t : DTE) : DTE := fun s R Q => t s R fun x R1 => (∃ y : Str, x = .str y ∧ y.length ≤ sizeLine ∧ Q (.str y) R1) ∨ ∃ i : Int, x = .int i ∧ i.natAbs.log2 < 1920 ∧ Q (.str (toString i)) R1
/-- {x} where x is a text -/
def dFmtS (t : DTE) : DTE := fun s R Q => t s R fun x R1 => ∃ y : Str, x = .str y ∧ y.length ≤ sizeLine ∧ Q (.str y) R1
def dJs : List DTE → Str → DSt → Rs → (Str → Rs → Prop) → Prop
  | [], acc, _, R, Q => Q acc R
  | t :: ts, acc, s, R, Q => t s R fun x R1 => ∃ y : Str, x = .str y ∧ (acc ++ y).length ≤ sizeLine ∧ dJs ts (acc ++ y) s R1 Q
def dJoin (ts : List DTE) : DTE := fun s R Q => dJs ts Str.empty s R fun out R1 => Q (.str out) R1
section
variable {X : CxF}
inductive DJ (X : CxF) : List Expr → List DTE → Prop where
  | nil : DJ X [] []
  | cons {e : Expr} {t : DTE} {es : List Expr} {ts : List DTE} (h : DE X e t) (r : DJ X es ts) : DJ X (e :: es) (t :: ts)
end
end DL
end
section
set_option Elab.async false
set_option maxRecDepth 100000
set_option linter.all false
set_option autoImplicit false
/-! DLF: the end of a law's row whose defs make lambdas, from a promise FnG -/
namespace DL
open PySem PySem.Spec PyProof.Rows L2 LamX
variable [TabCtx]
abbrev tab0 : Obj := { cls := .none, data := .fields #[] }
section
variable {P : Program} {w : World} {K : PySem.W.Frag} {mg mb : Str → Option Value} {CX : CXT} {k : Nat} {fa a : Addr} {fd : FuncData} {x : Str} {sp : Sp} {s1 : Shared} {vs : List Value} {ns : List Int} {cs : List (Addr × Addr)}
/-- what is hidden is the script or a table -/
def Hidden (K : PySem.W.Frag) (cs : List (Addr × Addr)) (a : Addr) (H : Hp) : Prop := ∀ b u, H b = some u → (b = a ∧ K.lookup a = none ∧ ∃ ob xs, u = .frz ob (.lst xs)) ∨ (K.lookup b = none ∧ u = .tbl #[] ∧ b ∈ cs.map (·.2))
theorem law_atT {H : Hp} (kin : K.In s1.heap) (gns : s1.heap.Ns mainGlobals mg) (bns : s1.heap.Ns builtinsNs mb) (blt : ∀ x : Str, x ≠ "__name__" → mb x = bootBuiltins x) (nl : s1.heap.NoLimit) (gens : s1.gens = #[])
    (obj : s1.heap.get? a = some { cls := .type "list", data := .seq vs.toArray }) (room : Room k callerA) (hT : ∀ p ∈ cs, s1.heap.get? p.2 = some tab0) (hC : ∀ p ∈ cs, PySem.W.CodeHd s1.heap p.1 p.2)
    (hbm : ∃ (bm : Addr) (ob : Obj), mg "__builtins__" = some (.ref bm) ∧ bm ≠ builtinsNs ∧ s1.heap.get? bm = some ob ∧ ob.cls = .type "module" ∧ ob.dict = some builtinsNs ∧ ob.data = .plain)
    (F : ∀ base : Heap, K.In base → base.Ns mainGlobals mg → (∀ p ∈ cs, TabB base mg p.1 p.2) → FnG P w K mg base CX k fa fd [x] sp) (bd : ∀ (s : Shared) (u : Value), BindsTo s fd ⟨[u], []⟩ [(x, u)])
    (q : sp [.ref a] H (fun v _ => v = .bl true) fun _ _ _ => False) (noX : ∀ e s', CX [] H s1 (fun _ _ _ => False) e s' → False)
    (hok : HOk P w H s1.heap) (one : Hidden K cs a H) (tr : ∀ p ∈ cs, H p.2 = some (.tbl #[])) :
    codeAny (model P w) callerA (.call (.ref fa) ⟨[.ref a], []⟩) (fun r s' => r = .ok (.ret (.bool true)) ∧ OldK s1.heap s'.heap ∧ s'.os = s1.os ∧ AllBare s'.gens) s1 := by
  have tabs : ∀ b, b ∈ cs.map (·.2) → s1.heap.get? b = some tab0 := by
    intro b hb
    obtain ⟨p, hp, rfl⟩ := List.mem_map.mp hb
    exact hT p hp
  -- neither the script nor a table
  have see : ∀ {b : Addr} {o : Obj}, s1.heap.get? b = some o → (∀ us n, o.data ≠ .seq us n) → o.data ≠ .fields #[] → (hidT s1.heap H).get? b = some o := by
    intro b o e n1 n2
    refine hidT_get e ?_
    cases z : H b with
    | none => rfl
    | some u =>
      rcases one b u z with ⟨rfl, _⟩ | ⟨_, _, hb⟩
      · rw [obj] at e; cases e; exact (n1 _ _ rfl).elim
      · rw [tabs b hb] at e; cases e; exact (n2 rfl).elim
  have keep : ∀ {b : Addr} {m : Str → Option Value}, s1.heap.Ns b m → (hidT s1.heap H).Ns b m := by
    rintro b m ⟨o, es, ep, e, d, r⟩
    exact ⟨o, es, ep, see e (fun us n z => by rw [d] at z; cases z) (fun z => by rw [d] at z; cases z), d, r⟩
  have inK : K.In (hidT s1.heap H) := by
    intro b o e
    refine hidT_get (kin b o e) ?_
    cases z : H b with
    | none => rfl
    | some u =>
      rcases one b u z with ⟨rfl, no, _⟩ | ⟨no, _⟩ <;> (rw [no] at e; cases e)
  have md : Mod K mg (hidT s1.heap H) := ⟨inK, keep gns, ⟨mb, keep bns, blt⟩, by obtain ⟨mc, h1, h2⟩ := nl; exact ⟨mc, keep h1, h2⟩⟩
  have none_in : ∀ b : Addr, b ∉ frs ([] : List Env) := fun b z => by cases z
  have ev : Env0 P w K mg (hidT s1.heap H) callerA [] s1 H := ⟨rfl, md, fun _ _ e => of_hidT e, Nat.le_of_eq (hidT_size _ _), trivial, fun b z => (none_in b z).elim, hok, .of_eq gens⟩
  have tb : ∀ p ∈ cs, TabB (hidT s1.heap H) mg p.1 p.2 := by
    intro p hp
    have hp2 := hT p hp
    obtain ⟨go, ges, gep, ge, gd, _⟩ := gns
    obtain ⟨o, us, file, tf, flags, tg, inF, text, tt, e1, r1, r2, r3, rr⟩ := hC p hp
    obtain ⟨bm, ob, b1, b2, b3, b4, b5, b6⟩ := hbm
    have c1 : (hidT s1.heap H).get? p.1 = some o := see e1 (fun us n z => by rw [r2] at z; cases z) (fun z => by rw [r2] at z; cases z; simp at r3)
    have c2 : (hidT s1.heap H).get? bm = some ob := see b3 (fun us n z => by rw [b6] at z; cases z) (fun z => by rw [b6] at z; cases z)
    have n1 : bm ≠ mainGlobals := fun z => by rw [z, ge] at b3; cases b3; rw [gd] at b6; cases b6
    have n2 : bm ≠ p.2 := fun z => by rw [z, hp2] at b3; cases b3; cases b6
    exact ⟨⟨o, us, file, tf, flags, tg, inF, text, tt, c1, r1, r2, r3, rr⟩, ⟨bm, ob, b1, b2, n1, n2, c2, b4, b5, b6⟩, fun z => by rw [z, hp2] at ge; cases ge; cases gd⟩
  apply codeAny_mono ((F _ inK (keep gns) tb).go callerA rfl room [] s1 H ev ⟨[.ref a], []⟩ [.ref a] [.ref a] _ _ (bd s1 (.ref a)) (.cons rfl .nil) q)
  rintro (er | fl) s2 z
  · exact (noX er s2 z).elim
  · cases fl with
    | next => exact False.elim z
    | brk => exact False.elim z
    | cont => exact False.elim z
    | ret u =>
      obtain ⟨v, H2, os, bare, un, hok2, rel, tt⟩ := z
      cases (show v = .bl true from tt)
      cases (show u = Value.bool true from rel)
      have old : ∀ b o, s1.heap.get? b = some o → b ∉ cs.map (·.2) → s2.heap.get? b = some o := by
        intro b o e nb
        cases z : H b with
        | none => exact un.keep b o e z (none_in b) (by simp)
        | some u =>
          rcases one b u z with ⟨_, _, ob, xs, rfl⟩ | ⟨_, _, hb⟩
          · have e1 : s1.heap.get? b = some ob := (hok b _ z).1
            have e2 : s2.heap.get? b = some ob := (hok2 b _ (un.frzs b ob _ z)).1
            rw [e] at e1
            rw [e2, e1]
          · exact (nb hb).elim
      have new : ∀ p ∈ cs, ∃ more : Array Value, s2.heap.get? p.2 = some { cls := .none, data := .fields more } := by
        intro p hp
        obtain ⟨more, z⟩ := un.tbls p.2 #[] (tr p hp)
        exact ⟨_, hok2 p.2 _ z⟩
      refine ⟨rfl, ⟨fun b o e => ?_, fun b o e => ?_⟩, os, bare⟩
      · by_cases hb : b ∈ cs.map (·.2)
        · obtain ⟨p, hp, rfl⟩ := List.mem_map.mp hb
          obtain ⟨more, hm⟩ := new p hp
          rw [hT p hp] at e
          cases e
          exact .inr (.inl ⟨((hC p hp).tab (hT p hp)).isCodeTable, rfl, #[], more, rfl, by rw [Array.empty_append]; exact hm⟩)
        · exact .inl (old b o e hb)
      · by_cases hb : b ∈ cs.map (·.2)
        · obtain ⟨p, hp, rfl⟩ := List.mem_map.mp hb
          obtain ⟨more, hm⟩ := new p hp
          exact ⟨_, hm⟩
        · exact ⟨o, old b o e hb⟩
/-- the tables alone; the tables and the script -/
def tabHp (cs : List (Addr × Addr)) : Hp := fun b => if b ∈ cs.map (·.2) then some (.tbl #[]) else none
theorem tabHp_at {b : Addr} {u : HO} (h : tabHp cs b = some u) : b ∈ cs.map (·.2) ∧ u = .tbl #[] := by
  unfold tabHp at h
  split at h
  · rename_i hb; cases h; exact ⟨hb, rfl⟩
  · cases h
theorem tabHp_on {p : Addr × Addr} (hp : p ∈ cs) : tabHp cs p.2 = some (.tbl #[]) := by unfold tabHp; rw [if_pos (List.mem_map.mpr ⟨p, hp, rfl⟩)]
theorem law_callT (kin : K.In s1.heap) (gns : s1.heap.Ns mainGlobals mg) (bns : s1.heap.Ns builtinsNs mb) (blt : ∀ x : Str, x ≠ "__name__" → mb x = bootBuiltins x) (nl : s1.heap.NoLimit) (gens : s1.gens = #[])
    (obj : s1.heap.get? a = some { cls := .type "list", data := .seq vs.toArray }) (inz : IntsAre vs ns) (few : ns.length ≤ sizeLine) (room : Room k callerA) (hT : ∀ p ∈ cs, s1.heap.get? p.2 = some tab0) (nT : ∀ p ∈ cs, K.lookup p.2 = none) (hC : ∀ p ∈ cs, PySem.W.CodeHd s1.heap p.1 p.2)
    (hbm : ∃ (bm : Addr) (ob : Obj), mg "__builtins__" = some (.ref bm) ∧ bm ≠ builtinsNs ∧ s1.heap.get? bm = some ob ∧ ob.cls = .type "module" ∧ ob.dict = some builtinsNs ∧ ob.data = .plain)
    (F : ∀ base : Heap, K.In base → base.Ns mainGlobals mg → (∀ p ∈ cs, TabB base mg p.1 p.2) → FnG P w K mg base CX k fa fd [x] sp) (bd : ∀ (s : Shared) (u : Value), BindsTo s fd ⟨[u], []⟩ [(x, u)])
    (hsp : ∀ H : Hp, (∀ p ∈ cs, H p.2 = some (.tbl #[])) → SqL K H a (ns.map V.int) → sp [.ref a] H (fun v _ => v = .bl true) fun _ _ _ => False)
    (noX : ∀ H e s', CX [] H s1 (fun _ _ _ => False) e s' → False) :
    codeAny (model P w) callerA (.call (.ref fa) ⟨[.ref a], []⟩) (fun r s' => r = .ok (.ret (.bool true)) ∧ OldK s1.heap s'.heap ∧ s'.os = s1.os ∧ AllBare s'.gens) s1 := by
  have n1 := inz.length
  have tabs : ∀ b, b ∈ cs.map (·.2) → s1.heap.get? b = some tab0 ∧ K.lookup b = none := by
    intro b hb
    obtain ⟨p, hp, rfl⟩ := List.mem_map.mp hb
    exact ⟨hT p hp, nT p hp⟩
  have aT : a ∉ cs.map (·.2) := fun z => by
    have := (tabs a z).1
    rw [obj] at this
    cases this
  cases lk : K.lookup a with
  | some o =>
    have e := kin a o lk
    rw [obj] at e
    cases e
    have sq : SqL K (tabHp cs) a (ns.map V.int) := .inr ⟨_, vs.toArray, _, lk, rfl, rfl, rfl, by rw [List.size_toArray, n1]; exact few, by simpa using vals_ints inz⟩
    refine law_atT kin gns bns blt nl gens obj room hT hC hbm F bd (hsp _ (fun p hp => tabHp_on hp) sq) (noX _) (fun b u z => ?_) (fun b u z => ?_) fun p hp => tabHp_on hp
    · obtain ⟨hb, rfl⟩ := tabHp_at z
      exact (tabs b hb).1
    · obtain ⟨hb, rfl⟩ := tabHp_at z
      exact .inr ⟨(tabs b hb).2, rfl, hb⟩
  | none =>
    let H : Hp := upd (tabHp cs) a (.frz { cls := .type "list", data := .seq vs.toArray } (.lst (ns.map V.int)))
    have at_ : ∀ b u, H b = some u → (b = a ∧ u = .frz { cls := .type "list", data := .seq vs.toArray } (.lst (ns.map V.int))) ∨ (b ∈ cs.map (·.2) ∧ u = .tbl #[]) := by
      intro b u z
      by_cases hb : b = a
      · subst hb
        have z2 : upd (tabHp cs) b _ b = some u := z
        rw [upd_same] at z2
        cases z2
        exact .inl ⟨rfl, rfl⟩
      · have z2 : upd (tabHp cs) a _ b = some u := z
        rw [upd_ne hb] at z2
        exact .inr (tabHp_at z2)
    have tr : ∀ p ∈ cs, H p.2 = some (.tbl #[]) := fun p hp => by
      show upd (tabHp cs) a _ p.2 = _
      rw [upd_ne fun z => aT (by rw [← z]; exact List.mem_map.mpr ⟨p, hp, rfl⟩)]
      exact tabHp_on hp
    have sq : SqL K H a (ns.map V.int) := .inl (.inr ⟨_, upd_same⟩)
    refine law_atT kin gns bns blt nl gens obj room hT hC hbm F bd (hsp H tr sq) (noX H) (fun b u z => ?_) (fun b u z => ?_) tr
    · rcases at_ b u z with ⟨rfl, rfl⟩ | ⟨hb, rfl⟩
      · exact ⟨obj, by rw [List.length_map]; exact few, vs, _, vals_ints inz, obj⟩
      · exact (tabs b hb).1
    · rcases at_ b u z with ⟨rfl, rfl⟩ | ⟨hb, rfl⟩
      · exact .inl ⟨rfl, lk, _, _, rfl⟩
      · exact .inr ⟨(tabs b hb).2, rfl, hb⟩
end
/-- the tables of the defs at the head's end: empty -/
def TabsOf (q : Program) (K : PySem.W.Frag) (h : Heap) : Prop := ∀ (x : Str) (c P : Addr), ((recsOf q).find? fun e => e.name == x).isSome = true → PySem.W.tabIn K x = some (c, P) → PySem.W.CodeHd h c P ∧ h.get? P = some tab0
/-- the law's promise at the head's heap h -/
def LawAtG (l : PySem.W.OpenLaw) (w : World) (K : PySem.W.Frag) (CX : CXT) (k n : Nat) (x : Str) (mg : Str → Option Value) (fa : Addr) (h : Heap) : Prop :=
  ∃ (fd : FuncData) (cs : List (Addr × Addr)) (sp : Sp), (∀ p ∈ cs, h.get? p.2 = some tab0) ∧ (∀ p ∈ cs, K.lookup p.2 = none) ∧ (∀ p ∈ cs, PySem.W.CodeHd h p.1 p.2) ∧ (∀ (s : Shared) (u : Value), BindsTo s fd ⟨[u], []⟩ [(x, u)]) ∧
    (∀ (H : Hp) (a : Addr) (ns : List Int), ns.length ≤ n → (∀ p ∈ cs, H p.2 = some (.tbl #[])) → SqL K H a (ns.map V.int) → sp [.ref a] H (fun v _ => v = .bl true) fun _ _ _ => False) ∧
    ∀ base : Heap, K.In base → base.Ns mainGlobals mg → (∀ p ∈ cs, TabB base mg p.1 p.2) → FnG l.prog w K mg base CX k fa fd [x] sp
theorem walkT {l : PySem.W.OpenLaw} {n k : Nat} {q : Program} {loose : List Str} {XP : (Str → Option Value) → Heap → Prop} {YP : World → Heap → Prop} {d : DefRec} {K : Params → PySem.W.Frag} {CX : World → CXT} {x : Str}
    (hn : l.most = some n) (hn2 : n ≤ sizeLine) (hdf : d.params.defaults = []) (room : Room k callerA) (hY : ∀ (w : World) (h : Heap), YP w h → (K w.params).In h)
    (F : ∀ (w : World) (mg : Str → Option Value) (fa : Addr) (h : Heap), YP w h → (K w.params).In h → h.Ns mainGlobals mg → mg d.name = some (.ref fa) → TabsOf q (K w.params) h → LawAtG l w (K w.params) (CX w) k n x mg fa h)
    (noX : ∀ (w : World) (H : Hp) (s : Shared) (e : Value) (s' : Shared), CX w [] H s (fun _ _ _ => False) e s' → False) :
    PySem.W.WalkO q loose XP YP l.row.toRowW d [] (fun f vs => PySem.call f vs) := by
  apply Att.attach_call hn hdf
  intro w s0 s1 mg mb fa o pm cd doc a vs ns G Y ho hd hcd hmg hobj hints hlen hg
  have kin := hY w _ Y
  have tbs : TabsOf q (K w.params) s1.heap := fun x c P hr ht => by
    obtain ⟨e, he⟩ := Option.isSome_iff_exists.mp hr
    exact PySem.W.tab_of G.T kin he ht
  obtain ⟨fd, cs, sp, hT, nT, hC, bd, hsp, hF⟩ := F w mg fa _ Y kin G.T.g hmg tbs
  exact law_callT kin G.T.g G.T.b G.T.builtins G.T.nolimit hg hobj hints (Nat.le_trans hlen hn2) room hT nT hC G.T.bmain hF bd (fun H tr sq => hsp H a ns hlen tr sq) fun H e s' => noX w H s1 e s'

/-! ### what stays true: the told tables -/
def tabsPhi : Phi := ⟨fun G R H => ∀ a nm, TabCtx.T a = some nm → TabH G R H a nm, fun e h a nm z => e.t a nm z (h a nm z)⟩
theorem script_okT {K : PySem.W.Frag} {dsp : DSp} {H : Hp} {a : Addr} {ns : List Int} (h : ∀ (R : Rs) (Ed : DXK), dsp [.rls (ns.map D.int)] R (fun d _ => d = .bl true) Ed) (tr : ∀ b nm, TabCtx.T b = some nm → H b = some (.tbl #[])) (hS : SqL K H a (ns.map V.int)) :
    spOf ⟨K, tabsPhi⟩ dsp [.ref a] H (fun v _ => v = .bl true) (fun _ _ _ => False) := by
  let G : Hp := fun b => match TabCtx.T b with | some _ => none | none => H b
  have g0 : ∀ b, TabCtx.T b = none → G b = H b := fun b e => by show (match TabCtx.T b with | some _ => none | none => H b) = _; rw [e]
  have g1 : ∀ b nm, TabCtx.T b = some nm → G b = none := fun b nm e => by show (match TabCtx.T b with | some _ => none | none => H b) = _; rw [e]
  have eq : ∀ b u, H b = some u → NoTab u → G b = some u := fun b u e n => by
    cases z : TabCtx.T b with
    | none => rw [g0 b z]; exact e
    | some nm => rw [tr b nm z] at e; cases e; exact (n _ rfl).elim
  refine script_okG (G := G) h (fun b u e => ?_) (fun b nm z => ⟨g1 b nm z, rfl, #[], tr b nm z, trivial, fun pos cv hc => ?_⟩) ?_
  · cases z : TabCtx.T b with
    | none => rw [g0 b z] at e; exact e
    | some nm => rw [g1 b nm z] at e; cases e
  · have z : codeAmong pos [] = some cv := hc
    simp [codeAmong] at z
  · rcases hS with (hS | ⟨o, hS⟩) | hS
    · exact .inl (.inl (eq _ _ hS (fun _ z => by cases z)))
    · exact .inl (.inr ⟨o, eq _ _ hS (fun _ z => by cases z)⟩)
    · exact .inr hS
/-- a def whose code object is known -/
structure FunC (K : PySem.W.Frag) (x qual : Str) (st : Stmt) (f : Addr) (fd : FuncData) (c : Addr) : Prop where
  ex : ∃ (oc : Value) (od : Option Addr) (kV doc pm : Value) (an : Option Addr) (ct : Value) (osl : Array (Option Value)), fd = PySem.W.fnOf x qual (defArgs st) (defBody st) (defScope st) .none kV doc pm an (.ref c) ct ∧ K.lookup f = some ⟨oc, od, .func fd, osl⟩ ∧ PySem.W.codeIn K (.ref c) qual = true
/-- its table -/
structure TabOk (K : KB) (mg : Str → Option Value) (base : Heap) (c P : Addr) (nm : Nat → Nat → Str) : Prop where
  tb : TabB base mg c P
  on : ∀ G R H, K.B.p G R H → TabH G R H P nm
  tc : TabCtx.T P = some nm
section
variable {P : Program} {w : World} {K : KB} {mg : Str → Option Value} {base : Heap}
theorem okDC {x qual : Str} {st : Stmt} {f c : Addr} {fd : FuncData} {N ps : List Str} {k : Nat} {dsp : DSp} (F : FunC K x qual st f fd c) (S : FnScope N ps (defScope st)) (len : ∀ ds R Q E, dsp ds R Q E → ds.length = ps.length)
    (hbody : ∀ (A : Around) (outer : List Env) (s : Shared) (H : Hp) (E : XK), A.guards = some [] → Room k (A.deeper (envOfC qual (defScope st) s.heap.objs.size f (.ref c))) →
      ∃ t, DSs ⟨(cxOf CX0 P w K mg base N qual (defScope st) f (.ref c) A outer s H E).nox, .all, K.B⟩ (defBody st) t ∧ ∀ ds R Qd Ed, dsp ds R Qd Ed → t { nx := fun _ R' => Fin Qd .non R', rt := Fin Qd } (dstart N ds) R) : FnG P w K mg base CX0 (k + 1) f fd ps (spOf K dsp) := by
  obtain ⟨oc, od, kV, doc, pm, an, ct, osl, rfl, lk, cd⟩ := F.ex
  refine fnG_of lk cd S (spOf_len len) fun A gd outer s H vs Q E hr ⟨G, ds, R, Qd, Ed, dv, rh, q, cb, cx⟩ => ?_
  obtain ⟨t, ⟨t0, a1, a2⟩, h⟩ := hbody A outer s H E gd hr
  exact ⟨t0, a1.nox, a2 G _ _ R H _ _ (SV.start dv) rh (h ds R Qd Ed q) ⟨fun G' sd s R' H' e sv rh' q => cb.fin G' R' H' _ _ e rh' .non q, fun G' R' H' d v e rh' dv' q => cb.fin G' R' H' d v e rh' dv' q, fun _ _ _ _ _ _ _ _ q => q.elim, fun _ _ _ _ _ _ _ _ q => q.elim⟩⟩
end
/-! ### a lambda among a call's arguments -/
def exNone : Expr := .Constant .none 0 ⟨0, 0, 0, 0⟩
def retE : List Stmt → Expr
  | .Return (some e) _ :: _ => e
  | _ => exNone
def argE (i : Nat) : Expr → Expr
  | .Call _ es _ _ => es.getD i exNone
  | _ => exNone
def lamOf (q : Str) : Expr → Lam
  | .Lambda ps b sc _ => ⟨q, ps, b, sc, []⟩
  | _ => ⟨q, { posonlyargs := [], args := [], vararg := none, kwonlyargs := [], kw_defaults := [], kwarg := none, defaults := [] }, exNone, { kind := .function, names := [], isGenerator := false, isCoroutine := false, more := [] }, []⟩
end DL
end
section
set_option Elab.async false
set_option maxRecDepth 100000
set_option linter.all false
set_option autoImplicit false
/-! DLC: classes over plain data: fields, methods, new instances -/
namespace DL
open PySem PySem.Spec PyProof.Rows L2
variable [TabCtx]

section
variable {X : Cx} {CX : CXT} {k : Nat} {f C : Addr} {fd : FuncData} {ps : List Str} {sp : Sp} {E : L2.St → XK} {x m : Str} {p pos apos : Pos} {e o : Expr} {es : List Expr} {ta : TE} {t : TA}
/-- o.m(..) of an instance of the class at C; what is raised is wished for at the caller's slots -/
def tMethV (C : Addr) (m : Str) (sp : Sp) (E : L2.St → XK) (ta : TE) (t : TA) : TE := fun σ H Q => ta σ H fun x H1 => ∃ a dx fs, x = .ref a ∧ H1 a = some (.ins C dx fs) ∧ fs.lookup m = none ∧ t σ H1 fun vs H2 => sp (x :: vs) H2 Q (E σ)
theorem pe_methV {pl : Sem Bool} (he : PE X o ta) (c : Cls X.K C) (hm : Meth X.K C m f) (F : FnG X.prog X.w X.K X.mg X.base CX k f fd ps sp) (gd : X.A.guards = some []) (hr : Room k X.A) (hb : Binds X.K fd ps []) (hx : ∀ σ, PassesAt CX X σ (E σ)) (ha : PA X (e :: es) t)
    (hst : starEach (e :: es) X.env = (false, eval e X.env) :: starEach es X.env := by rfl) (hpl : (backTo pos (starEach es X.env)).any (·.1) = false := by rfl)
    (ht : eval (.Call (.Attribute o m apos) (e :: es) [] pos) X.env = (do
      let ov ← eval o X.env
      standAt apos.atName
      let (f, first) ← holding [ov] (getMethod ov m pl)
      callWith pos f first (backTo pos (starEach (e :: es) X.env)) (backToKw pos (keywordEach [] X.env))) := by rfl) :
    PE X (.Call (.Attribute o m apos) (e :: es) [] pos) (tMethV C m sp E ta t) :=
  ⟨fun pins s σ H Q I h => PySem.W.methodCall_KW (pl := pl) (thn (he.run pins s σ H _ I h) fun u s1 ⟨x, H1, I1, rx, a, dx, fs, ex, ea, l, q⟩ => by
    subst ex
    obtain rfl : u = Value.ref a := rx
    refine getmeth_ok I1 ea c hm l (PySem.W.callWith_K (first := [.ref a]) (h₀ := X.base) I.ok.mod.kin hm.kp (thn (ha.run pos pins s1 σ H1 _ I1 q) fun us s2 ⟨vs, H2, I2, r, q2⟩ => ⟨I2.kIn, ?_⟩) hst hpl)
    exact goGS (us := .ref a :: us) (vs := .ref a :: vs) F gd hr hb (hx σ) I2 (.cons rfl r) q2) ht⟩
theorem pe_methV0 {pl : Sem Bool} (he : PE X o ta) (c : Cls X.K C) (hm : Meth X.K C m f) (F : FnG X.prog X.w X.K X.mg X.base CX k f fd ps sp) (gd : X.A.guards = some []) (hr : Room k X.A) (hb : Binds X.K fd ps []) (hx : ∀ σ, PassesAt CX X σ (E σ))
    (ht : eval (.Call (.Attribute o m apos) [] [] pos) X.env = (do
      let ov ← eval o X.env
      standAt apos.atName
      let (f, first) ← holding [ov] (getMethod ov m pl)
      callWith pos f first (backTo pos (starEach [] X.env)) (backToKw pos (keywordEach [] X.env))) := by rfl) :
    PE X (.Call (.Attribute o m apos) [] [] pos) (tMethV C m sp E ta tNil) :=
  ⟨fun pins s σ H Q I h => PySem.W.methodCall_KW (pl := pl) (thn (he.run pins s σ H _ I h) fun u s1 ⟨x, H1, I1, rx, a, dx, fs, ex, ea, l, q⟩ => by
    subst ex
    obtain rfl : u = Value.ref a := rx
    exact getmeth_ok I1 ea c hm l (PySem.W.callWith_K0 (first := [.ref a]) I1.kIn hm.kp (goGS (us := [.ref a]) (vs := [.ref a]) F gd hr hb (hx σ) I1 (.cons rfl .nil) q))) ht⟩
end

/-! ### instances as data -/
/-- d is an instance of the class at C that has no field m -/
def insAt (R : Rs) (d : D) (C : Addr) (m : Str) : Prop := match d with
  | .ins C' ns _ => C' = C ∧ m ∉ ns
  | .ref a => ∃ dx fs, R a = some (.ins C dx fs) ∧ m ∉ fs.map (·.1)
  | _ => False
theorem lookup_zip_none {ns : List Str} {xs : List V} {m : Str} (h : m ∉ ns) : (ns.zip xs).lookup m = none := by
  induction ns generalizing xs with
  | nil => rfl
  | cons n ns ih =>
    cases xs with
    | nil => rfl
    | cons x xs =>
      rw [List.zip_cons_cons, List.lookup_cons]
      have hn : (m == n) = false := by
        apply beq_false_of_ne
        intro z; exact h (by simp [z])
      rw [hn]
      exact ih fun z => h (by simp [z])
section
variable {K : KF} {G : Hp} {R : Rs} {H : Hp}
theorem ins_dv {d : D} {v : V} {C : Addr} {m : Str} (h : insAt R d C m) (rh : RepH K G R H) (dv : DV K G d v) : ∃ a dx fs, v = .ref a ∧ H a = some (.ins C dx fs) ∧ fs.lookup m = none := by
  cases dv with
  | ins h1 h2 h3 => obtain ⟨rfl, hm⟩ := h; exact ⟨_, _, _, rfl, rh.g _ _ h1, lookup_zip_none hm⟩
  | ref a =>
    obtain ⟨dx, fs, e, hm⟩ := h
    obtain ⟨_, o, h2, vs, rfl, _⟩ := rh.r a _ e
    exact ⟨_, _, _, rfl, h2, lookup_zip_none hm⟩
  | _ => exact h.elim
end
theorem LA.nil {K : KF} : LA K tNil dNil := fun G sd s R H Qd Q sv rh q k => k G R H [] [] (Stp.refl G R H) rh .nil q
/-- a method of a class by its name, that lets no exception out; one that may raise -/
structure MetD (P : Program) (w : World) (K : KB) (mg : Str → Option Value) (base : Heap) (k : Nat) (C : Addr) (m : Str) (dsp : DSp) : Prop where
  ex : ∃ (f : Addr) (fd : FuncData) (ps : List Str), FnG P w K mg base CX0 k f fd ps (spOf K dsp) ∧ Cls K C ∧ Meth K C m f ∧ Binds K fd ps []
structure MetDX (P : Program) (w : World) (K : KB) (mg : Str → Option Value) (base : Heap) (k : Nat) (C : Addr) (m : Str) (dsp : DSp) : Prop where
  ex : ∃ (f : Addr) (fd : FuncData) (ps : List Str), FnG P w K mg base (L2.CX P w) k f fd ps (spOf K dsp) ∧ Cls K C ∧ Meth K C m f ∧ Binds K fd ps []
def dMeth (C : Addr) (m : Str) (dsp : DSp) (Wd : DWX) (to : DTE) (t : DTA) : DTE := fun s R Q => to s R fun d R1 => insAt R1 d C m ∧ t s R1 fun ds R2 => dsp (d :: ds) R2 Q (fun cls fs R' => Wd cls fs s R')
theorem LE.meth {K : KF} {C : Addr} {m : Str} {dsp : DSp} {W : WX} {Wd : DWX} {to : DTE} {t : DTA} {ta : TE} {t0 : TA} (ho : LE K ta to) (h : LA K t0 t) (lw : LWX K W Wd) : LE K (tMethV C m (spOf K.F dsp) (WE W) ta t0) (dMeth C m dsp Wd to t) := fun G sd s R H Qd Q sv rh q k =>
  ho G sd s R H _ _ sv rh q fun G1 R1 H1 d v e1 rh1 dv1 ⟨hi, q1⟩ => by
    obtain ⟨a, dx, fs, rfl, h1, h2⟩ := ins_dv hi rh1 dv1
    exact ⟨a, dx, fs, rfl, h1, h2, h G1 sd s R1 H1 _ _ (sv.st e1) rh1 q1 fun G2 R2 H2 ds vs e2 rh2 dv2 q2 => ⟨G2, d :: ds, R2, Qd, _, .cons (dv1.st e2) dv2, rh2.toAll, q2, (k.st (e1.trans e2)).toAll rh2.φ,
      fun G' R' H' cls od fs e rh' ex w => lw G' R' H' cls od fs sd s (((sv.st e1).st e2).st e) (rh'.ofAll (K.Φ.st e rh2.φ)) ex w⟩⟩
section
variable {X : CxF} {k j : Nat} {C : Addr} {m : Str} {dsp : DSp} {Wd : DWX} {apos pos : Pos} {o e : Expr} {es : List Expr} {to : DTE} {t : DTA}
theorem de_meth {pl : Sem Bool} (c : MetD X.prog X.w X.K.F X.mg X.base k C m dsp) (gd : X.A.guards = some []) (hr : Room j X.A) (hk : k ≤ j) (ho : DE X o to) (ha : DA X (e :: es) t)
    (hst : starEach (e :: es) X.env = (false, eval e X.env) :: starEach es X.env := by rfl) (hpl : (backTo pos (starEach es X.env)).any (·.1) = false := by rfl)
    (ht : eval (.Call (.Attribute o m apos) (e :: es) [] pos) X.env = (do
      let ov ← eval o X.env
      standAt apos.atName
      let (f, first) ← holding [ov] (getMethod ov m pl)
      callWith pos f first (backTo pos (starEach (e :: es) X.env)) (backToKw pos (keywordEach [] X.env))) := by rfl) : DE X (.Call (.Attribute o m apos) (e :: es) [] pos) (dMeth C m dsp WNo to t) := by
  obtain ⟨f, fd, ps, F, hc, hm, bd⟩ := c.ex
  obtain ⟨to0, o1, o2⟩ := ho
  obtain ⟨t0, a1, a2⟩ := ha
  exact ⟨_, pe_methV (pl := pl) (E := WE fun _ _ _ _ => False) o1 hc hm F gd (hr.mono hk) bd (fun σ pins H s e s' I z => pass0 pins σ H s e s' I z) a1 hst hpl ht, LE.meth o2 a2 fun _ _ _ _ _ _ _ _ _ _ _ w => w⟩
theorem de_meth0 {pl : Sem Bool} (c : MetD X.prog X.w X.K.F X.mg X.base k C m dsp) (gd : X.A.guards = some []) (hr : Room j X.A) (hk : k ≤ j) (ho : DE X o to)
    (ht : eval (.Call (.Attribute o m apos) [] [] pos) X.env = (do
      let ov ← eval o X.env
      standAt apos.atName
      let (f, first) ← holding [ov] (getMethod ov m pl)
      callWith pos f first (backTo pos (starEach [] X.env)) (backToKw pos (keywordEach [] X.env))) := by rfl) : DE X (.Call (.Attribute o m apos) [] [] pos) (dMeth C m dsp WNo to dNil) := by
  obtain ⟨f, fd, ps, F, hc, hm, bd⟩ := c.ex
  obtain ⟨to0, o1, o2⟩ := ho
  exact ⟨_, pe_methV0 (pl := pl) (E := WE fun _ _ _ _ => False) o1 hc hm F gd (hr.mono hk) bd (fun σ pins H s e s' I z => pass0 pins σ H s e s' I z) ht, LE.meth o2 LA.nil fun _ _ _ _ _ _ _ _ _ _ _ w => w⟩
end
/-! ### fields -/
def fldOf (R : Rs) (d : D) (C : Addr) (f : Str) (v : D) : Prop := match d with
  | .ins C' ns ds => C' = C ∧ (ns.zip ds).lookup f = some v
  | .ref a => ∃ dx fs, R a = some (.ins C dx fs) ∧ fs.lookup f = some v
  | _ => False
theorem lookup_dv {K : PySem.W.Frag} {G : Hp} {f : Str} {v : D} : ∀ {ns : List Str} {ds : List D} {xs : List V}, DVs K G ds xs → (ns.zip ds).lookup f = some v → ∃ x, (ns.zip xs).lookup f = some x ∧ DV K G v x
  | [], _, _, _, h => by cases h
  | _ :: _, [], _, _, h => by cases h
  | n :: ns, d :: ds, _, .cons (v := x) (vs := xs) h1 h2, h => by
    rw [List.zip_cons_cons, List.lookup_cons] at h ⊢
    cases e : (f == n) with
    | true => rw [e] at h; cases h; exact ⟨x, rfl, h1⟩
    | false => rw [e] at h; exact lookup_dv h2 h
theorem zip_self {α β : Type} (l : List (α × β)) : (l.map (·.1)).zip (l.map (·.2)) = l := by
  induction l with
  | nil => rfl
  | cons a l ih => simp [ih]
section
variable {K : KF} {G : Hp} {R : Rs} {H : Hp}
theorem fld_dv {d v : D} {x : V} {C : Addr} {f : Str} (h : fldOf R d C f v) (rh : RepH K G R H) (dv : DV K G d x) : ∃ a dx fs y, x = .ref a ∧ H a = some (.ins C dx fs) ∧ fs.lookup f = some y ∧ DV K G v y := by
  cases dv with
  | ins h1 h2 h3 =>
    obtain ⟨rfl, hm⟩ := h
    obtain ⟨y, e1, e2⟩ := lookup_dv h3 hm
    exact ⟨_, _, _, y, rfl, rh.g _ _ h1, e1, e2⟩
  | ref a =>
    obtain ⟨dx, fs, e, hm⟩ := h
    obtain ⟨_, o, h2, vs, rfl, h3⟩ := rh.r a _ e
    rw [← zip_self fs] at hm
    obtain ⟨y, e1, e2⟩ := lookup_dv h3 hm
    exact ⟨_, _, _, y, rfl, h2, e1, e2⟩
  | _ => exact h.elim
end
def dFld (C : Addr) (f : Str) (to : DTE) : DTE := fun s R Q => to s R fun d R1 => ∃ v, fldOf R1 d C f v ∧ Q v R1
theorem de_fld {X : CxF} {o : Expr} {to : DTE} {C : Addr} {f : Str} {pos : Pos} (hc : Cls X.K C) (hn : NoAttr X.K C f) (ho : DE X o to) (hb : attributeBase o f X.env (eval o X.env) = eval o X.env := by rfl) : DE X (.Attribute o f pos) (dFld C f to) := by
  obtain ⟨t0, a1, a2⟩ := ho
  refine ⟨_, pe_fld a1 hb, fun G sd s R H Qd Q sv rh q k => a2 G sd s R H _ _ sv rh q fun G1 R1 H1 d x e1 rh1 dv1 ⟨v, hf, q1⟩ => ?_⟩
  obtain ⟨a, dx, fs, y, rfl, h1, h2, h3⟩ := fld_dv hf rh1 dv1
  exact ⟨a, C, dx, fs, y, rfl, h1, hc, hn, h2, k G1 R1 H1 v y e1 rh1 h3 q1⟩
/-! ### a field stored -/
def putD (f : Str) (v : D) : List (Str × D) → List (Str × D)
  | [] => [(f, v)]
  | (g, x) :: r => if g = f then (g, v) :: r else (g, x) :: putD f v r
theorem putD_dv {K : PySem.W.Frag} {G : Hp} {f : Str} {d : D} {x : V} (h : DV K G d x) : ∀ {fs : List (Str × D)} {vs : List V}, DVs K G (fs.map (·.2)) vs → ∃ ws, putF f x ((fs.map (·.1)).zip vs) = ((putD f d fs).map (·.1)).zip ws ∧ DVs K G ((putD f d fs).map (·.2)) ws
  | [], _, .nil => ⟨[x], rfl, .cons h .nil⟩
  | (g, y) :: fs, _, .cons (v := v) (vs := vs) h1 h2 => by
    show ∃ ws, putF f x ((g, v) :: (fs.map (·.1)).zip vs) = _ ∧ _
    unfold putF putD
    by_cases e : g = f
    · rw [if_pos e, if_pos e]; exact ⟨x :: vs, rfl, .cons h h2⟩
    · rw [if_neg e, if_neg e]
      obtain ⟨ws, e1, e2⟩ := putD_dv h h2
      exact ⟨v :: ws, by rw [e1]; rfl, .cons h1 e2⟩
theorem zip_len {ns : List Str} {xs : List V} : (ns.zip xs).length ≤ ns.length := by rw [List.length_zip]; omega
/-- self.f = e where self may change -/
def dSetF (C : Addr) (f : Str) (to te : DTE) : DTS := fun D s R => te s R fun v R1 => to s R1 fun d R2 => ∃ a dx fs, d = .ref a ∧ R2 a = some (.ins C dx fs) ∧ fs.length < 1000 ∧ D.nx s (put R2 a (.ins C dx (putD f v fs)))
theorem ds_setF {X : CxF} {o value : Expr} {to te : DTE} {C : Addr} {f : Str} {pos pos' : Pos} (hc : Cls X.K C) (hn : NoAttr X.K C f) (ho : DE X o to) (he : DE X value te) (hs : swapsWith value (some (.Attribute o f pos')) pos.line X.env = pure false := by rfl) : DS X (.Assign [.Attribute o f pos'] value pos) (dSetF C f to te) := by
  obtain ⟨t0, a1, a2⟩ := ho
  obtain ⟨t1, b1, b2⟩ := he
  refine ⟨_, ps_fld a1 b1 hs, fun G sd s R H Ed E sv rh q k => b2 G sd s R H _ _ sv rh q fun G1 R1 H1 v y e1 rh1 dvy q1 => a2 G1 sd s R1 H1 _ _ (sv.st e1) rh1 q1 fun G2 R2 H2 d x e2 rh2 dvx ⟨a, dx, fs, hd, hR, hl, q2⟩ => ?_⟩
  subst hd
  cases dvx
  obtain ⟨_, u, h2, vs, rfl, h3⟩ := rh2.r a _ hR
  obtain ⟨ws, e3, e4⟩ := putD_dv (f := f) (dvy.st e2) h3
  obtain ⟨S, rh3⟩ := rh2.chg (p := a) (o := .ins C dx (putF f y ((fs.map (·.1)).zip vs))) (ro := .ins C dx (putD f v fs)) hR ⟨ws, by rw [e3], e4⟩
  refine ⟨a, C, dx, _, rfl, h2, hc, hn, Nat.lt_of_le_of_lt zip_len (by rw [List.length_map]; exact hl), ?_⟩
  exact k.nx _ sd s _ _ (e1.trans (e2.trans S)) (((sv.st e1).st e2).st S) rh3 q2
/-! ### an instance that changes no more -/
theorem RepH.freeze {K : KF} {G : Hp} {R : Rs} {H : Hp} {a : Addr} {ro : RO} {o : HO} (h : RepH K G R H) (hR : R a = some ro) (hH : H a = some o) : Stp G R H (upd G a o) (fun b => if b = a then none else R b) H ∧ RepH K (upd G a o) (fun b => if b = a then none else R b) H := by
  obtain ⟨g0, _⟩ := h.r a ro hR
  have s1 : Same G (upd G a o) := fun b u q => by rw [upd_ne (ne_of_none q g0)]; exact q
  have S : Stp G R H (upd G a o) (fun b => if b = a then none else R b) H := .mk0 s1 fun b u q1 q2 q3 => by
    have hb : b ≠ a := by intro z; subst z; rw [q2] at hR; cases hR
    exact ⟨q1, by simp [hb, q2], by rw [upd_ne hb]; exact q3⟩
  refine ⟨S, fun b u q => ?_, fun b r q => ?_, K.Φ.st S h.φ, K.F.B.st S h.b⟩
  · by_cases hb : b = a
    · subst hb; rw [upd_same] at q; cases q; exact hH
    · rw [upd_ne hb] at q; exact h.g b u q
  · by_cases hb : b = a
    · simp [hb] at q
    · simp only [if_neg hb] at q
      obtain ⟨h1, u, h2, h3⟩ := h.r b r q
      exact ⟨by rw [upd_ne hb]; exact h1, u, h2, h3.mono s1⟩
end DL
end
section
set_option Elab.async false
set_option maxRecDepth 100000
set_option linter.all false
set_option autoImplicit false
/-! DLD: new instances over plain data -/
namespace DL
open PySem PySem.Spec PyProof.Rows L2
variable [TabCtx]
theorem gd_make {A : Around} (gd : A.guards = some []) (C : Addr) (us : List Value) : (A.under (.builtin "type.__call__" ⟨.ref C :: us, []⟩)).guards = some [] := by
  first
    | exact gd
    | (simp [Around.under, gd, Code.guards, Code.isGuard]; done)
    | (simp [Around.under, gd, Code.guards, Code.isGuard]; decide)
section
variable {X : Cx} {CX : CXT} {k : Nat} {f C : Addr} {fd : FuncData} {ps : List Str} {sp : Sp} {E : L2.St → XK} {x m : Str} {p pos : Pos} {e : Expr} {es : List Expr} {t : TA}
theorem goMake {pins : List (Addr × Obj)} {σ : L2.St} {H : Hp} {s : Shared} {Q : VK} {us : List Value} {vs : List V} (M : Mk X.K C f) (F : FnG X.prog X.w X.K X.mg X.base CX k f fd ps sp) (gd : X.A.guards = some []) (hr : Room (k + 1) X.A) (hb : Binds X.K fd ps [])
    (hx : PassesAt CX X σ (E σ)) (I : Inv X pins σ H s) (r : Vals vs us)
    (h : ∀ x dx, H x = none → H dx = none → dx ≠ x → sp (.ref x :: vs) (upd (upd H dx (.own x)) x (.ins C dx [])) (fun v H2 => v = .non ∧ Q (.ref x) H2) (E σ)) :
    wpAny (model X.prog X.w) X.A (call (.ref C) us) (EP X pins σ Q) X.xe s := by
  have hq := h (s.heap.objs.size + 1) s.heap.objs.size (I.hok.fresh (Nat.le_succ _)) (I.hok.fresh (Nat.le_refl _)) (Nat.ne_of_lt (Nat.lt_succ_self _))
  have I2 := Inv.made (C := C) I
  have r2 : Vals (V.ref (s.heap.objs.size + 1) :: vs) (Value.ref (s.heap.objs.size + 1) :: us) := .cons rfl r
  have n := r2.length.symm.trans (F.len _ _ _ _ hq)
  have b := hb { s with heap := (s.heap.push PySem.W.emptyDict).push (PySem.W.instObj C s.heap.objs.size) } (Value.ref (s.heap.objs.size + 1) :: us) I2.kIn (by rw [List.append_nil]; exact n)
  rw [List.append_nil] at b
  apply wpAny_call
  refine make_map (f := f) I.kIn M.makes M.init (beq_iff_eq.mp M.fn) (codeAny_mono (F.go _ (gd_make gd C us) (hr.make C us []) X.stack _ _ (I2.env0.make C us []) ⟨Value.ref (s.heap.objs.size + 1) :: us, []⟩ _ _ _ (E σ) b r2 hq) ?_)
  rintro (er | fl) s' z
  · exact hx pins _ _ er s' I2 z
  · cases fl with
    | ret u =>
      obtain ⟨v, H', I3, rv, ev, q3⟩ := I2.after z
      subst ev
      exact ⟨rv, V.ref (s.heap.objs.size + 1), H', I3, rfl, q3⟩
    | next => exact False.elim z
    | brk => exact False.elim z
    | cont => exact False.elim z
def tMakeV (C : Addr) (sp : Sp) (E : L2.St → XK) (t : TA) : TE := fun σ H Q => t σ H fun vs H1 => ∀ x dx, H1 x = none → H1 dx = none → dx ≠ x → sp (.ref x :: vs) (upd (upd H1 dx (.own x)) x (.ins C dx [])) (fun v H2 => v = .non ∧ Q (.ref x) H2) (E σ)
theorem pe_makeV (M : Mk X.K C f) (F : FnG X.prog X.w X.K X.mg X.base CX k f fd ps sp) (gd : X.A.guards = some []) (hr : Room (k + 1) X.A) (hg : Gl X x) (hm : X.mg x = some (.ref C)) (hb : Binds X.K fd ps []) (hx : ∀ σ, PassesAt CX X σ (E σ))
    (ha : PA X (e :: es) t) (hdb : (x == ("__debug__" : Str)) = false := by decide) (he : starEach (e :: es) X.env = (false, eval e X.env) :: starEach es X.env := by rfl) (hpl : (backTo pos (starEach es X.env)).any (·.1) = false := by rfl) :
    PE X (.Call (.Name x p) (e :: es) [] pos) (tMakeV C sp E t) :=
  ⟨fun pins s σ H Q I h => wpAny_Call_Name_kw (ld_glob I hg hm (PySem.W.callWith_K (h₀ := X.base) I.ok.mod.kin M.kp
    (thn (ha.run pos pins s σ H _ I h) fun us s1 ⟨vs, H1, I1, r, q⟩ => ⟨I1.kIn, goMake M F gd hr hb (hx σ) I1 r q⟩) he hpl) hdb)⟩
end
/-! ### C(..) over plain data -/
def lose (R : Rs) (a : Addr) : Rs := fun b => if b = a then none else R b
/-- a class by its name and its __init__: that lets no exception out; that may raise -/
structure MakD (P : Program) (w : World) (K : KB) (mg : Str → Option Value) (base : Heap) (k : Nat) (x : Str) (C : Addr) (dsp : DSp) : Prop where
  ex : ∃ (f : Addr) (fd : FuncData) (ps : List Str), FnG P w K mg base CX0 k f fd ps (spOf K dsp) ∧ Mk K C f ∧ mg x = some (.ref C) ∧ Binds K fd ps []
structure MakDX (P : Program) (w : World) (K : KB) (mg : Str → Option Value) (base : Heap) (k : Nat) (x : Str) (C : Addr) (dsp : DSp) : Prop where
  ex : ∃ (f : Addr) (fd : FuncData) (ps : List Str), FnG P w K mg base (L2.CX P w) k f fd ps (spOf K dsp) ∧ Mk K C f ∧ mg x = some (.ref C) ∧ Binds K fd ps []
/-- the new instance changes no more -/
def dNewF (C : Addr) (dsp : DSp) (Wd : DWX) (t : DTA) : DTE := fun s R Q => t s R fun ds R1 => ∀ x dx, R1 x = none →
  dsp (.ref x :: ds) (put R1 x (.ins C dx [])) (fun d R2 => d = .non ∧ ∃ dx' fs, R2 x = some (.ins C dx' fs) ∧ Q (.ins C (fs.map (·.1)) (fs.map (·.2))) (lose R2 x)) (fun cls fs R' => Wd cls fs s R')
/-- it may change -/
def dNew (C : Addr) (dsp : DSp) (Wd : DWX) (t : DTA) : DTE := fun s R Q => t s R fun ds R1 => ∀ x dx, R1 x = none →
  dsp (.ref x :: ds) (put R1 x (.ins C dx [])) (fun d R2 => d = .non ∧ Q (.ref x) R2) (fun cls fs R' => Wd cls fs s R')
theorem LE.newT {K : KF} {C : Addr} {dsp : DSp} {W : WX} {Wd : DWX} {t : DTA} {t0 : TA} {G : Hp} {sd : DSt} {s : L2.St} {R : Rs} {H : Hp} {Qn : Addr → DK} {Q : VK} (h : LA K t0 t) (lw : LWX K W Wd) (sv : SV K G sd s) (rh : RepH K G R H)
    (q : t sd R fun ds R1 => ∀ x dx, R1 x = none → dsp (.ref x :: ds) (put R1 x (.ins C dx [])) (fun d R2 => d = .non ∧ Qn x (.ref x) R2) (fun cls fs R' => Wd cls fs sd R'))
    (k : ∀ G' R' H' x, Stp G R H G' R' H' → RepH K G' R' H' → Qn x (.ref x) R' → Q (.ref x) H') : tMakeV C (spOf K.F dsp) (WE W) t0 s H Q :=
  h G sd s R H _ _ sv rh q fun G1 R1 H1 ds vs e1 rh1 dv1 q1 => fun x dx hx hd hne => by
    have S1 : Stp G1 R1 H1 G1 R1 (upd H1 dx (.own x)) := (Stp.refl _ _ _).wr hd
    have rh2 := rh1.hide (o := .own x) (rh1.free hd) (rh1.gfree hd) (K.Φ.st S1 rh1.φ) (K.F.B.st S1 rh1.b)
    have hx2 : upd H1 dx (.own x) x = none := by rw [upd_ne (Ne.symm hne)]; exact hx
    obtain ⟨S2, rh3⟩ := rh2.new (p := x) (o := .ins C dx []) (ro := .ins C dx []) hx2 ⟨[], rfl, .nil⟩
    refine ⟨G1, .ref x :: ds, _, _, _, .cons (.ref x) dv1, rh3.toAll, q1 x dx (rh1.free hx), fun G' R' H' d v e rh' dv ⟨hd', q2⟩ => ?_, fun G' R' H' cls od fs e rh' ex w => ?_⟩
    · subst hd'
      cases dv
      exact ⟨rfl, k G' R' H' x (e1.trans (S1.trans (S2.trans e))) (rh'.ofAll (K.Φ.st (S1.trans (S2.trans e)) rh1.φ)) q2⟩
    · exact lw G' R' H' cls od fs sd s (((sv.st e1).st (S1.trans S2)).st e) (rh'.ofAll (K.Φ.st (S1.trans (S2.trans e)) rh1.φ)) ex w
theorem LE.new {K : KF} {C : Addr} {dsp : DSp} {W : WX} {Wd : DWX} {t : DTA} {t0 : TA} (h : LA K t0 t) (lw : LWX K W Wd) : LE K (tMakeV C (spOf K.F dsp) (WE W) t0) (dNew C dsp Wd t) := fun G sd s R H Qd Q sv rh q k =>
  LE.newT (Qn := fun _ => Qd) h lw sv rh q fun G' R' H' x e rh' q' => k G' R' H' _ _ e rh' (.ref x) q'
section
variable {X : CxF} {k j : Nat} {x : Str} {C : Addr} {dsp : DSp} {Wd : DWX} {p pos : Pos} {e : Expr} {es : List Expr} {t : DTA}
end
end DL
end
section
set_option Elab.async false
set_option maxRecDepth 100000
set_option linter.all false
set_option autoImplicit false
/-! DLH: dicts over plain data -/
namespace DL
open PySem PySem.Spec PyProof.Rows L2
variable [TabCtx]

/-! ### tables of pairs -/
section
variable {κ : Type} [DecidableEq κ]
def valD (kvs : List (κ × D)) (k : κ) : Option D := (kvs.find? fun kv => decide (kv.1 = k)).map (·.2)
def putKD (kvs : List (κ × D)) (k : κ) (v : D) : List (κ × D) :=
  if kvs.any (fun kv => decide (kv.1 = k)) then kvs.map fun kv => if kv.1 = k then (kv.1, v) else kv else kvs ++ [(k, v)]
theorem valD_nil {k : κ} : valD ([] : List (κ × D)) k = none := rfl
theorem valD_cons {p : κ × D} {r : List (κ × D)} {k : κ} : valD (p :: r) k = if p.1 = k then some p.2 else valD r k := by
  unfold valD
  rw [List.find?_cons]
  by_cases e : p.1 = k
  · simp [e]
  · simp [e]
theorem val_dv {K : PySem.W.Frag} {G : Hp} {k : κ} : ∀ {kvs : List (κ × D)} {vs : List V}, DVs K G (kvs.map (·.2)) vs →
    match valD kvs k with
    | some d => ∃ v, valV ((kvs.map (·.1)).zip vs) k = some v ∧ DV K G d v
    | none => valV ((kvs.map (·.1)).zip vs) k = none
  | [], _, _ => valV_nil
  | p :: r, _, .cons (v := v) (vs := vs) h t => by
    rw [valD_cons]
    show match (if p.1 = k then some p.2 else valD r k) with
      | some d => ∃ x, valV ((p.1, v) :: (r.map (·.1)).zip vs) k = some x ∧ DV K G d x
      | none => valV ((p.1, v) :: (r.map (·.1)).zip vs) k = none
    by_cases e : p.1 = k
    · rw [if_pos e, valV_pos (p := (p.1, v)) e]
      exact ⟨v, rfl, h⟩
    · rw [if_neg e, valV_neg (p := (p.1, v)) e]
      exact val_dv t
theorem putKD_new {kvs : List (κ × D)} {k : κ} (v : D) (h : valD kvs k = none) : putKD kvs k v = kvs ++ [(k, v)] := by
  unfold putKD
  have : kvs.any (fun kv => decide (kv.1 = k)) = false := by
    induction kvs with
    | nil => rfl
    | cons p r ih =>
      rw [valD_cons] at h
      by_cases e : p.1 = k
      · rw [if_pos e] at h; cases h
      · rw [if_neg e] at h
        rw [List.any_cons, ih h]
        simp [e]
  rw [this]
  rfl
theorem any_zip {k : κ} : ∀ {kvs : List (κ × D)} {vs : List V}, (kvs.map (·.2)).length = vs.length → (((kvs.map (·.1)).zip vs).any fun kv => decide (kv.1 = k)) = kvs.any fun kv => decide (kv.1 = k)
  | [], _, _ => rfl
  | p :: r, [], h => by simp at h
  | p :: r, v :: vs, h => by
    show (((p.1, v) :: (r.map (·.1)).zip vs).any fun kv => decide (kv.1 = k)) = _
    rw [List.any_cons, List.any_cons, any_zip (by simpa using h)]
theorem repl_dv {K : PySem.W.Frag} {G : Hp} {k : κ} {d : D} {x : V} (hd : DV K G d x) : ∀ {kvs : List (κ × D)} {vs : List V}, DVs K G (kvs.map (·.2)) vs →
    ∃ ws, (((kvs.map (·.1)).zip vs).map fun kv => if kv.1 = k then (kv.1, x) else kv) = ((kvs.map fun kv => if kv.1 = k then (kv.1, d) else kv).map (·.1)).zip ws ∧ DVs K G ((kvs.map fun kv => if kv.1 = k then (kv.1, d) else kv).map (·.2)) ws
  | [], _, .nil => ⟨[], rfl, .nil⟩
  | p :: r, _, .cons (v := v) (vs := vs) h t => by
    obtain ⟨ws, e1, e2⟩ := repl_dv hd t
    show ∃ ws, (((p.1, v) :: (r.map (·.1)).zip vs).map fun kv => if kv.1 = k then (kv.1, x) else kv) = _ ∧ _
    rw [List.map_cons, e1]
    by_cases e : p.1 = k
    · refine ⟨x :: ws, ?_, ?_⟩
      · simp [e]
      · simp [e]; exact .cons hd (by simpa using e2)
    · refine ⟨v :: ws, ?_, ?_⟩
      · simp [e]
      · simp [e]; exact .cons h (by simpa using e2)
theorem zip_snoc {α β : Type} : ∀ {l : List α} {m : List β} {a : α} {b : β}, l.length = m.length → (l ++ [a]).zip (m ++ [b]) = l.zip m ++ [(a, b)]
  | [], [], _, _, _ => rfl
  | x :: l, [], _, _, h => by simp at h
  | [], y :: m, _, _, h => by simp at h
  | x :: l, y :: m, a, b, h => by
    show (x, y) :: (l ++ [a]).zip (m ++ [b]) = (x, y) :: (l.zip m ++ [(a, b)])
    rw [zip_snoc (by simpa using h)]
theorem put_dv {K : PySem.W.Frag} {G : Hp} {k : κ} {d : D} {x : V} (hd : DV K G d x) {kvs : List (κ × D)} {vs : List V} (h : DVs K G (kvs.map (·.2)) vs) :
    ∃ ws, putK ((kvs.map (·.1)).zip vs) k x = ((putKD kvs k d).map (·.1)).zip ws ∧ DVs K G ((putKD kvs k d).map (·.2)) ws := by
  unfold putK putKD
  rw [any_zip h.length]
  split
  · exact repl_dv hd h
  · refine ⟨vs ++ [x], ?_, ?_⟩
    · rw [List.map_append]
      exact (zip_snoc (by rw [← h.length, List.length_map, List.length_map])).symm
    · rw [List.map_append]
      exact h.append (.cons hd .nil)
end
def keyOf : D → Option Key
  | .int i => some (.inl i)
  | .str x => some (.inr x)
  | _ => none
def keysOf : List D → Option (List Key)
  | [] => some []
  | d :: ds => match keyOf d, keysOf ds with
    | some k, some ks => some (k :: ks)
    | _, _ => none
theorem key_dv {K : PySem.W.Frag} {G : Hp} {d : D} {v : V} {k : Key} (h : keyOf d = some k) (dv : DV K G d v) : v = kV k := by
  cases dv <;> first | (cases h; rfl) | cases h
theorem keys_dv {K : PySem.W.Frag} {G : Hp} : ∀ {ds : List D} {vs : List V} {ks : List Key}, keysOf ds = some ks → DVs K G ds vs → vs = ks.map kV
  | [], _, _, h, .nil => by cases h; rfl
  | d :: ds, _, ks, h, .cons (v := v) (vs := vs) h1 h2 => by
    unfold keysOf at h
    cases e1 : keyOf d with
    | none => rw [e1] at h; cases h
    | some k =>
      cases e2 : keysOf ds with
      | none => rw [e1, e2] at h; cases h
      | some ks' =>
        rw [e1, e2] at h
        cases h
        rw [key_dv e1 h1, keys_dv e2 h2]
        rfl
/-- the pairs of a dict whose keys are ints and texts; of one whose keys are tuples of these -/
def dkOf (R : Rs) : D → Option (List (Key × D))
  | .dK ks ds => some (ks.zip ds)
  | .ref a => match R a with
    | some (.dK kvs) => some kvs
    | _ => none
  | _ => none
def dtOf (R : Rs) : D → Option (List (List Key × D))
  | .dT ks ds => some (ks.zip ds)
  | .ref a => match R a with
    | some (.dT kvs) => some kvs
    | _ => none
  | _ => none
theorem zip_fst {α β : Type} : ∀ {l : List α} {m : List β}, l.length = m.length → (l.zip m).map (·.1) = l
  | [], [], _ => rfl
  | x :: l, [], h => by simp at h
  | [], y :: m, h => by simp at h
  | x :: l, y :: m, h => by
    show x :: (l.zip m).map (·.1) = x :: l
    rw [zip_fst (by simpa using h)]
theorem zip_snd {α β : Type} : ∀ {l : List α} {m : List β}, l.length = m.length → (l.zip m).map (·.2) = m
  | [], [], _ => rfl
  | x :: l, [], h => by simp at h
  | [], y :: m, h => by simp at h
  | x :: l, y :: m, h => by
    show y :: (l.zip m).map (·.2) = y :: m
    rw [zip_snd (by simpa using h)]
section
variable {K : KF} {G : Hp} {R : Rs} {H : Hp}
theorem dkOf_ref {a : Addr} {kvs : List (Key × D)} (h : dkOf R (.ref a) = some kvs) : R a = some (.dK kvs) := by
  unfold dkOf at h
  cases e : R a with
  | none => simp [e] at h
  | some o => cases o <;> simp [e] at h; subst h; rfl
theorem dk_dv {d : D} {v : V} {kvs : List (Key × D)} (h : dkOf R d = some kvs) (rh : RepH K G R H) (dv : DV K G d v) : ∃ a vs, v = .ref a ∧ H a = some (.dK ((kvs.map (·.1)).zip vs)) ∧ DVs K G (kvs.map (·.2)) vs := by
  cases dv with
  | dK h1 h2 h3 => cases h; exact ⟨_, _, rfl, by rw [zip_fst h2]; exact rh.g _ _ h1, by rw [zip_snd h2]; exact h3⟩
  | ref a =>
    obtain ⟨_, o, h2, vs, rfl, h3⟩ := rh.r a _ (dkOf_ref h)
    exact ⟨_, _, rfl, h2, h3⟩
  | _ => cases h
end

/-! ### d[k], k in d -/
def dGetK (to ti : DTE) : DTE := fun s R Q => to s R fun o R1 => ti s R1 fun i R2 => ∃ kvs k v, dkOf R2 o = some kvs ∧ keyOf i = some k ∧ valD kvs k = some v ∧ Q v R2
def rdInK (neg : Bool) : DR2 := fun x y R Q => ∃ kvs k, keyOf x = some k ∧ dkOf R y = some kvs ∧ Q (.bl (if neg then !(valD kvs k).isSome else (valD kvs k).isSome)) R
/-- the key a tuple that is written there -/
def dGetT (to : DTE) (t : DTA) : DTE := fun s R Q => to s R fun o R1 => t s R1 fun ds R2 => ds.length ≤ sizeLine ∧ ∃ kvs k v, dtOf R2 o = some kvs ∧ keysOf ds = some k ∧ valD kvs k = some v ∧ Q v R2
def dInT (neg : Bool) (t : DTA) (to : DTE) : DTE := fun s R Q => t s R fun ds R1 => ds.length ≤ sizeLine ∧ to s R1 fun o R2 => ∃ kvs k, dtOf R2 o = some kvs ∧ keysOf ds = some k ∧ Q (.bl (if neg then !(valD kvs k).isSome else (valD kvs k).isSome)) R2
section
variable {X : CxF} {o i : Expr} {es : List Expr} {to ti : DTE} {t : DTA} {pos p2 : Pos}
theorem de_dgetK (hu : X.A.units + 1 < cLine) (ho : DE X o to) (hi : DE X i ti) (hs : NoSl i := by intro _ _; rfl) : DE X (.Subscript o i pos) (dGetK to ti) := by
  obtain ⟨t0, a1, a2⟩ := ho; obtain ⟨t1, b1, b2⟩ := hi
  refine ⟨_, pe_dget hu a1 b1 hs, fun G sd s R H Qd Q sv rh q k => a2 G sd s R H _ _ sv rh q fun G1 R1 H1 d1 v1 e1 rh1 dv1 q1 => b2 G1 sd s R1 H1 _ _ (sv.st e1) rh1 q1 fun G2 R2 H2 d2 v2 e2 rh2 dv2 q2 => ?_⟩
  obtain ⟨kvs, key, v, h1, h2, h3, q3⟩ := q2
  obtain ⟨a, vs, rfl, ha, dvs⟩ := dk_dv h1 rh2 (dv1.st e2)
  have w := val_dv (k := key) dvs
  rw [h3] at w
  obtain ⟨u, w1, w2⟩ := w
  rw [key_dv h2 dv2]
  exact ⟨a, u, rfl, by have := DGet.k (k := key) ha; rw [w1] at this; exact this, k G2 R2 H2 v u (e1.trans e2) rh2 w2 q3⟩
end

/-! ### d[k] = v; {} -/
def rdSetK : DTSet := fun o i v R Q => ∃ l kvs k, o = .ref l ∧ keyOf i = some k ∧ R l = some (.dK kvs) ∧ kvs.length < 1000 ∧ Q (put R l (.dK (putKD kvs k v)))
section
variable {X : CxF} {o i : Expr} {es : List Expr} {to ti : DTE} {t : DTA} {pos p2 : Pos}
theorem dset_dk (hu : X.A.units + 1 < cLine) : DSet X rdSetK := by
  refine ⟨fun o i v H Q => ∃ a H', o = .ref a ∧ DPut H a i v H' ∧ Q H', fun pins s σ H o i v ov iv u Q I ro ri rv h => ?_, fun G R H o i v od idx vd Qd Q rh dvo dvi dvv q k => ?_⟩
  · obtain ⟨a, H', eo, g, q⟩ := h
    subst eo
    obtain rfl : ov = Value.ref a := ro
    exact d_setItem hu I g ri rv fun s4 I4 => ⟨H', I4, q⟩
  · obtain ⟨l, kvs, key, rfl, hk, hR, hl, q⟩ := q
    cases dvo
    obtain ⟨_, u, h2, vs, rfl, h3⟩ := rh.r l _ hR
    obtain ⟨ws, e1, e2⟩ := put_dv (k := key) dvv h3
    rw [key_dv hk dvi]
    obtain ⟨S, rh3⟩ := rh.chg (p := l) (o := .dK (putK ((kvs.map (·.1)).zip vs) key v)) (ro := .dK (putKD kvs key vd)) hR ⟨ws, by rw [e1], e2⟩
    exact ⟨l, _, rfl, DPut.k h2 (Nat.lt_of_le_of_lt (by rw [List.length_zip, List.length_map]; exact Nat.min_le_left _ _) (Nat.lt_trans hl (by decide))), k _ _ _ S rh3 q⟩
def dNewK : DTE := fun _ R Q => ∀ p, R p = none → Q (.ref p) (put R p (.dK []))
/-! ### len(d) -/
end
end DL
end
section
set_option Elab.async false
set_option maxRecDepth 100000
set_option linter.all false
/-! DLK: an own exception class over KeyError: its objects are made by LookupError's __new__ -/
namespace PySem.F
end PySem.F
namespace PySem.LX
open PySem PySem.W PySem.Calls PyProof.Rows PySem.HandSPX
/-- what an own class has among its classes -/
structure Among (bm : List Value) (B : String) : Prop where
  b : bm.contains (.type B) = true
  a : bm.contains (.type "AttributeError") = false
  n : bm.contains (.type "NameError") = false
section
variable {prog : Program} {w : World} {A : Around} {E : Value → Shared → Prop} {R : Result → Shared → Prop} {h : Heap} {g : Array GenState} {d : Drawn} {t : Nat} {os : OsState}
variable {nm q : Str} {C N : Addr} {bs bm bmB : List Value} {hdct : Bool} {sn : List Str} {sub : List Value} {ab : Bool} {col : Option Bool} {dd : Option Addr} {k0 k1 k2 k3 k5 : Option Value} {B newId initId : String}
theorem Among.has (Y : Among bm B) : (Value.ref C :: bm).contains (.type B) = true := by rw [List.contains_cons, Y.b, Bool.or_true]
theorem Among.noN (Y : Among bm B) : (Value.ref C :: bm).contains (.type "NameError") = false := by rw [List.contains_cons, Y.n, Bool.or_false]; rfl
end
end PySem.LX
end
section
set_option Elab.async false
set_option maxRecDepth 100000
set_option linter.all false
set_option autoImplicit false
/-! DLU: a dict comprehension of two clauses, its keys tuples that are written there -/
namespace L2
open PySem PySem.Spec PyProof.Rows

section
variable {prog : Program} {w : World} {A : Around} {R : Result → Shared → Prop} {s : Shared} {kx vx a0 b0 a1 b1 : Expr} {c0 c1 : List Expr} {scope : Scope} {pos : Pos} {it : Value} {D : Addr} {env : Env}
abbrev dc2 (kx vx a0 b0 : Expr) (c0 : List Expr) (a1 b1 : Expr) (c1 : List Expr) (scope : Scope) (pos : Pos) : Expr := .DictComp kx vx [⟨a0, b0, c0, 0⟩, ⟨a1, b1, c1, 0⟩] scope pos
abbrev tests (cs : List Expr) (env : Env) : Sem Bool := forIn cs true fun c r => if r = true then do let ok ← isTrue c env (eval c env); pure (ForInStep.yield ok) else pure (ForInStep.yield r)
abbrev nte (prog : Program) (w : World) (A : Around) (env : Env) (R : Result → Shared → Prop) : Value → Shared → Prop := notedBy (model prog w) A env fun e s' => R (.error e) s'
end
section
variable {X : Cx}
/-- {(..): v for tg in iter if .. for tg1 in iter1 if ..}; vs: the block's names; vs1: those of the second target -/
def tDc2 (wi : TI) (g : TG) (tt : TT) (wi1 : TI) (g1 : TG) (tt1 : TT) (tk tv : TE) (vs vs1 : List Nat) : TE := fun σ H Q => wi σ H fun J H1 => ∀ D, H1 D = none → ∃ W : Nat → Nat → Hp → Prop, (∃ m, W 0 m (upd H1 D (.dT []))) ∧ ∀ i m H, W i m H →
  (J.stop i H ∧ Q (.ref D) H) ∨ (J.go i H ∧ ∃ Nx : Hp → Prop, (∀ H', Nx H' → ∃ m', m' < m ∧ W (i + 1) m' H') ∧ ∀ x H', J.yld i H x H' → g x (wipe σ vs) H' fun σ2 H2 => wipe σ2 vs = wipe σ vs ∧ tt σ2 H2 fun b H3 =>
    if b = true then wi1 σ2 H3 fun J1 H4 => ∃ W1 : Nat → Nat → Hp → Prop, (∃ m, W1 0 m H4) ∧ ∀ j k H, W1 j k H →
      (J1.stop j H ∧ Nx H) ∨ (J1.go j H ∧ ∃ Nx1 : Hp → Prop, (∀ H', Nx1 H' → ∃ k', k' < k ∧ W1 (j + 1) k' H') ∧ ∀ x H', J1.yld j H x H' → g1 x (wipe σ2 vs1) H' fun σ3 H5 => wipe σ3 vs1 = wipe σ2 vs1 ∧ tt1 σ3 H5 fun b H6 =>
        if b = true then tk σ3 H6 fun y H7 => tv σ3 H7 fun z H8 => ∃ kvs key p, y = .ref p ∧ H8 p = some (.tup (key.map kV)) ∧ H8 D = some (.dT kvs) ∧ kvs.length < sizeLine ∧ Nx1 (upd H8 D (.dT (putK kvs key z))) else Nx1 H6)
    else Nx H3)
abbrev AllB (X : Cx) (scope : Scope) (P : Cx → Prop) : Prop := ∀ (s : Shared) (H : Hp) (C : Addr) (cl : List (Str × Addr)) (fp : List Addr), P (X.blk s H scope (compEnvC scope cl C X.env) fp)
end
end L2
end
section
set_option Elab.async false
set_option maxRecDepth 100000
set_option linter.all false
set_option autoImplicit false
/-! DLV: dict comprehensions over plain data -/
namespace DL
open PySem PySem.Spec PyProof.Rows L2
variable [TabCtx]

theorem wipe_wipe {s : L2.St} (vs : List Nat) : wipe (wipe s vs) vs = wipe s vs := by
  have : ∀ us : List Nat, (∀ i ∈ us, i ∈ vs) → wipe (wipe s us) vs = wipe s vs := by
    intro us
    induction us with
    | nil => intro _; rfl
    | cons u us ih =>
      intro hu
      show wipe ((wipe s us).set u none) vs = _
      rw [wipe_set (hu u (by simp)), ih fun i hi => hu i (by simp [hi])]
  exact this vs fun _ h => h
/-! ### one clause, the keys ints and texts -/
def dDcF (wd : DTI) (g : DTG) (tt : DTT) (tk tv : DTE) (vs : List Nat) : DTE := fun s R Q => wd s R fun xs ok R1 => xs.length ≤ 1000 ∧ ∃ Pv : Nat → List (Key × D) → Rs → Prop, Pv 0 [] R1 ∧ (∀ i acc R, i ≤ xs.length → Pv i acc R → ok R) ∧
  (∀ (i : Nat) x acc R, xs[i]? = some x → acc.length ≤ i → Pv i acc R → g x (dwipe s vs) R fun s2 R2 => tt s2 R2 fun b R3 => if b = true then tk s2 R3 fun y R4 => tv s2 R4 fun z R5 => ∃ k, keyOf y = some k ∧ Pv (i + 1) (putKD acc k z) R5 else Pv (i + 1) acc R3) ∧
  ∀ acc R, acc.length ≤ xs.length → Pv xs.length acc R → Q (.dK (acc.map (·.1)) (acc.map (·.2))) R
section
variable {X : CxF} {kx vx tg iter : Expr} {ifs : List Expr} {scope : Scope} {own : List (Str × Nat)} {pos : Pos} {wd : DTI} {g : DTG} {tt : DTT} {tk tv : DTE}
abbrev AllD (X : CxF) (scope : Scope) (P : CxF → Prop) : Prop := ∀ (s : Shared) (H : Hp) (C : Addr) (cl : List (Str × Addr)) (fp : List Addr), P (X.blk s H scope (compEnvC scope cl C X.env) fp)
end

/-! ### two clauses, the key a tuple that is written there -/
def dDc2F (wd : DTI) (g : DTG) (tt : DTT) (wd1 : DTI) (g1 : DTG) (tt1 : DTT) (tk : DTA) (tv : DTE) (vs vs1 : List Nat) : DTE := fun s R Q => wd s R fun xs ok R1 => ∃ Pv : Nat → List (List Key × D) → Rs → Prop, Pv 0 [] R1 ∧ (∀ i acc R, i ≤ xs.length → Pv i acc R → ok R) ∧
  (∀ (i : Nat) x acc R, xs[i]? = some x → Pv i acc R → g x (dwipe s vs) R fun s2 R2 => tt s2 R2 fun b R3 =>
    if b = true then wd1 s2 R3 fun ys ok1 R4 => ∃ Pv1 : Nat → List (List Key × D) → Rs → Prop, Pv1 0 acc R4 ∧ (∀ j acc R, j ≤ ys.length → Pv1 j acc R → ok1 R ∧ acc.length < 1000) ∧
      (∀ (j : Nat) y acc R, ys[j]? = some y → Pv1 j acc R → g1 y (dwipe s2 vs1) R fun s3 R5 => tt1 s3 R5 fun b R6 => if b = true then tk s3 R6 fun ds R7 => ds.length ≤ sizeLine ∧ tv s3 R7 fun z R8 => ∃ k, keysOf ds = some k ∧ Pv1 (j + 1) (putKD acc k z) R8 else Pv1 (j + 1) acc R6) ∧
      ∀ acc R, Pv1 ys.length acc R → Pv (i + 1) acc R
    else Pv (i + 1) acc R3) ∧
  ∀ acc R, Pv xs.length acc R → Q (.dT (acc.map (·.1)) (acc.map (·.2))) R
def cA (K : KF) (td : DTA) : TA := fun s H Q => ∃ G sd R Qd, SV K G sd s ∧ RepH K G R H ∧ td sd R Qd ∧ CBA K G R H Qd Q
theorem LA.c {K : KF} {td : DTA} : LA K (cA K td) td := fun G sd s R H Qd Q sv rh q k => ⟨G, sd, R, Qd, sv, rh, q, k⟩
def cI (K : KF) (wd : DTI) : TI := fun s H Rr => ∃ G sd R Kd, SV K G sd s ∧ RepH K G R H ∧ wd sd R Kd ∧ ∀ G' R' H' J xs ok, Stp G R H G' R' H' → RepH K G' R' H' → Sim K G' J xs ok → Kd xs ok R' → Rr J H'
theorem LI.c {K : KF} {wd : DTI} : LI K (cI K wd) wd := fun G sd s R H Kd Rr sv rh q k => ⟨G, sd, R, Kd, sv, rh, q, k⟩
section
variable {X : CxF} {kx vx tg iter tg1 iter1 : Expr} {es ifs ifs1 : List Expr} {scope : Scope} {own : List (Str × Nat)} {vs1 : List Nat} {pos p2 : Pos} {wd wd1 : DTI} {g g1 : DTG} {tt tt1 : DTT} {tk : DTA} {tv : DTE}
theorem DA.pa {td : DTA} (h : DA X es td) : PA X es (cA X.K td) := by
  obtain ⟨t1, a1, a2⟩ := h
  exact ⟨fun pos pins s σ H Q I ⟨G, sd, R, Qd, sv, rh, q, k⟩ => a1.run pos pins s σ H Q I (a2 G sd σ R H Qd Q sv rh q k)⟩
theorem DI.pi {wd : DTI} (h : DI X tg iter wd) : PI X tg iter (cI X.K wd) := by
  obtain ⟨t1, a1, a2⟩ := h
  exact ⟨fun pins s σ H Q I ⟨G, sd, R, Kd, sv, rh, q, k⟩ => a1.run pins s σ H Q I (a2 G sd σ R H Kd Q sv rh q k)⟩
end
end DL
end
section
set_option Elab.async false
set_option maxRecDepth 100000
set_option linter.all false
set_option autoImplicit false
/-! DLW: enumerate, zip; stars in displays; own in; calls by keywords; more methods of lists -/
namespace PySem
end PySem
namespace L2
open PySem PySem.Spec PyProof.Rows
/-- the tuple at a, each item in a new pair -/
def IteT (K : PySem.W.Frag) (a : Addr) : It :=
  ⟨fun i H => ∃ (xs : List V) (x : V), SqT K H a xs ∧ xs[i]? = some x, fun i H v H' => ∃ T x, v = .ref T ∧ H T = none ∧ H' = upd H T (.tup [.int (i : Nat), x]) ∧ ∀ xs, SqT K H a xs → xs[i]? = some x, fun i H => ∃ xs : List V, SqT K H a xs ∧ xs.length ≤ i⟩
def iEnumT (K : PySem.W.Frag) (ta : TA) : TI := fun σ H R => ta σ H fun vs H1 => ∃ a xs, vs = [.ref a] ∧ SqT K H1 a xs ∧ R (IteT K a) H1
end L2
end
section
set_option Elab.async false
set_option maxRecDepth 100000
set_option linter.all false
set_option autoImplicit false
/-! DLY: what is walked (a list or tuple, enumerate, zip), stars, own in, calls by keywords, over plain data -/
namespace L2
open PySem PySem.Spec PyProof.Rows
section
variable {X : Cx} {tg e : Expr} {te : TE}
def iSeq (K : PySem.W.Frag) (te : TE) : TI := fun σ H R => te σ H fun v H1 => ∃ a, v = .ref a ∧ ((∃ xs, SqL K H1 a xs ∧ R (Itl K a) H1) ∨ ∃ xs, SqT K H1 a xs ∧ R (Itt K a) H1)
def iEnumA (K : PySem.W.Frag) (ta : TA) : TI := fun σ H R => ta σ H fun vs H1 => ∃ a, vs = [.ref a] ∧ ((∃ xs, SqL K H1 a xs ∧ R (Ite K a) H1) ∨ ∃ xs, SqT K H1 a xs ∧ R (IteT K a) H1)
end
end L2
namespace DL
open PySem PySem.Spec PyProof.Rows L2
variable [TabCtx]
/-! ### what is walked -/
def enumD (xs : List D) : List D := xs.mapIdx fun i x => .tup [.int (i : Nat), x]
def dIEnum (te : DTE) : DTI := fun s R Kd => te s R fun d R1 => ∃ xs, seqOf R1 d = some xs ∧ Kd (enumD xs) (fun R' => seqOf R' d = some xs) R1
def zipD (xs ys : List D) : List D := List.zipWith (fun x y => .tup [x, y]) xs ys
def dIZip (ta tb : DTE) : DTI := fun s R Kd => ta s R fun d R1 => tb s R1 fun e R2 => ∃ xs ys, lstOf R2 d = some xs ∧ lstOf R2 e = some ys ∧ Kd (zipD xs ys) (fun R' => lstOf R' d = some xs ∧ lstOf R' e = some ys) R2
section
variable {X : CxF} {tg e e2 : Expr} {te ta tb : DTE} {pos p tpos : Pos} {elts : List Expr} {kk : Nat}
/-! ### stars in displays and calls -/
def dStar (te : DTE) (t : DTA) : DTA := fun s R Q => te s R fun d R1 => ∃ xs, seqOf R1 d = some xs ∧ t s R1 fun ys R2 => Q (xs ++ ys) R2
/-! ### continue -/
def dCont : DTS := fun D s R => D.ct s R
def dBrk : DTS := fun D s R => D.bk s R
end
/-! ### x or y by truth -/
def truD (R : Rs) (d : D) (b : Bool) : Prop := match d with
  | .non => b = false
  | .bl c => b = c
  | .int i => b = (i != 0)
  | .str x => x.length ≤ sizeLine ∧ b = ((x.length : Int) != 0)
  | d => ∃ xs, seqOf R d = some xs ∧ b = !xs.isEmpty
def dOrT (ta tb : DTE) : DTE := fun s R Q => ta s R fun x R1 => ∃ b, truD R1 x b ∧ if b = true then Q x R1 else tb s R1 Q
section
variable {X : CxF} {a b : Expr} {rest : List Expr} {ta tb : DTE} {pos : Pos}
end
end DL
end
section
set_option Elab.async false
set_option maxRecDepth 100000
set_option linter.all false
set_option autoImplicit false
/-! DLZ: own in; calls by keywords; class constants; more methods of lists -/
namespace DL
open PySem PySem.Spec PyProof.Rows L2
variable [TabCtx]
/-! ### x in o by an own __contains__ -/
section
variable {X : Cx} {CX : CXT} {k : Nat} {f C : Addr} {fd : FuncData} {ps : List Str} {sp : Sp}
def rInC (C : Addr) (sp : Sp) (neg : Bool) : R2 := fun x y H Q => ∃ a dx fs, y = .ref a ∧ H a = some (.ins C dx fs) ∧ sp [y, x] H (fun v H2 => ∃ b, v = .bl b ∧ Q (.bl (if neg then !b else b)) H2) (fun _ _ _ => False)
end
def rdInC (C : Addr) (dsp : DSp) (neg : Bool) : DR2 := fun x y R Q => insAt R y C "__contains__" ∧ dsp [y, x] R (fun d R2 => ∃ b, d = .bl b ∧ Q (.bl (if neg then !b else b)) R2) Ed0
section
variable {X : CxF} {C : Addr} {k j : Nat} {dsp : DSp}
end
/-! ### calls by keywords -/
section
variable {X : Cx} {CX : CXT} {k n : Nat} {f : Addr} {fd : FuncData} {ps ks : List Str} {sp : Sp} {E : L2.St → XK} {x : Str} {p pos : Pos} {e : Expr} {es : List Expr} {kws : List Keyword} {t tk : TA} {g : List Value → List Value → List Value} {gV : List V → List V → List V}
def tCallK (n m : Nat) (sp : Sp) (gV : List V → List V → List V) (E : L2.St → XK) (t tk : TA) : TE := fun σ H Q => t σ H fun vs H1 => tk σ H1 fun zs H2 => vs.length = n ∧ zs.length = m ∧ sp (gV vs zs) H2 Q (E σ)
end
/-- a def by its name, called with n values and the keywords ks; gD puts all values in the parameters' order, the defaults among them -/
structure CalK (P : Program) (w : World) (K : KB) (mg : Str → Option Value) (base : Heap) (k : Nat) (x : Str) (n : Nat) (ks : List Str) (gD : List D → List D → List D) (dsp : DSp) : Prop where
  ex : ∃ (f : Addr) (fd : FuncData) (ps : List Str) (g : List Value → List Value → List Value) (gV : List V → List V → List V), FnG P w K mg base (L2.CX P w) k f fd ps (spOf K dsp) ∧ mg x = some (.ref f) ∧ PySem.W.keepIn K (.ref f) = true ∧ KBn K fd ps n ks g gV ∧
    ∀ G ds vs es us, DVs K G ds vs → DVs K G es us → ds.length = n → es.length = ks.length → DVs K G (gD ds es) (gV vs us)
def dCallK (n m : Nat) (gD : List D → List D → List D) (dsp : DSp) (Wd : DWX) (t tk : DTA) : DTE := fun s R Q => t s R fun ds R1 => tk s R1 fun es R2 => ds.length = n ∧ es.length = m ∧ dsp (gD ds es) R2 Q (fun cls fs R' => Wd cls fs s R')
def DKw (X : CxF) (kws : List Keyword) (t : DTA) : Prop := ∃ te, PK X kws te ∧ LA X.K te t
section
variable {X : CxF} {k j n : Nat} {x : Str} {ks : List Str} {gD : List D → List D → List D} {dsp : DSp} {Wd : DWX} {p pos kpos : Pos} {e : Expr} {es : List Expr} {kws : List Keyword} {te : DTE} {t tk : DTA} {nm : Option Str}
end
/-! ### C.f, a constant of a class -/
def dCVal (v : D) (te : DTE) (C : Addr) : DTE := fun s R Q => te s R fun d R1 => d = .ref C ∧ Q v R1
/-! ### methods of lists -/
section
variable {X : CxF}
theorem LRM.chg {K : KF} {r : V → List V → Hp → VK → Prop} {rd : D → List D → Rs → DK → Prop} (h : ∀ G R H x xs d ds Qd Q, RepH K G R H → DV K G d x → DVs K G ds xs → rd d ds R Qd → CB K G R H Qd Q → r x xs H Q) : LRM K r rd := h
end
/-! ### isinstance(x, (T, ..)) of built-in classes -/
def kitBs (S : String) : List String → Option Bool
  | [] => some false
  | c :: cs => match kitB S c with
    | some true => some true
    | some false => kitBs S cs
    | none => none
def rIsiS (K : PySem.W.Frag) : List V → Hp → VK → Prop := fun xs H Q => ∃ (x : V) (tp : Addr) (cs : List String) (t : Value) (b : Bool), xs = [x, .ref tp] ∧ SqT K H tp (cs.map V.ty) ∧ TyX K H x t ∧ PySem.W.kitAny K t (cs.map Value.type) = some b ∧ Q (.bl b) H
end DL
end
section
set_option Elab.async false
set_option maxRecDepth 100000
set_option linter.all false
set_option autoImplicit false
/-! DLQ: data with lists that may change within; dict(pairs), displays of dicts, get; defs with defaults; C() -/
namespace DL
open PySem PySem.Spec PyProof.Rows L2
variable [TabCtx]
/-! ### data as it may be read now -/
mutual
def D.pyR (R : Rs) : D → Option PyData
  | .non => some .none
  | .bl b => some (.bool b)
  | .int i => some (.int i)
  | .str x => some (.str x)
  | .tup xs => (D.pyRs R xs).map .tuple
  | .lst xs => (D.pyRs R xs).map .list
  | .rls xs => (D.pyRs R xs).map .list
  | .ref l => match R l with
    | some (.lst ds) => if D.plains ds = true then some (.list (D.pys ds)) else none
    | _ => none
  | _ => none
def D.pyRs (R : Rs) : List D → Option (List PyData)
  | [] => some []
  | x :: xs => match D.pyR R x, D.pyRs R xs with
    | some p, some ps => some (p :: ps)
    | _, _ => none
end
section
variable {K : KF} {G : Hp} {R : Rs} {H : Hp}
mutual
theorem pyR_dp (rh : RepH K G R H) : ∀ {d : D} {v : V} {p : PyData}, DV K G d v → D.pyR R d = some p → Dp K H v p
  | _, _, _, .non, h => by cases h; exact .non
  | _, _, _, .bl b, h => by cases h; exact .bl b
  | _, _, _, .int i, h => by cases h; exact .int i
  | _, _, _, .str x, h => by cases h; exact .str x
  | _, _, _, .ty _, h => by cases h
  | _, _, _, .tup (ds := ds) h1 h2, h => by
    unfold D.pyR at h
    cases e : D.pyRs R ds with
    | none => rw [e] at h; cases h
    | some ps => rw [e] at h; cases h; exact .tup (SqT.same rh.g h1) (pyRs_dp rh h2 e)
  | _, _, _, .lst (ds := ds) h1 h2, h => by
    unfold D.pyR at h
    cases e : D.pyRs R ds with
    | none => rw [e] at h; cases h
    | some ps => rw [e] at h; cases h; exact .lst (.inl (.inl (rh.g _ _ h1))) (pyRs_dp rh h2 e)
  | _, _, _, .rls (ds := ds) h1 h2, h => by
    unfold D.pyR at h
    cases e : D.pyRs R ds with
    | none => rw [e] at h; cases h
    | some ps => rw [e] at h; cases h; exact .lst (SqL.same rh.g h1) (pyRs_dp rh h2 e)
  | _, _, _, .ref l, h => by
    unfold D.pyR at h
    cases e : R l with
    | none => simp [e] at h
    | some o =>
      cases o with
      | lst ds =>
        simp only [e] at h
        by_cases z : D.plains ds = true
        · rw [if_pos z] at h
          cases h
          obtain ⟨vs, h1, h2⟩ := rh.lst e
          exact .lst (.inl (.inl h1)) (DpAll.same rh.g (h2.dp z))
        · rw [if_neg z] at h; cases h
      | _ => simp [e] at h
  | _, _, _, .ins _ _ _, h => by cases h
  | _, _, _, .dK _ _ _, h => by cases h
  | _, _, _, .dT _ _ _, h => by cases h
  | _, _, _, .lam _ _, h => by cases h
theorem pyRs_dp (rh : RepH K G R H) : ∀ {ds : List D} {vs : List V} {ps : List PyData}, DVs K G ds vs → D.pyRs R ds = some ps → DpAll K H vs ps
  | _, _, _, .nil, h => by cases h; exact .nil
  | _, _, _, .cons (d := d) (ds := ds) a b, h => by
    unfold D.pyRs at h
    cases e1 : D.pyR R d with
    | none => rw [e1] at h; cases h
    | some p =>
      cases e2 : D.pyRs R ds with
      | none => rw [e1, e2] at h; cases h
      | some ps => rw [e1, e2] at h; cases h; exact .cons (pyR_dp rh a e1) (pyRs_dp rh b e2)
end
end
mutual
theorem pyR_plain {R : Rs} : ∀ d : D, d.plain = true → D.pyR R d = some d.py
  | .non, _ => rfl
  | .bl _, _ => rfl
  | .int _, _ => rfl
  | .str _, _ => rfl
  | .ty _, h => by simp [D.plain] at h
  | .ref _, h => by simp [D.plain] at h
  | .tup xs, h => by unfold D.pyR; rw [pyRs_plain xs (by simpa [D.plain] using h)]; rfl
  | .lst xs, h => by unfold D.pyR; rw [pyRs_plain xs (by simpa [D.plain] using h)]; rfl
  | .rls xs, h => by unfold D.pyR; rw [pyRs_plain xs (by simpa [D.plain] using h)]; rfl
  | .ins _ _ _, h => by simp [D.plain] at h
  | .dK _ _, h => by simp [D.plain] at h
  | .dT _ _, h => by simp [D.plain] at h
  | .lam _, h => by simp [D.plain] at h
theorem pyRs_plain {R : Rs} : ∀ ds : List D, D.plains ds = true → D.pyRs R ds = some (D.pys ds)
  | [], _ => rfl
  | d :: ds, h => by
    rw [D.plains, Bool.and_eq_true] at h
    unfold D.pyRs
    rw [pyR_plain d h.1, pyRs_plain ds h.2]
    rfl
end
def rdEqR (neg : Bool) : DR2 := fun x y R Q => ∃ p q, x.pyR R = some p ∧ y.pyR R = some q ∧ SeqAt.shaped p = true ∧ SeqAt.shaped q = true ∧ Q (.bl (if neg then !PyData.eqv p q else PyData.eqv p q)) R
section
variable {X : CxF}
end
/-! ### a pair whose first part is a list that was made: told as one that never changes -/
theorem lose_put {R : Rs} {a : Addr} {o : RO} (h : R a = none) : lose (put R a o) a = R := by
  funext b
  unfold lose put
  by_cases e : b = a
  · subst e; simp [h]
  · simp [e]
theorem CB.frz2 {K : KF} {G : Hp} {R : Rs} {H : Hp} {Qd : DK} {Q : VK} (h : CB K G R H Qd Q) : CB K G R H (fun d R' => ∃ l ds o, d = .tup [.ref l, o] ∧ R' l = some (.lst ds) ∧ Qd (.tup [.lst ds, o]) (lose R' l)) Q := fun G' R' H' d v e rh dv ⟨l, ds, o, ed, hl, q⟩ => by
  subst ed
  obtain ⟨vs, h1, h2⟩ := rh.lst hl
  obtain ⟨S, rh2⟩ := rh.freeze hl h1
  cases dv with
  | tup t1 t2 =>
    cases t2 with
    | cons d1 r1 =>
      cases d1
      cases r1 with
      | cons d2 r2 =>
        cases r2
        exact h _ _ H' _ _ (e.trans S) rh2 (.tup (SqT.same S.g t1) (.cons (.lst upd_same (h2.st S)) (.cons (d2.st S) .nil))) q
def frz2 (dsp : DSp) : DSp := fun ds R Q E => dsp ds R (fun d R' => ∃ l xs o, d = .tup [.ref l, o] ∧ R' l = some (.lst xs) ∧ Q (.tup [.lst xs, o]) (lose R' l)) E
theorem FnG.frz2 {P : Program} {w : World} {K : KB} {mg : Str → Option Value} {base : Heap} {CX : CXT} {k : Nat} {f : Addr} {fd : FuncData} {ps : List Str} {dsp : DSp} (F : FnG P w K mg base CX k f fd ps (spOf K dsp)) : FnG P w K mg base CX k f fd ps (spOf K (frz2 dsp)) :=
  F.imp fun vs H Q E ⟨G, ds, R, Qd, Ed, dv, rh, q, cb, cx⟩ => ⟨G, ds, R, _, Ed, dv, rh, q, cb.frz2, cx⟩
/-! ### dict(pairs) -/
def mergeKD (acc more : List (Key × D)) : List (Key × D) := more.foldl (fun a kv => putKD a kv.1 kv.2) acc
theorem merge_dv {K : PySem.W.Frag} {G : Hp} : ∀ {more acc : List (Key × D)} {us vs : List V}, DVs K G (acc.map (·.2)) us → DVs K G (more.map (·.2)) vs →
    ∃ ws, mergeK ((acc.map (·.1)).zip us) ((more.map (·.1)).zip vs) = ((mergeKD acc more).map (·.1)).zip ws ∧ DVs K G ((mergeKD acc more).map (·.2)) ws
  | [], acc, us, _, h, .nil => ⟨us, rfl, h⟩
  | p :: more, acc, us, _, h, .cons (v := v) (vs := vs) h1 h2 => by
    obtain ⟨ws, e1, e2⟩ := put_dv (k := p.1) h1 h
    obtain ⟨zs, e3, e4⟩ := merge_dv e2 h2
    refine ⟨zs, ?_, e4⟩
    show mergeK (putK ((acc.map (·.1)).zip us) p.1 v) ((more.map (·.1)).zip vs) = _
    rw [e1, e3]
    rfl
theorem valD_none {κ : Type} [DecidableEq κ] {acc : List (κ × D)} {k : κ} (h : k ∉ acc.map (·.1)) : valD acc k = none := by
  induction acc with
  | nil => rfl
  | cons p r ih =>
    rw [valD_cons]
    simp only [List.map_cons, List.mem_cons, not_or] at h
    rw [if_neg (Ne.symm h.1), ih h.2]
theorem mergeKD_nodup : ∀ (more acc : List (Key × D)), ((acc ++ more).map (·.1)).Nodup → mergeKD acc more = acc ++ more
  | [], acc, _ => by rw [List.append_nil]; rfl
  | p :: more, acc, h => by
    show mergeKD (putKD acc p.1 p.2) more = _
    have hp : p.1 ∉ acc.map (·.1) := by
      rw [List.map_append, List.nodup_append] at h
      intro z
      exact h.2.2 _ z p.1 (by simp) rfl
    rw [putKD_new _ (valD_none hp), mergeKD_nodup more (acc ++ [(p.1, p.2)]) (by simpa using h)]
    simp
def keyD : Key → D
  | .inl i => .int i
  | .inr x => .str x
theorem keyD_of (k : Key) : keyOf (keyD k) = some k := by cases k <;> rfl
/-! ### displays of dicts -/
def dPairs : List (DTE × DTE) → DSt → Rs → (List (D × D) → Rs → Prop) → Prop
  | [], _, R, Q => Q [] R
  | (tk, tv) :: r, s, R, Q => tk s R fun x R1 => tv s R1 fun y R2 => dPairs r s R2 fun ps R3 => Q ((x, y) :: ps) R3
inductive DPs (X : CxF) (pos : Pos) : List (Option Expr) → List Expr → List (DTE × DTE) → Prop where
  | nil : DPs X pos [] [] []
  | cons {k v : Expr} {ks : List (Option Expr)} {vs : List Expr} {tk tv : DTE} {trs : List (DTE × DTE)} (hk : DE X k tk) (hv : DE X v tv) (hr : DPs X pos ks vs trs) : DPs X pos (some k :: ks) (v :: vs) ((tk, tv) :: trs)
theorem dps_pps {X : CxF} {pos : Pos} {ks : List (Option Expr)} {vs : List Expr} {trs : List (DTE × DTE)} (h : DPs X pos ks vs trs) : ∃ ts, PPs X pos ks vs ts ∧ ∀ G sd s R H (Qd : List (D × D) → Rs → Prop) (Q : List (V × V) → Hp → Prop), SV X.K G sd s → RepH X.K G R H → dPairs trs sd R Qd →
    (∀ G' R' H' ps xs ys, Stp G R H G' R' H' → RepH X.K G' R' H' → DVs X.K G' (ps.map (·.1)) xs → DVs X.K G' (ps.map (·.2)) ys → Qd ps R' → Q (xs.zip ys) H') → tPairs ts s H Q := by
  induction h with
  | nil => exact ⟨[], pps_nil, fun G sd s R H Qd Q sv rh q k => k G R H [] [] [] (Stp.refl _ _ _) rh .nil .nil q⟩
  | cons hk hv hr ih =>
    obtain ⟨tk, a1, a2⟩ := hk
    obtain ⟨tv, b1, b2⟩ := hv
    obtain ⟨ts, c1, c2⟩ := ih
    refine ⟨(tk, tv) :: ts, pps_cons a1 b1 c1, fun G sd s R H Qd Q sv rh q k => a2 G sd s R H _ _ sv rh q fun G1 R1 H1 d1 v1 e1 rh1 dv1 q1 => b2 G1 sd s R1 H1 _ _ (sv.st e1) rh1 q1 fun G2 R2 H2 d2 v2 e2 rh2 dv2 q2 => ?_⟩
    exact c2 G2 sd s R2 H2 _ _ ((sv.st e1).st e2) rh2 q2 fun G3 R3 H3 ps xs ys e3 rh3 dx dy q3 => k G3 R3 H3 ((d1, d2) :: ps) (v1 :: xs) (v2 :: ys) (e1.trans (e2.trans e3)) rh3 (.cons ((dv1.st e2).st e3) dx) (.cons (dv2.st e3) dy) q3
def dDisp (trs : List (DTE × DTE)) : DTE := fun s R Q => dPairs trs s R fun ps R1 => ∃ kvs : List (Key × D), ps = kvs.map (fun p => (keyD p.1, p.2)) ∧ kvs.length ≤ 15 ∧ (kvs.map (·.1)).Nodup ∧ Q (.dK (kvs.map (·.1)) (kvs.map (·.2))) R1
theorem keys_zip {K : PySem.W.Frag} {G : Hp} : ∀ {kvs : List (Key × D)} {xs ys : List V}, DVs K G (kvs.map fun p => keyD p.1) xs → DVs K G (kvs.map (·.2)) ys → xs.zip ys = ((kvs.map (·.1)).zip ys).map fun kv => (kV kv.1, kv.2)
  | [], _, _, .nil, .nil => rfl
  | p :: kvs, _, _, .cons (v := v) h t, .cons (v := u) h' t' => by
    have e := keys_zip t t'
    rw [key_dv (keyD_of p.1) h]
    exact congrArg ((kV p.1, u) :: ·) e
/-! ### d.get(k, x) -/
def dGet2 (td ty tx : DTE) : DTE := fun s R Q => td s R fun o R1 => (∃ l, dkOf R1 o = some l) ∧ ty s R1 fun y R2 => tx s R2 fun z R3 => ∃ kvs k, dkOf R3 o = some kvs ∧ keyOf y = some k ∧ Q ((valD kvs k).getD z) R3
/-! ### a def with defaults -/
section
variable {P : Program} {w : World} {K : KB} {mg : Str → Option Value} {base : Heap}
end
/-! ### C() whose __init__ has defaults for all -/
section
variable {X : Cx} {CX : CXT} {k : Nat} {f C : Addr} {fd : FuncData} {ps : List Str} {sp : Sp} {E : L2.St → XK} {x : Str} {p pos : Pos} {dvs : List V} {ds : List Value}
def tMake0 (C : Addr) (sp : Sp) (E : L2.St → XK) (dvs : List V) : TE := fun σ H Q => ∀ x dx, H x = none → H dx = none → dx ≠ x → sp (.ref x :: dvs) (upd (upd H dx (.own x)) x (.ins C dx [])) (fun v H2 => v = .non ∧ Q (.ref x) H2) (E σ)
end
/-- a class by its name, all of whose __init__'s parameters have defaults dd -/
structure MakDX0 (P : Program) (w : World) (K : KB) (mg : Str → Option Value) (base : Heap) (k : Nat) (x : Str) (C : Addr) (dd : List D) (dsp : DSp) : Prop where
  ex : ∃ (f : Addr) (fd : FuncData) (ps : List Str) (dvs : List V) (ds : List Value), FnG P w K mg base (L2.CX P w) k f fd ps (spOf K dsp) ∧ Mk K C f ∧ mg x = some (.ref C) ∧ Binds K fd ps ds ∧ Vals dvs ds ∧ ∀ G, DVs K G dd dvs
def dNew0F (C : Addr) (dd : List D) (dsp : DSp) (Wd : DWX) : DTE := fun s R Q => ∀ x dx, R x = none →
  dsp (.ref x :: dd) (put R x (.ins C dx [])) (fun d R2 => d = .non ∧ ∃ dx' fs, R2 x = some (.ins C dx' fs) ∧ Q (.ins C (fs.map (·.1)) (fs.map (·.2))) (lose R2 x)) (fun cls fs R' => Wd cls fs s R')
end DL
end
section
set_option Elab.async false
set_option maxRecDepth 100000
set_option linter.all false
set_option autoImplicit false
/-! DLN: x.index(e), x a tuple of texts of the module -/
namespace DL
open PySem PySem.Spec PyProof.Rows L2
variable [TabCtx]
/-- a name of the module that holds a written tuple of texts -/
def GCT (K : PySem.W.Frag) (mg : Str → Option Value) (x : Str) (xs : List Str) : Prop := ∃ (a : Addr) (o : Obj), mg x = some (.ref a) ∧ K.lookup a = some o ∧ o.cls = .type "tuple" ∧ o.dict = none ∧ ∀ H, SqT K H a (xs.map V.str)
def dGIndex (xs : List Str) (t : DTA) : DTE := fun s R Q => t s R fun ds R1 => ∃ y j, ds = [.str y] ∧ xs[j]? = some y ∧ (∀ m, m < j → xs[m]? ≠ some y) ∧ Q (.int (j : Nat)) R1
end DL
end
section
set_option Elab.async false
set_option maxRecDepth 100000
set_option linter.all false
set_option autoImplicit false
/-! DLO: ranges downwards; a def that returns (x, list) told frozen -/
namespace DL
open PySem PySem.Spec PyProof.Rows L2
variable [TabCtx]
/-- range(i, j, -1) -/
def dIRng3 (t : DTA) : DTI := fun s R Kd => t s R fun ds R1 => ∃ i j : Int, ds = [.int i, .int j, .int (-1)] ∧ -(2 ^ 62) ≤ i ∧ i < 2 ^ 62 ∧ -(2 ^ 62) ≤ j ∧ j < 2 ^ 62 ∧ Kd ((List.range (i - j).toNat).map fun k => D.int (i - (k : Nat))) (fun _ => True) R1
theorem CB.frz2b {K : KF} {G : Hp} {R : Rs} {H : Hp} {Qd : DK} {Q : VK} (h : CB K G R H Qd Q) : CB K G R H (fun d R' => ∃ l ds o, d = .tup [o, .ref l] ∧ R' l = some (.lst ds) ∧ Qd (.tup [o, .lst ds]) (lose R' l)) Q := fun G' R' H' d v e rh dv ⟨l, ds, o, ed, hl, q⟩ => by
  subst ed
  obtain ⟨vs, h1, h2⟩ := rh.lst hl
  obtain ⟨S, rh2⟩ := rh.freeze hl h1
  cases dv with
  | tup t1 t2 =>
    cases t2 with
    | cons d1 r1 =>
      cases r1 with
      | cons d2 r2 =>
        cases d2
        cases r2
        exact h _ _ H' _ _ (e.trans S) rh2 (.tup (SqT.same S.g t1) (.cons (d1.st S) (.cons (.lst upd_same (h2.st S)) .nil))) q
/-- a def that returns (x, new list): told frozen -/
def frz2b (dsp : DSp) : DSp := fun ds R Q E => dsp ds R (fun d R' => ∃ l xs o, d = .tup [o, .ref l] ∧ R' l = some (.lst xs) ∧ Q (.tup [o, .lst xs]) (lose R' l)) E
theorem FnG.frz2b {P : Program} {w : World} {K : KB} {mg : Str → Option Value} {base : Heap} {CX : CXT} {k : Nat} {f : Addr} {fd : FuncData} {ps : List Str} {dsp : DSp} (F : FnG P w K mg base CX k f fd ps (spOf K dsp)) : FnG P w K mg base CX k f fd ps (spOf K (frz2b dsp)) :=
  F.imp fun vs H Q E ⟨G, ds, R, Qd, Ed, dv, rh, q, cb, cx⟩ => ⟨G, ds, R, _, Ed, dv, rh, q, cb.frz2b, cx⟩
end DL
end
section
set_option Elab.async false
set_option maxRecDepth 100000
set_option linter.all false
set_option autoImplicit false
/-! DLM: what a def returns, told frozen (lists at any depth) -/
namespace DL
open PySem PySem.Spec PyProof.Rows L2
variable [TabCtx]
mutual
/-- d' is d with some of its lists, which stand in R, told as ones that change no more -/
inductive Fz : D → Rs → D → Rs → Prop
  | same (d : D) (R : Rs) : Fz d R d R
  | ref {l : Addr} {ds ds' : List D} {R R' : Rs} : Fzs ds R ds' R' → R l = some (.lst ds) → R' l = some (.lst ds) → Fz (.ref l) R (.lst ds') (lose R' l)
  | tup {ds ds' : List D} {R R' : Rs} : Fzs ds R ds' R' → Fz (.tup ds) R (.tup ds') R'
  | lst {ds ds' : List D} {R R' : Rs} : Fzs ds R ds' R' → Fz (.lst ds) R (.lst ds') R'
  | dK {ks : List Key} {ds ds' : List D} {R R' : Rs} : Fzs ds R ds' R' → Fz (.dK ks ds) R (.dK ks ds') R'
inductive Fzs : List D → Rs → List D → Rs → Prop
  | nil (R : Rs) : Fzs [] R [] R
  | cons {d d' : D} {ds ds' : List D} {R R1 R2 : Rs} : Fz d R d' R1 → Fzs ds R1 ds' R2 → Fzs (d :: ds) R (d' :: ds') R2
end
theorem Fzs.len : ∀ {ds ds' : List D} {R R' : Rs}, Fzs ds R ds' R' → ds.length = ds'.length
  | _, _, _, _, .nil _ => rfl
  | _, _, _, _, .cons _ h => congrArg Nat.succ h.len
section
variable {K : KF} {H : Hp}
mutual
theorem Fz.dv : ∀ {d d' : D} {R R' : Rs}, Fz d R d' R' → ∀ {G : Hp} {v : V}, RepH K G R H → DV K G d v → ∃ G', Stp G R H G' R' H ∧ RepH K G' R' H ∧ DV K G' d' v
  | _, _, _, _, .same d R, G, v, rh, dv => ⟨G, Stp.refl _ _ _, rh, dv⟩
  | _, _, _, _, .ref (l := l) (ds := ds) f e e', G, v, rh, dv => by
    cases dv
    obtain ⟨vs, h1, h2⟩ := rh.lst e
    obtain ⟨G1, S1, rh1, dv1⟩ := Fzs.dv f rh h2
    obtain ⟨S2, rh2⟩ := rh1.freeze e' h1
    exact ⟨_, S1.trans S2, rh2, .lst upd_same (dv1.st S2)⟩
  | _, _, _, _, .tup f, G, v, rh, dv => by
    cases dv with
    | tup t1 t2 =>
      obtain ⟨G1, S1, rh1, dv1⟩ := Fzs.dv f rh t2
      exact ⟨G1, S1, rh1, .tup (SqT.same S1.g t1) dv1⟩
  | _, _, _, _, .lst f, G, v, rh, dv => by
    cases dv with
    | lst t1 t2 =>
      obtain ⟨G1, S1, rh1, dv1⟩ := Fzs.dv f rh t2
      exact ⟨G1, S1, rh1, .lst (S1.g _ _ t1) dv1⟩
  | _, _, _, _, .dK f, G, v, rh, dv => by
    cases dv with
    | dK t1 t2 t3 =>
      obtain ⟨G1, S1, rh1, dv1⟩ := Fzs.dv f rh t3
      exact ⟨G1, S1, rh1, .dK (S1.g _ _ t1) (t2.trans f.len) dv1⟩
theorem Fzs.dv : ∀ {ds ds' : List D} {R R' : Rs}, Fzs ds R ds' R' → ∀ {G : Hp} {vs : List V}, RepH K G R H → DVs K G ds vs → ∃ G', Stp G R H G' R' H ∧ RepH K G' R' H ∧ DVs K G' ds' vs
  | _, _, _, _, .nil R, G, vs, rh, dv => by
    cases dv
    exact ⟨G, Stp.refl _ _ _, rh, .nil⟩
  | _, _, _, _, .cons a b, G, vs, rh, dv => by
    cases dv with
    | cons d1 d2 =>
      obtain ⟨G1, S1, rh1, dv1⟩ := Fz.dv a rh d1
      obtain ⟨G2, S2, rh2, dv2⟩ := Fzs.dv b rh1 (d2.st S1)
      exact ⟨G2, S1.trans S2, rh2, .cons (dv1.st S2) dv2⟩
end
end
theorem CB.frz {K : KF} {G : Hp} {R : Rs} {H : Hp} {Qd : DK} {Q : VK} (h : CB K G R H Qd Q) : CB K G R H (fun d R' => ∃ d' R'', Fz d R' d' R'' ∧ Qd d' R'') Q := fun G' R' H' d v e rh dv ⟨d', R'', f, q⟩ => by
  obtain ⟨G1, S, rh1, dv1⟩ := f.dv rh dv
  exact h _ _ H' _ _ (e.trans S) rh1 dv1 q
/-- what a def returns, told frozen -/
def frz (dsp : DSp) : DSp := fun ds R Q E => dsp ds R (fun d R' => ∃ d' R'', Fz d R' d' R'' ∧ Q d' R'') E
theorem FnG.frz {P : Program} {w : World} {K : KB} {mg : Str → Option Value} {base : Heap} {CX : CXT} {k : Nat} {f : Addr} {fd : FuncData} {ps : List Str} {dsp : DSp} (F : FnG P w K mg base CX k f fd ps (spOf K dsp)) : FnG P w K mg base CX k f fd ps (spOf K (frz dsp)) :=
  F.imp fun vs H Q E ⟨G, ds, R, Qd, Ed, dv, rh, q, cb, cx⟩ => ⟨G, ds, R, _, Ed, dv, rh, q, cb.frz, cx⟩
theorem Fzs.same : ∀ (ds : List D) (R : Rs), Fzs ds R ds R
  | [], R => .nil R
  | d :: ds, R => .cons (.same d R) (Fzs.same ds R)
end DL
end
section
set_option Elab.async false
set_option maxRecDepth 100000
set_option linter.all false
set_option autoImplicit false
/-! DLP: == and len by own methods -/
namespace DL
open PySem PySem.Spec PyProof.Rows L2
variable [TabCtx]
/-! ### x == y by an own __eq__ -/
section
variable {X : Cx} {CX : CXT} {k : Nat} {f C : Addr} {fd : FuncData} {ps : List Str} {sp : Sp}
def rEqC (C : Addr) (sp : Sp) : R2 := fun x y H Q => ∃ a dx fs b dy gs, x = .ref a ∧ H a = some (.ins C dx fs) ∧ y = .ref b ∧ H b = some (.ins C dy gs) ∧ sp [x, y] H (fun v H2 => ∃ b, v = .bl b ∧ Q (.bl b) H2) (fun _ _ _ => False)
end
def rdEqC (C : Addr) (dsp : DSp) : DR2 := fun x y R Q => insAt R x C "__eq__" ∧ insAt R y C "__eq__" ∧ dsp [x, y] R (fun d R2 => ∃ b, d = .bl b ∧ Q (.bl b) R2) Ed0
section
variable {X : CxF} {C : Addr} {k j : Nat} {dsp : DSp}
end
/-! ### len(x) by an own __len__ -/
section
variable {X : Cx} {k : Nat} {f C : Addr} {fd : FuncData} {ps : List Str} {sp : Sp}
def rLenC (C : Addr) (sp : Sp) : List V → Hp → VK → Prop := fun xs H Q => ∃ a dx fs, xs = [.ref a] ∧ H a = some (.ins C dx fs) ∧ sp xs H (fun v H2 => ∃ n : Nat, v = .int n ∧ n < 2 ^ 62 ∧ Q (.int n) H2) (fun _ _ _ => False)
end
def rdLenC (C : Addr) (dsp : DSp) : D → Rs → DK → Prop := fun d R Q => insAt R d C "__len__" ∧ dsp [d] R (fun v R2 => ∃ n : Nat, v = .int n ∧ n < 2 ^ 62 ∧ Q (.int n) R2) Ed0
section
variable {X : CxF} {C : Addr} {k j : Nat} {dsp : DSp}
end
/-! ### a method with a rest: def m(self, *rest) -/
/-- what a def with a rest promises, told of all its arguments -/
structure FnSt (P : Program) (w : World) (K : PySem.W.Frag) (mg : Str → Option Value) (base : Heap) (CX : CXT) (k : Nat) (f : Addr) (sp : Sp) : Prop where
  go : ∀ (A : Around), A.guards = some [] → Room k A → ∀ (outer : List Env) (s : Shared) (H : Hp), Env0 P w K mg base A outer s H →
    ∀ (us : List Value) (vs : List V) (Q : VK) (E : XK), Vals vs us → sp vs H Q E → codeAny (model P w) A (.call (.ref f) ⟨us, []⟩) (CR CX outer P w H s Q E) s
def starD (n : Nat) (dsp : DSp) : DSp := fun ds R Q E => ∃ ws rest, ds = ws ++ rest ∧ ws.length = n ∧ rest.length ≤ sizeLine ∧ dsp (ws ++ [.tup rest]) R Q E
theorem dvs_split {K : PySem.W.Frag} {G : Hp} : ∀ {ws rest : List D} {vs : List V}, DVs K G (ws ++ rest) vs → ∃ v1 v2, vs = v1 ++ v2 ∧ DVs K G ws v1 ∧ DVs K G rest v2
  | [], _, vs, h => ⟨[], vs, rfl, .nil, h⟩
  | w :: ws, rest, vs, h => by
    cases h with
    | cons a b =>
      obtain ⟨v1, v2, e, h1, h2⟩ := dvs_split b
      subst e
      exact ⟨_, v2, rfl, .cons a h1, h2⟩
section
variable {P : Program} {w : World} {K : KB} {mg : Str → Option Value} {base : Heap}
theorem okXS {x qual pv : Str} {st : Stmt} {f : Addr} {fd : FuncData} {N ps : List Str} {k : Nat} {dsp : DSp} (F : Fun K x qual st f fd) (S : FnScope N (ps ++ [pv]) (defScope st))
    (hb : ∀ (kV doc pm : Value) (an : Option Addr) (cdv ct : Value) (us rest : List Value), us.length = ps.length → bindArgs (PySem.W.fnOf x qual (defArgs st) (defBody st) (defScope st) .none kV doc pm an cdv ct) ⟨us ++ rest, []⟩ = (newTuple rest >>= fun t => pure (ps.zip us ++ [(pv, t)])))
    (hbody : ∀ {Φ : Phi} (cdv : Value) (A : Around) (outer : List Env) (s : Shared) (H : Hp) (E : XK) (Ed : DXK), A.guards = some [] → Room k (A.deeper (envOfC qual (defScope st) s.heap.objs.size f cdv)) →
      TakesD ⟨cxOf (L2.CX P w) P w K mg base N qual (defScope st) f cdv A outer s H E, Φ, K.B⟩ (fun cls fs _ R => FinX Ed cls fs R) →
      ∃ t, DSs ⟨cxOf (L2.CX P w) P w K mg base N qual (defScope st) f cdv A outer s H E, Φ, K.B⟩ (defBody st) t ∧ ∀ ds R Qd, dsp ds R Qd Ed → t { nx := fun _ R' => Fin Qd .non R', rt := Fin Qd } (dstart N ds) R) : FnSt P w K mg base (L2.CX P w) (k + 1) f (spOf K (starD ps.length dsp)) := by
  obtain ⟨oc, od, kV, doc, pm, an, cdv, ct, osl, rfl, lk, cd⟩ := F.ex
  refine ⟨fun A gd hr outer s H e0 us vs Q E r hsp => ?_⟩
  obtain ⟨G, ds, R, Qd, Ed, dv, rh, ⟨ws, rest, eds, hl, hz, q⟩, cb, cx⟩ := hsp
  subst eds
  obtain ⟨vw, vr, ev, dw, dr⟩ := dvs_split dv
  subst ev
  obtain ⟨u1, u2, eu, r1, r2⟩ := StX.vals_split r
  subst eu
  have hn : H s.heap.objs.size = Option.none := e0.hok.fresh (Nat.le_refl _)
  have hl0 : vw.length = ps.length := by rw [← dw.length]; exact hl
  have hl1 : u1.length = ps.length := by rw [← r1.length]; exact hl0
  have hzv : vr.length ≤ sizeLine := by rw [← dr.length]; exact hz
  have hl2 : u2.length ≤ sizeLine := by rw [← r2.length]; exact hzv
  refine StX.run_bnd lk cd S hr e0 (G := fun xs H2 => ∃ p, H p = Option.none ∧ xs = vw ++ [V.ref p] ∧ H2 = upd H p (.tup vr)) (fun A' Ex Q' h => ?_) fun s2 H2 xs ⟨p, hp, ex, eH⟩ hr' => ?_
  · rw [hb kV doc pm an cdv ct u1 u2 hl1]
    refine wpAny_bind (wpAny_newTuple (wpAny_pure ?_) hl2)
    have new : ObjOk P w (upd H s.heap.objs.size (.tup vr)) (s.heap.push ({ cls := .type "tuple", data := .seq u2.toArray } : Obj)) s.heap.objs.size (.tup vr) := ⟨hzv, u2, r2, ⟨_, Heap.get?_push_size _ rfl, rfl, _, rfl⟩⟩
    have un := StX.un_laid (fs := frs outer) (s := s) (o := ({ cls := .type "tuple", data := .seq u2.toArray } : Obj)) (u := .tup vr) hn
    have z := h _ _ (vw ++ [V.ref s.heap.objs.size]) (u1 ++ [Value.ref s.heap.objs.size]) (StX.env0_laid e0 new) un rfl (fun e s' => StX.cxUp outer s H _ _ E e s' un (fun b o q => Heap.get?_push_of_some _ q) rfl) (r1.append (.cons rfl .nil))
      (by rw [List.length_append, List.length_append, hl0] <;> rfl) ⟨_, hn, rfl, rfl⟩
    rw [List.zip_append hl1.symm] at z
    exact z
  · subst ex eH
    obtain ⟨s1, rh1⟩ := rh.imm (o := .tup vr) hp
    have dv1 := (dw.st s1).append (DVs.cons (.tup (.inl (.inl upd_same)) (dr.st s1)) .nil)
    have cb1 := cb.st s1
    have cx1 := cx.st s1
    have tk : TakesD ⟨cxOf (L2.CX P w) P w K mg base N qual (defScope st) f cdv A outer s2 (upd H p (.tup vr)) E, Phi.of (upd G p (.tup vr)) R (upd H p (.tup vr)), K.B⟩ (fun cls fs _ R => FinX Ed cls fs R) :=
      ⟨fun cls d _ H => E cls d H, takes_of rfl rfl rfl rfl, fun G' R' H' cls od fs sd σ sv rh' ex ⟨R2, s2, q2⟩ => cx1 G' R2 H' cls od fs (Stp.drop rh'.φ s2) (rh'.sub0 s2).toAll (ex.drop s2) q2⟩
    obtain ⟨t, ⟨t0, a1, a2⟩, hh⟩ := hbody cdv A outer s2 (upd H p (.tup vr)) E Ed gd hr' tk
    have cb' := (cb1.fin).ofAll (Φ := Phi.of (upd G p (.tup vr)) R (upd H p (.tup vr)))
    exact ⟨t0, a1, a2 _ _ _ R _ _ _ (SV.start dv1) (rh1.ofAll (Stp.refl _ R _)) (hh _ R Qd q) ⟨fun G' sd s R' H' e sv rh' q => cb' G' R' H' _ _ e rh' .non q, fun G' R' H' d v e rh' dv' q => cb' G' R' H' d v e rh' dv' q, fun _ _ _ _ _ _ _ _ q => q.elim, fun _ _ _ _ _ _ _ _ q => q.elim⟩⟩
end
section
variable {X : Cx} {CX : CXT} {k : Nat} {f C : Addr} {sp : Sp} {E : L2.St → XK} {x m : Str} {p pos apos : Pos} {e o : Expr} {es : List Expr} {ta : TE} {t : TA}
theorem goSt {pins : List (Addr × Obj)} {σ : L2.St} {H : Hp} {s : Shared} {Q : VK} {us : List Value} {vs : List V} (F : FnSt X.prog X.w X.K X.mg X.base CX k f sp) (hgd : X.A.guards = some []) (room : Room k X.A) (ps' : PassesAt CX X σ (E σ))
    (I : Inv X pins σ H s) (rv : Vals vs us) (q : sp vs H Q (E σ)) : wpAny (model X.prog X.w) X.A (call (.ref f) us) (EP X pins σ Q) X.xe s := by
  apply wpAny_call
  apply codeAny_mono (F.go X.A hgd room X.stack s H I.env0 us vs Q (E σ) rv q)
  rintro (er | fl) s' z
  · exact ps' pins H s er s' I z
  · cases fl <;> first | exact False.elim z | exact I.after z
end
/-- a method with a rest, by its name, that may raise -/
structure MetS (P : Program) (w : World) (K : KB) (mg : Str → Option Value) (base : Heap) (k : Nat) (C : Addr) (m : Str) (dsp : DSp) : Prop where
  ex : ∃ f : Addr, FnSt P w K mg base (L2.CX P w) k f (spOf K dsp) ∧ Cls K C ∧ Meth K C m f
section
variable {X : CxF} {k j : Nat} {C : Addr} {m : Str} {dsp : DSp} {Wd : DWX} {apos pos : Pos} {o e : Expr} {es : List Expr} {to : DTE} {t : DTA}
end
/-! ### repr of bigger data -/
theorem showable_all : ∀ {ds : List D}, (∀ d ∈ ds, d.py.showable = true) → PyData.showableAll (D.pys ds) = true
  | [], _ => by simp [D.pys, PyData.showableAll]
  | d :: ds, h => by
    rw [D.pys, PyData.showableAll, h d (by simp), showable_all fun e he => h e (by simp [he])]; rfl
theorem showable_lst {ds : List D} (h : ∀ d ∈ ds, d.py.showable = true) : (D.lst ds).py.showable = true := by
  rw [D.py, PyData.showable]; exact showable_all h
theorem showable_tup {ds : List D} (h : ∀ d ∈ ds, d.py.showable = true) : (D.tup ds).py.showable = true := by
  rw [D.py, PyData.showable]; exact showable_all h
section
variable {h w : Nat} {d : D} {R : Rs} {Q : DK}
theorem Sm.r3B (a : Sm h w d) (h1 : h ≤ 64) (h2 : w ≤ 1048576) : d.py.shown.length ≤ sizeLine := by
  have hl : d.py.layable0 = true := by
    show (PyData.canLay0 d.py && decide (PyData.depth d.py ≤ 64) && decide (PyData.weight d.py ≤ 2 ^ 20)) = true
    have := a.dep; have := a.wei
    rw [a.lay, decide_eq_true (by omega), decide_eq_true (by omega)]; rfl
  have := shown_le13 hl a.it
  rw [sizeLine_eq]; omega
end
/-! ### isinstance of an own class -/
structure OwnC (K : PySem.W.Frag) (C : Addr) : Prop where
  cl : Cls K C
  ha : PySem.W.findIn K (.ref C) "__class__" = some (some (.builtin "object.__class__"))
  hn : PySem.W.specialIn K (.builtin "object.__class__") "__get__" = some (some (.builtin "getset_descriptor.__get__"))
  htk : PySem.W.takesIn K (.builtin "object.__class__") = some true
  hm : PySem.W.mroIn K C (.type "object") = some true
  ko : PySem.W.kitOne K (.ref C) (.ref C) = some true
end DL
end
section
set_option Elab.async false
set_option maxRecDepth 100000
set_option linter.all false
set_option autoImplicit false
/-! DLJb: str(x) by an own __str__ -/
namespace DL
open PySem PySem.Spec PyProof.Rows L2
variable [TabCtx]
section
variable {X : Cx} {k : Nat} {f C : Addr} {fd : FuncData} {ps : List Str} {sp : Sp}
def rStrC (C : Addr) (sp : Sp) : List V → Hp → VK → Prop := fun xs H Q => ∃ a dx fs, xs = [.ref a] ∧ H a = some (.ins C dx fs) ∧ sp xs H (fun v H2 => ∃ t : Str, v = .str t ∧ Q (.str t) H2) (fun _ _ _ => False)
end
def rdStrC (C : Addr) (dsp : DSp) : D → Rs → DK → Prop := fun d R Q => insAt R d C "__str__" ∧ dsp [d] R (fun v R2 => ∃ t : Str, v = .str t ∧ Q (.str t) R2) Ed0
section
variable {X : CxF} {C : Addr} {k j : Nat} {dsp : DSp}
end
/-! ### xs += ys, xs a local name -/
section
variable {X : CxF} {i : Nat} {x : Str} {e : Expr} {te : DTE} {pos pos' : Pos}
def dAugX (i : Nat) (te : DTE) : DTS := fun D s R => ∃ l, s[i]? = some (some (.ref l)) ∧ te s R fun y R1 => ∃ xs zs, y = .lst zs ∧ R1 l = some (.lst xs) ∧ xs.length + zs.length ≤ sizeLine ∧ D.nx s (put R1 l (.lst (xs ++ zs)))
end
end DL
end
section
set_option Elab.async false
set_option maxRecDepth 100000
set_option maxHeartbeats 4000000
set_option linter.all false
set_option autoImplicit false
/-! DLJc: split, partition, a, b, *c = list, classmethods, a class held by a local name -/
namespace DL
open PySem PySem.Spec PyProof.Rows L2
variable [TabCtx]
/-! ### texts -/
section
variable {X : CxF}
end
/-! ### in: an int in a tuple or list of ints -/
def rdInI (neg : Bool) : DR2 := fun x y R Q => ∃ (a : Int) (xs : List Int), x = .int a ∧ seqOf R y = some (xs.map D.int) ∧ Q (.bl (if neg then !decide (a ∈ xs) else decide (a ∈ xs))) R
/-! ### a, b, *c = a list -/
section
variable {P : Program} {w : World} {A : Around} {E : Value → Shared → Prop} {s : Shared}
end
def gStarL (K : PySem.W.Frag) (n : Nat) (t : TGs) : TG := fun v σ H Q => ∃ a xs ys, v = .ref a ∧ SqL K H a (xs ++ ys) ∧ xs.length = n ∧ n + ys.length ≤ 16000 ∧ ∀ p, H p = none → t (xs ++ [.ref p]) σ (upd H p (.lst ys)) Q
section
variable {X : CxF} {es : List Expr} {pos : Pos} {k n : Nat}
def dgStarL (n : Nat) (t : DTGs) : DTG := fun d s R Q => ∃ xs ys, d = .lst (xs ++ ys) ∧ xs.length = n ∧ n + ys.length ≤ 16000 ∧ t (xs ++ [.lst ys]) s R Q
end
/-! ### C(..), the class held by a local name -/
section
variable {X : Cx} {CX : CXT} {C f : Addr} {fd : FuncData} {ps : List Str} {k i : Nat} {sp : Sp} {E : L2.St → XK} {x : Str} {p pos : Pos} {e : Expr} {es : List Expr} {t : TA}
def tMakeL (i : Nat) (C : Addr) (sp : Sp) (E : L2.St → XK) (t : TA) : TE := fun σ H Q => σ[i]? = some (some (V.ref C)) ∧ tMakeV C sp E t σ H Q
end
def dNewL (i : Nat) (C : Addr) (dsp : DSp) (Wd : DWX) (t : DTA) : DTE := fun s R Q => s[i]? = some (some (.ref C)) ∧ dNewF C dsp Wd t s R Q
section
variable {X : CxF} {k j : Nat} {x y : Str} {C : Addr} {dsp : DSp} {Wd : DWX} {p pos : Pos} {e : Expr} {es : List Expr} {t : DTA}
end
/-! ### C.m(..), m a classmethod -/
section
variable {X : Cx} {CX : CXT} {E : L2.St → XK} {k : Nat} {C p g : Addr} {mc : Value} {fd : FuncData} {ps : List Str} {sp : Sp} {o e : Expr} {es : List Expr} {m : Str} {pos apos : Pos} {ta : TE} {t : TA} {pl : Sem Bool}
def tCMethG (C : Addr) (sp : Sp) (E : L2.St → XK) (ta : TE) (t : TA) : TE := fun σ H Q => ta σ H fun x H1 => x = .ref C ∧ t σ H1 fun vs H2 => sp (.ref C :: vs) H2 Q (E σ)
end
structure CMetX (P : Program) (w : World) (K : KB) (mg : Str → Option Value) (base : Heap) (k : Nat) (C : Addr) (m : Str) (dsp : DSp) : Prop where
  ex : ∃ (p g : Addr) (mc : Value) (fd : FuncData) (ps : List Str), FnG P w K mg base (L2.CX P w) k g fd ps (spOf K dsp) ∧ ClX.CRead K C mc ∧ ClX.CMet K C mc m p g ∧ Binds K fd ps []
def dCMeth (C : Addr) (dsp : DSp) (Wd : DWX) (to : DTE) (t : DTA) : DTE := fun s R Q => to s R fun x R1 => x = .ref C ∧ t s R1 fun ds R2 => dsp (.ref C :: ds) R2 Q (fun cls fs R' => Wd cls fs s R')
section
variable {X : CxF} {Wd : DWX} {k j : Nat} {C : Addr} {dsp : DSp} {o e : Expr} {es : List Expr} {m : Str} {pos apos : Pos} {to : DTE} {t : DTA} {pl : Sem Bool}
end
/-! ### C.m(x=..), m a classmethod, keywords alone -/
section
variable {X : Cx} {CX : CXT} {E : L2.St → XK} {k : Nat} {C p g : Addr} {mc : Value} {fd : FuncData} {ps ks : List Str} {sp : Sp} {o : Expr} {kws : List Keyword} {m : Str} {pos apos : Pos} {ta : TE} {tk : TA} {pl : Sem Bool} {gu : List Value → List Value → List Value} {gV : List V → List V → List V}
def tCMethK (C : Addr) (m : Nat) (sp : Sp) (gV : List V → List V → List V) (E : L2.St → XK) (ta : TE) (tk : TA) : TE := fun σ H Q => ta σ H fun x H1 => x = .ref C ∧ tk σ H1 fun zs H2 => zs.length = m ∧ sp (gV [.ref C] zs) H2 Q (E σ)
end
structure CMetK (P : Program) (w : World) (K : KB) (mg : Str → Option Value) (base : Heap) (k : Nat) (C : Addr) (m : Str) (ks : List Str) (dsp : DSp) : Prop where
  ex : ∃ (p g : Addr) (mc : Value) (fd : FuncData) (ps : List Str) (gu : List Value → List Value → List Value), FnG P w K mg base (L2.CX P w) k g fd ps (spOf K dsp) ∧ ClX.CRead K C mc ∧ ClX.CMet K C mc m p g ∧ KBn K fd ps 1 ks gu (fun vs zs => vs ++ zs)
def dCMethK (C : Addr) (n : Nat) (dsp : DSp) (Wd : DWX) (to : DTE) (t : DTA) : DTE := fun s R Q => to s R fun x R1 => x = .ref C ∧ t s R1 fun ds R2 => ds.length = n ∧ dsp (.ref C :: ds) R2 Q (fun cls fs R' => Wd cls fs s R')
section
variable {X : CxF} {Wd : DWX} {k j : Nat} {C : Addr} {dsp : DSp} {o : Expr} {kws : List Keyword} {ks : List Str} {m : Str} {pos apos : Pos} {to : DTE} {t : DTA} {pl : Sem Bool}
end
end DL
end
section
set_option Elab.async false
set_option maxRecDepth 100000
set_option maxHeartbeats 4000000
set_option linter.all false
set_option autoImplicit false
/-! DLJd: lambdas that capture -/
namespace DL
open PySem PySem.Spec PyProof.Rows L2 LamX NdefX
variable [TabCtx]
theorem SV.app {K : PySem.W.Frag} {G : Hp} {a b : DSt} {s t : L2.St} (h1 : SV K G a s) (h2 : SV K G b t) : SV K G (a ++ b) (s ++ t) := by
  refine ⟨by rw [List.length_append, List.length_append, h1.len, h2.len], fun i d q => ?_⟩
  by_cases hi : i < a.length
  · rw [List.getElem?_append_left hi] at q
    rw [List.getElem?_append_left (by rw [← h1.len]; exact hi)]
    exact h1.at' i d q
  · rw [List.getElem?_append_right (by omega)] at q
    rw [List.getElem?_append_right (by rw [← h1.len]; omega), ← h1.len]
    exact h2.at' _ d q
theorem SV.somes {K : PySem.W.Frag} {G : Hp} {ds : List D} {vs : List V} (h : DVs K G ds vs) : SV K G (ds.map some) (vs.map some) := by
  refine ⟨by rw [List.length_map, List.length_map, h.length], fun i d q => ?_⟩
  rw [List.getElem?_map] at q
  cases e : ds[i]? with
  | none => rw [e] at q; cases q
  | some x =>
    rw [e] at q
    cases q
    obtain ⟨v, h1, h2⟩ := h.get e
    exact ⟨v, by rw [List.getElem?_map, h1]; rfl, h2⟩
theorem SV.nones {K : PySem.W.Frag} {G : Hp} {n : Nat} : SV K G (List.replicate n none) (List.replicate n none) :=
  ⟨by rw [List.length_replicate, List.length_replicate], fun i d q => by
    rw [List.getElem?_replicate] at q
    split at q <;> cases q⟩
/-- the names' values at a lambda's entry -/
def dstartF (N : List Str) (ds : List D) (cs : DSt) : DSt := ds.map some ++ (cs ++ List.replicate (N.length - ds.length - cs.length) none)
theorem SV.startF {K : PySem.W.Frag} {G : Hp} {N : List Str} {ds : List D} {vs : List V} {cs : DSt} {ws : List (Option V)} (h : DVs K G ds vs) (c : SV K G cs ws) : SV K G (dstartF N ds cs) (NdefX.startF N vs ws) := by
  unfold dstartF NdefX.startF
  rw [h.length, c.len]
  exact (SV.somes h).app (c.app SV.nones)
/-- what is told of captured names beside the arguments -/
abbrev CSp := DSt → DSp
def spLam (K : KB) (dsp : CSp) (ws : List (Option V)) : Sp := fun vs H Q E => ∃ G ds cs R Qd Ed, DVs K G ds vs ∧ SV K G cs ws ∧ RepH ⟨K, .all⟩ G R H ∧ dsp cs ds R Qd Ed ∧ CB ⟨K, .all⟩ G R H Qd Q ∧ CBX ⟨K, .all⟩ G R H Ed E
structure LamC (P : Program) (w : World) (K : KB) (mg : Str → Option Value) (base : Heap) (k : Nat) (L : Lam) (fr : List Str) (dsp : CSp) : Prop where
  ex : ∃ ps, LOk P w K mg base (L2.CX P w) k L ps fr (spLam K dsp)
section
variable {P : Program} {w : World} {K : KB} {mg : Str → Option Value} {base : Heap}
theorem okLC {L : Lam} {N ps fr : List Str} {k : Nat} {dsp : CSp} (S : NScope N ps fr L.scope) (hb : ∀ (pm cv ctv : Value) (us : List Value), us.length = ps.length → bindArgs (PySem.W.kla_fn "<lambda>" L.qual L.params L.body L.scope L.cl pm cv ctv) ⟨us, []⟩ = pure (ps.zip us))
    (len : ∀ cs ds R Q E, dsp cs ds R Q E → ds.length = ps.length)
    (hbody : ∀ {Φ : Phi} (A : Around) (outer : List Env) (s : Shared) (H : Hp) (f c : Addr) (E : XK) (Ed : DXK), A.guards = some [] → Room k (A.deeper (envF (nf L c) f s.heap.objs.size)) →
      TakesD ⟨ncx (L2.CX P w) P w K mg base N (nf L c) f A outer s H E, Φ, K.B⟩ (fun cls fs _ R => FinX Ed cls fs R) →
      ∃ t, DE ⟨ncx (L2.CX P w) P w K mg base N (nf L c) f A outer s H E, Φ, K.B⟩ L.body t ∧ ∀ cs ds R Qd, cs.length = fr.length → dsp cs ds R Qd Ed → t (dstartF N ds cs) R (Fin Qd)) : LamC P w K mg base (k + 1) L fr dsp := by
  refine ⟨ps, lok_of S hb (fun ws vs H Q E ⟨G, ds, cs, R, Qd, Ed, dv, _, _, q, _⟩ => by rw [← dv.length]; exact len cs ds R Qd Ed q) fun A outer s H f c vs ws Q E gd hr hw ⟨G, ds, cs, R, Qd, Ed, dv, sc, rh, q, cb, cx⟩ => ?_⟩
  have tk : TakesD ⟨ncx (L2.CX P w) P w K mg base N (nf L c) f A outer s H E, Phi.of G R H, K.B⟩ (fun cls fs _ R => FinX Ed cls fs R) :=
    ⟨fun cls d _ H => E cls d H, takes_of rfl rfl rfl rfl, fun G' R' H' cls od fs sd σ sv rh' ex ⟨R2, s2, q2⟩ => cx G' R2 H' cls od fs (Stp.drop rh'.φ s2) (rh'.sub0 s2).toAll (ex.drop s2) q2⟩
  obtain ⟨t, ⟨t0, a1, a2⟩, h⟩ := hbody A outer s H f c E Ed gd hr tk
  have cb' := (cb.fin).ofAll (Φ := Phi.of G R H)
  exact ⟨t0, a1, a2 G _ _ R H _ _ (SV.startF dv sc) (rh.ofAll (Stp.refl G R H)) (h cs ds R Qd (sc.len.trans hw) q) fun G' R' H' d v e rh' dv' q => cb' G' R' H' _ _ e rh' dv' q⟩
end
end DL
end
section
set_option Elab.async false
set_option maxRecDepth 100000
set_option maxHeartbeats 4000000
set_option linter.all false
set_option autoImplicit false
/-! DLJe: a def that is handed a lambda which captures; the lambda's call there; a try that keeps what is told -/
namespace DL
open PySem PySem.Spec PyProof.Rows L2 LamX NdefX
variable [TabCtx]
theorem cells_later {cl : List (Str × Addr)} {fr : List Str} {ws : List (Option V)} {h h' : Heap} {H H' : Hp} {fs ex : List Addr} (C : CellsAt cl fr ws h H) (un : Un fs ex H H' h h') (hex : ex = []) : CellsAt cl fr ws h' H' := by
  subst hex
  have kp : ∀ y c, cl.lookup y = some c → ∀ v, h.IsCell c v → h'.IsCell c v := fun y c e v ⟨o, ho, hd⟩ => by
    obtain ⟨sl, q⟩ := un.any ho (C.all y c e).1 (by simp)
    exact ⟨_, q, hd⟩
  refine ⟨C.len, fun y c e => ?_, C.inj, fun i y e => ?_⟩
  · obtain ⟨n, v, z⟩ := C.all y c e
    refine ⟨?_, v, kp y c e v z⟩
    obtain ⟨o, ho, _⟩ := z
    exact un.free c o ho n (by simp)
  · obtain ⟨c, hc, hv⟩ := C.has i y e
    refine ⟨c, hc, fun v ev => ?_⟩
    obtain ⟨u, r, z⟩ := hv v ev
    exact ⟨u, r, kp y c hc _ z⟩

/-! ### a def's promise, the captured cells told at its entry -/
structure FnL (P : Program) (w : World) (K : PySem.W.Frag) (mg : Str → Option Value) (base : Heap) (CX : CXT) (k : Nat) (f : Addr) (fd : FuncData) (ps : List Str) (cl : List (Str × Addr)) (fr : List Str) (sp : List (Option V) → Sp) : Prop where
  len : ∀ ws vs H Q E, sp ws vs H Q E → vs.length = ps.length
  go : ∀ (A : Around), A.guards = some [] → Room k A → ∀ (outer : List Env) (s : Shared) (H : Hp), Env0 P w K mg base A outer s H →
    ∀ (args : Args) (us : List Value) (vs : List V) (ws : List (Option V)) (Q : VK) (E : XK), BindsTo s fd args (ps.zip us) → Vals vs us → CellsAt cl fr ws s.heap H → sp ws vs H Q E → codeAny (model P w) A (.call (.ref f) args) (CR CX outer P w H s Q E) s
section
variable {CX : CXT} {P : Program} {w : World} {K : PySem.W.Frag} {mg : Str → Option Value} {base : Heap} {cl : List (Str × Addr)} {fr : List Str}
theorem FnL.mono {j k : Nat} {f : Addr} {fd : FuncData} {ps : List Str} {sp : List (Option V) → Sp} (F : FnL P w K mg base CX j f fd ps cl fr sp) (h : j ≤ k) : FnL P w K mg base CX k f fd ps cl fr sp :=
  ⟨F.len, fun A g r => F.go A g (r.mono h)⟩
theorem fnL_of {k : Nat} {f : Addr} {name qual : Str} {params : Arguments} {body : List Stmt} {scope : Scope} {dV kV doc pm cdv ct oc : Value} {an od : Option Addr}
    {osl : Array (Option Value)} {N ps : List Str} {sp : List (Option V) → Sp} (lk : K.lookup f = some ⟨oc, od, .func (PySem.W.fnOf name qual params body scope dV kV doc pm an cdv ct), osl⟩) (hcd : PySem.W.codeIn K cdv qual = true) (S : FnScope N ps scope)
    (len : ∀ ws vs H Q E, sp ws vs H Q E → vs.length = ps.length)
    (hbody : ∀ (A : Around), A.guards = some [] → ∀ (outer : List Env) (s : Shared) (H : Hp) (vs : List V) (ws : List (Option V)) (Q : VK) (E : XK), Room k (A.deeper (envOfC qual scope s.heap.objs.size f cdv)) → CellsAt cl fr ws s.heap H → sp ws vs H Q E →
      ∃ t, PSs (cxOf CX P w K mg base N qual scope f cdv A outer s H E) body t ∧ t { nx := fun _ H' => Q .non H', rt := Q } (L2.start N vs) H) :
    FnL P w K mg base CX (k + 1) f (PySem.W.fnOf name qual params body scope dV kV doc pm an cdv ct) ps cl fr sp where
  len := len
  go := by
    intro A gd room outer s H e0 args us vs ws Q E bd rv C q
    have kin : K.In s.heap := e0.mod.kin.keeps fun b o z => (e0.bs b o z).1
    have nl : s.heap.NoLimit := e0.mod.nolimit.keeps fun b o z => (e0.bs b o z).1
    apply codeAny_call_function room.depth (kin _ _ lk) rfl S.co S.gen rfl (PySem.W.codeRec_of kin hcd)
    apply bd
    have kinds : ∀ y ∈ ps.zip us, scope.names.lookup y.1 = some .local ∨ (scope.names.lookup y.1 = some .cell ∧ ((cellsFrom (s.heap.objs.size + 1) scope.names []).lookup y.1).isSome = true) := by
      rintro ⟨n, v⟩ hy
      exact (S.par n (List.of_mem_zip hy).1).imp id fun z => ⟨z, PySem.W.cellsFrom_some _ _ _ (.inl z)⟩
    apply wpAny_newFunctionEnv_cells S.kind kinds
    rintro env rfl s1 ic
    refine ⟨nl.keeps ic.toInCall.keep, codeAny_func ?_⟩
    obtain ⟨t, ht, tq⟩ := hbody A gd outer s H vs ws Q E (room.deeper _) C q
    have inv : Inv (cxOf CX P w K mg base N qual scope f cdv A outer s H E) [] (L2.start N vs) H s1 := inv_start S room.hd e0 (len _ _ _ _ _ q) rv ic
    have done : ∀ {σ' : L2.St} {H' : Hp} {v : V} {u : Value} {s' : Shared}, Inv (cxOf CX P w K mg base N qual scope f cdv A outer s H E) [] σ' H' s' → RelV v u → Q v H' → CE outer P w H s Q u s' := by
      intro σ' H' v u s' J r z
      exact ⟨v, H', J.os, J.bare, J.base, J.hok, r, z⟩
    apply wpAny_mono (ht.run [] s1 _ H _ inv tq)
    · rintro fl s' z
      cases fl with
      | ret u => obtain ⟨v, σ', H', J, r, z⟩ := z; exact done J r z
      | next => obtain ⟨σ', H', J, z⟩ := z; exact done (v := V.non) (u := Value.none) J rfl z
      | brk => obtain ⟨_, _, _, z⟩ := z; exact z.elim
      | cont => obtain ⟨_, _, _, z⟩ := z; exact z.elim
    · exact fun _ _ z => z
end
section
variable {P : Program} {w : World} {K : KB} {mg : Str → Option Value} {base : Heap} {cl : List (Str × Addr)} {fr : List Str}
/-- what the def's body may lean on: the cells hold still what they held, the captured data are known -/
structure Capt (X : CxF) (cl : List (Str × Addr)) (fr : List Str) (cs : DSt) : Prop where
  ex : X.X.ex = []
  at' : ∃ ws, CellsAt cl fr ws X.X.s_0.heap X.X.H_0 ∧ ∀ G R H, X.Φ.p G R H → SV X.X.K G cs ws
theorem okXL {x qual : Str} {st : Stmt} {f : Addr} {fd : FuncData} {N ps : List Str} {k : Nat} {dsp : CSp} (F : Fun K x qual st f fd) (S : FnScope N ps (defScope st)) (len : ∀ cs ds R Q E, dsp cs ds R Q E → ds.length = ps.length)
    (hbody : ∀ {Φ : Phi} (cdv : Value) (A : Around) (outer : List Env) (s : Shared) (H : Hp) (E : XK) (Ed : DXK) (cs : DSt), A.guards = some [] → Room k (A.deeper (envOfC qual (defScope st) s.heap.objs.size f cdv)) → cs.length = fr.length →
      Capt ⟨cxOf (L2.CX P w) P w K mg base N qual (defScope st) f cdv A outer s H E, Φ, K.B⟩ cl fr cs →
      TakesD ⟨cxOf (L2.CX P w) P w K mg base N qual (defScope st) f cdv A outer s H E, Φ, K.B⟩ (fun cls fs _ R => FinX Ed cls fs R) →
      ∃ t, DSs ⟨cxOf (L2.CX P w) P w K mg base N qual (defScope st) f cdv A outer s H E, Φ, K.B⟩ (defBody st) t ∧ ∀ ds R Qd, dsp cs ds R Qd Ed → t { nx := fun _ R' => Fin Qd .non R', rt := Fin Qd } (dstart N ds) R) : FnL P w K mg base (L2.CX P w) (k + 1) f fd ps cl fr (spLam K dsp) := by
  obtain ⟨oc, od, kV, doc, pm, an, cdv, ct, osl, rfl, lk, cd⟩ := F.ex
  refine fnL_of lk cd S (fun ws vs H Q E ⟨G, ds, cs, R, Qd, Ed, dv, _, _, q, _⟩ => by rw [← dv.length]; exact len cs ds R Qd Ed q) fun A gd outer s H vs ws Q E hr C ⟨G, ds, cs, R, Qd, Ed, dv, sc, rh, q, cb, cx⟩ => ?_
  have tk : TakesD ⟨cxOf (L2.CX P w) P w K mg base N qual (defScope st) f cdv A outer s H E, Phi.of G R H, K.B⟩ (fun cls fs _ R => FinX Ed cls fs R) :=
    ⟨fun cls d _ H => E cls d H, takes_of rfl rfl rfl rfl, fun G' R' H' cls od fs sd σ sv rh' ex ⟨R2, s2, q2⟩ => cx G' R2 H' cls od fs (Stp.drop rh'.φ s2) (rh'.sub0 s2).toAll (ex.drop s2) q2⟩
  have cp : Capt ⟨cxOf (L2.CX P w) P w K mg base N qual (defScope st) f cdv A outer s H E, Phi.of G R H, K.B⟩ cl fr cs := ⟨rfl, ws, C, fun G' R' H' e => sc.mono e.g⟩
  obtain ⟨t, ⟨t0, a1, a2⟩, h⟩ := hbody cdv A outer s H E Ed cs gd hr (sc.len.trans C.len) cp tk
  have cb' := (cb.fin).ofAll (Φ := Phi.of G R H)
  exact ⟨t0, a1, a2 G _ _ R H _ _ (SV.start dv) (rh.ofAll (Stp.refl G R H)) (h ds R Qd q) ⟨fun G' sd s R' H' e sv rh' q => cb' G' R' H' _ _ e rh' .non q, fun G' R' H' d v e rh' dv' q => cb' G' R' H' d v e rh' dv' q, fun _ _ _ _ _ _ _ _ q => q.elim, fun _ _ _ _ _ _ _ _ q => q.elim⟩⟩
end

/-! ### the lambda's call by the name that holds it -/
def tCallC (i : Nat) (L : Lam) (sp : Sp) (E : L2.St → XK) (t : TA) : TE := fun σ H Q => ∃ f c, σ[i]? = some (some (.ref f)) ∧ H f = some (LamO f L c) ∧ t σ H fun vs H1 => H1 f = some (LamO f L c) ∧ H1 c = some (CodeO c L.qual) ∧ sp vs H1 Q (E σ)
section
variable {X : Cx} {CX : CXT} {ps fr : List Str} {ws : List (Option V)} {i j k : Nat} {x : Str} {L : Lam} {sp : List (Option V) → Sp} {E : L2.St → XK} {p pos : Pos} {e : Expr} {es : List Expr} {t : TA}
theorem run_C {pins : List (Addr × Obj)} {σ : L2.St} {H : Hp} {s : Shared} {Q : VK} {f c : Addr} {us : List Value} {vs : List V} (Fn : LOk X.prog X.w X.K X.mg X.base CX k L ps fr sp) (C : CellsAt L.cl fr ws X.s_0.heap X.H_0) (hex : X.ex = []) (gd : X.A.guards = some []) (hr : Room j X.A) (hk : k ≤ j) (hx : PassesAt CX X σ (E σ))
    (I : Inv X pins σ H s) (hf : H f = some (LamO f L c)) (hc : H c = some (CodeO c L.qual)) (r : Vals vs us) (q : sp ws vs H Q (E σ)) : wpAny (model X.prog X.w) X.A (call (.ref f) us) (EP X pins σ Q) X.xe s := by
  refine wpAny_call (codeAny_mono (Fn.go X.A gd (hr.mono hk) X.stack s H I.env0 f c us vs ws Q (E σ) hf hc (cells_later C I.base hex) r q) fun r s' hq => ?_)
  cases r with
  | error e => exact hx pins H s e s' I hq
  | ok fl =>
    cases fl with
    | ret u => exact I.after hq
    | next => exact False.elim hq
    | brk => exact False.elim hq
    | cont => exact False.elim hq
theorem pe_callC0 (Fn : LOk X.prog X.w X.K X.mg X.base CX k L ps fr sp) (C : CellsAt L.cl fr ws X.s_0.heap X.H_0) (hex : X.ex = []) (gd : X.A.guards = some []) (hr : Room j X.A) (hk : k ≤ j) (hx : ∀ σ, PassesAt CX X σ (E σ)) (hN : X.N[i]? = some x) (hv : Vis X.env.scope x)
    (hd : (x == ("__debug__" : Str)) = false := by decide) (hcd : (x == ("__classdict__" : Str)) = false := by decide) :
    PE X (.Call (.Name x p) [] [] pos) (tCallC i L (sp ws) E tNil) := by
  refine ⟨fun pins s σ H Q I h => ?_⟩
  obtain ⟨f, c, hs, hf, h1, hc, q⟩ := h
  refine wpAny_Call_Name_kw (thn ((pe_var (pos := p) hN hv hd hcd).run pins s σ H (fun v H1 => v = .ref f ∧ H1 = H) I ⟨.ref f, hs, rfl, rfl⟩) fun u s1 ⟨v, H1, I1, r1, q1⟩ => ?_)
  obtain ⟨ev, eH⟩ := q1
  subst ev
  rw [eH] at I1
  obtain rfl : u = Value.ref f := r1
  refine PySem.W.callWith_F0 (first := []) (lamAt_of I1 hf) ?_
  show wpAny _ _ (call (.ref f) []) _ _ _
  exact run_C Fn C hex gd hr hk (hx σ) I1 hf hc .nil q
end
/-- x(..), x holds the lambda L; cs: what it captured -/
def dCallC (i : Nat) (L : Lam) (cs : DSt) (dsp : CSp) (Wd : DWX) (t : DTA) : DTE := fun s R Q => s[i]? = some (some (.lam L)) ∧ t s R fun ds R1 => dsp cs ds R1 Q (fun cls fs R' => Wd cls fs s R')
section
variable {X : CxF} {i j k : Nat} {x : Str} {L : Lam} {fr : List Str} {cs : DSt} {dsp : CSp} {Wd : DWX} {p pos : Pos} {e : Expr} {es : List Expr} {t : DTA}
theorem LE.callC {K : KF} {t0 : TA} {W : WX} {ws : List (Option V)} (h : LA K t0 t) (lw : LWX K W Wd) (hw : ∀ G R H, K.Φ.p G R H → SV K G cs ws) : LE K (tCallC i L (spLam K.F dsp ws) (WE W) t0) (dCallC i L cs dsp Wd t) := fun G sd s R H Qd Q sv rh q k => by
  obtain ⟨hs, q⟩ := q
  obtain ⟨v, hv, dv⟩ := sv.at' i _ hs
  cases dv with
  | lam h1 h2 =>
    refine ⟨_, _, hv, rh.g _ _ h1, h G sd s R H _ _ sv rh q fun G1 R1 H1 ds vs e1 rh1 dv1 q1 => ?_⟩
    exact ⟨rh1.g _ _ (e1.g _ _ h1), rh1.g _ _ (e1.g _ _ h2), G1, ds, cs, R1, Qd, _, dv1, hw G1 R1 H1 rh1.φ, rh1.toAll, q1, (k.st e1).toAll rh1.φ, fun G' R' H' cls od fs e rh' ex w => lw G' R' H' cls od fs sd s ((sv.st e1).st e) (rh'.ofAll (K.Φ.st e rh1.φ)) ex w⟩
theorem LA.nil0 {K : KF} : LA K tNil dNil := fun G sd s R H Qd Q sv rh q k => k G R H [] [] (Stp.refl G R H) rh .nil q
theorem de_callC0 (i : Nat) (cp : Capt X L.cl fr cs) (c : LamC X.prog X.w X.K.F X.mg X.base k L fr dsp) (gd : X.A.guards = some []) (hr : Room j X.A) (hk : k ≤ j) (tk : TakesD X Wd) (hN : X.N[i]? = some x := by rfl) (hv : Vis X.env.scope x := by first | exact Or.inl rfl | exact Or.inr (Or.inl rfl) | exact Or.inr (Or.inr rfl))
    (hd : (x == ("__debug__" : Str)) = false := by decide) (hcd : (x == ("__classdict__" : Str)) = false := by decide) : DE X (.Call (.Name x p) [] [] pos) (dCallC i L cs dsp Wd dNil) := by
  obtain ⟨ps, Fn⟩ := c.ex
  obtain ⟨hex, ws, C, hw⟩ := cp
  obtain ⟨W, tk, lw⟩ := tk
  exact ⟨_, pe_callC0 (i := i) Fn C hex gd hr hk (fun σ => passAt tk σ) hN hv hd hcd, LE.callC LA.nil0 lw hw⟩
end

/-! ### the def that makes the lambda and hands it on -/
def tCallGL (js : List Nat) (sp : List (Option V) → Sp) (E : L2.St → XK) (t : TA) : TE := fun σ H Q => t σ H fun vs H1 => sp (js.map (slotAt σ)) vs H1 Q (E σ)
section
variable {X : Cx} {CX : CXT} {k : Nat} {f : Addr} {fd : FuncData} {ps fr : List Str} {js : List Nat} {cl : List (Str × Addr)} {sp : List (Option V) → Sp} {E : L2.St → XK} {x : Str} {p pos : Pos} {e : Expr} {es : List Expr} {t : TA}
theorem pe_callGL (F : FnL X.prog X.w X.K X.mg X.base CX k f fd ps cl fr sp) (cp : X.Ok → Caps X cl fr js) (hgd : X.A.guards = some []) (room : Room k X.A) (gl : Gl X x) (hm : X.mg x = some (.ref f)) (kp : PySem.W.keepIn X.K (.ref f) = true) (bd : Binds X.K fd ps []) (ps' : ∀ σ, PassesAt CX X σ (E σ))
    (ha : PA X (e :: es) t) (hdb : (x == ("__debug__" : Str)) = false := by decide) (he : starEach (e :: es) X.env = (false, eval e X.env) :: starEach es X.env := by rfl) (hpl : (backTo pos (starEach es X.env)).any (·.1) = false := by rfl) :
    PE X (.Call (.Name x p) (e :: es) [] pos) (tCallGL js sp E t) :=
  ⟨fun pins s σ H Q I h => wpAny_Call_Name_kw (ld_glob I gl hm (PySem.W.callWith_K (h₀ := X.base) I.ok.mod.kin kp
    (thn (ha.run pos pins s σ H _ I h) fun us s1 ⟨vs, H1, I1, r, q⟩ => ⟨I1.kIn, by
      have n : us.length = ps.length := r.length.symm.trans (F.len _ _ _ _ _ q)
      have b := bd s1 us I1.kIn (by rw [List.append_nil]; exact n)
      rw [List.append_nil] at b
      apply wpAny_call
      apply codeAny_mono (F.go X.A hgd room X.stack s1 H1 I1.env0 ⟨us, []⟩ us vs _ Q (E σ) b r (cells_of I1 (cp I1.ok)) q)
      rintro (er | fl) s' z
      · exact ps' σ pins H1 s1 er s' I1 z
      · cases fl <;> first | exact False.elim z | exact I1.after z⟩) he hpl) hdb)⟩
end
def slotD (s : DSt) (j : Nat) : Option D := match s[j]? with
  | some o => o
  | none => none
theorem SV.slots {K : PySem.W.Frag} {G : Hp} {sd : DSt} {s : L2.St} (h : SV K G sd s) (js : List Nat) : SV K G (js.map (slotD sd)) (js.map (slotAt s)) := by
  refine ⟨by rw [List.length_map, List.length_map], fun i d q => ?_⟩
  rw [List.getElem?_map] at q
  cases e : js[i]? with
  | none => rw [e] at q; cases q
  | some j =>
    rw [e] at q
    have q : slotD sd j = some d := Option.some.inj q
    unfold slotD at q
    cases e2 : sd[j]? with
    | none => rw [e2] at q; cases q
    | some o =>
      rw [e2] at q
      have q : o = some d := q
      subst q
      obtain ⟨v, h1, h2⟩ := h.at' j d e2
      exact ⟨v, by rw [List.getElem?_map, e]; exact congrArg some (slotAt_of h1), h2⟩
def dCallGL (js : List Nat) (dsp : CSp) (Wd : DWX) (t : DTA) : DTE := fun s R Q => t s R fun ds R1 => dsp (js.map (slotD s)) ds R1 Q (fun cls fs R' => Wd cls fs s R')
/-- a def by its name that is handed a lambda -/
structure CalL (P : Program) (w : World) (K : KB) (mg : Str → Option Value) (base : Heap) (k : Nat) (x : Str) (cl : List (Str × Addr)) (fr : List Str) (dsp : CSp) : Prop where
  ex : ∃ (f : Addr) (fd : FuncData) (ps : List Str), FnL P w K mg base (L2.CX P w) k f fd ps cl fr (spLam K dsp) ∧ mg x = some (.ref f) ∧ PySem.W.keepIn K (.ref f) = true ∧ Binds K fd ps []
section
variable {X : CxF} {k j : Nat} {x : Str} {fr : List Str} {js : List Nat} {cl : List (Str × Addr)} {dsp : CSp} {Wd : DWX} {p pos : Pos} {e : Expr} {es : List Expr} {t : DTA}
theorem de_callGL (cp : X.X.Ok → Caps X.X cl fr js) (c : CalL X.prog X.w X.K.F X.mg X.base k x cl fr dsp) (gd : X.A.guards = some []) (hr : Room j X.A) (hk : k ≤ j) (tk : TakesD X Wd) (hg : Gl X x) (ha : DA X (e :: es) t) (hdb : (x == ("__debug__" : Str)) = false := by decide)
    (he : starEach (e :: es) X.env = (false, eval e X.env) :: starEach es X.env := by rfl) (hpl : (backTo pos (starEach es X.env)).any (·.1) = false := by rfl) : DE X (.Call (.Name x p) (e :: es) [] pos) (dCallGL js dsp Wd t) := by
  obtain ⟨f, fd, ps, F, hm, kp, bd⟩ := c.ex
  obtain ⟨W, tk, lw⟩ := tk
  obtain ⟨t0, a1, a2⟩ := ha
  refine ⟨_, pe_callGL (E := WE W) F cp gd (hr.mono hk) hg hm kp bd (fun σ => passAt tk σ) a1 hdb he hpl, fun G sd s R H Qd Q sv rh q k => ?_⟩
  refine a2 G sd s R H _ _ sv rh q fun G1 R1 H1 ds vs e1 rh1 dv1 q1 => ?_
  exact ⟨G1, ds, _, R1, Qd, _, dv1, (sv.st e1).slots js, rh1.toAll, q1, (k.st e1).toAll rh1.φ, fun G' R' H' cls od fs e rh' ex w => lw G' R' H' cls od fs sd s ((sv.st e1).st e) (rh'.ofAll (X.Φ.st e rh1.φ)) ex w⟩
end

/-! ### a try whose body still knows what was told -/
def cTbK (F : KB) (Ψ : Phi) (tbd : DWX → DTS) (W : WX) : L2.TS := fun E s H => ∃ (Φ' : Phi) (Wd : DWX) (G : Hp) (sd : DSt) (R : Rs) (Ed : DEnds), (∀ G R H, Φ'.p G R H → Ψ.p G R H) ∧ LWX ⟨F, Φ'⟩ W Wd ∧ SV F G sd s ∧ RepH ⟨F, Φ'⟩ G R H ∧ tbd Wd Ed sd R ∧ EB ⟨F, Φ'⟩ G R H Ed E
section
variable {X : CxF} {x n : Str} {c : Value} {i : Nat} {body suite : List Stmt} {b₀ : Stmt} {np pos pos' : Pos} {tbd : DWX → DTS} {tsd : Addr → Value → List (Str × D) → DTS} {Wout : DWX}
theorem tb_runK (hb : ∀ (Φ' : Phi) (Wd : DWX) (pn : List (Addr × Obj)) (xe : Value → Shared → Prop), (∀ G R H, Φ'.p G R H → X.Φ.p G R H) → TakesD ⟨X.X.tr pn xe, Φ', X.B⟩ Wd → PassesOwn (model X.prog X.w) X.A X.env xe → DSs ⟨X.X.tr pn xe, Φ', X.B⟩ body (tbd Wd))
    (W : WX) (pn : List (Addr × Obj)) (xe : Value → Shared → Prop) (tk : Takes (X.X.tr pn xe) W) (po : PassesOwn (model X.prog X.w) X.A X.env xe) : PSs (X.X.tr pn xe) body (cTbK X.K.F X.Φ tbd W) := by
  refine ⟨fun pins s σ H E I h => ?_⟩
  obtain ⟨Φ', Wd, G, sd, R, Ed, hp, lw, sv, rh, q, eb⟩ := h
  obtain ⟨te, a1, a2⟩ := hb Φ' Wd pn xe hp ⟨W, tk, lw⟩ po
  exact a1.run pins s σ H E I (a2 G sd σ R H Ed E sv rh q eb)
theorem ds_try_asK (hs : X.X.stack = X.X.env :: X.X.outer) (hf : X.X.env.frame = some X.X.env.locals) (hN : X.X.N.Nodup) (hi : X.X.N[i]? = some n) (hln : X.X.env.kindOf n = some .local) (hc : Names X.X x c) (tk : TakesD X Wout)
    (hb : ∀ (Φ' : Phi) (Wd : DWX) (pn : List (Addr × Obj)) (xe : Value → Shared → Prop), (∀ G R H, Φ'.p G R H → X.Φ.p G R H) → TakesD ⟨X.X.tr pn xe, Φ', X.B⟩ Wd → PassesOwn (model X.prog X.w) X.A X.env xe → DSs ⟨X.X.tr pn xe, Φ', X.B⟩ body (tbd Wd))
    (hsu : ∀ (Φ' : Phi) (a : Addr) (oe : Obj) (cls : Value) (d : Option Addr) (fs : List (Str × D)) (pn : List (Addr × Obj)), Zc cls d oe → (∃ vs, oe.data = .fields vs) → HasX ⟨X.X.suite a ((a, oe) :: pn), Φ', X.B⟩ d fs → DSs ⟨X.X.suite a ((a, oe) :: pn), Φ', X.B⟩ (b₀ :: suite) (tsd a cls fs)) :
    DS X (.Try body [.ExceptHandler (some (.Name x np)) (some n) (b₀ :: suite) pos'] [] [] pos) (dTryAs X.X.K c i tbd tsd Wout) := by
  obtain ⟨W, tk, lw⟩ := tk
  refine ⟨_, ps_try_as (tb := cTbK X.K.F X.Φ tbd) (ts := cTs X.K.F tsd) hs hf hN hi hln hc tk (tb_runK hb) (ts_run hsu), fun G sd s R H Ed E sv rh q k => ?_⟩
  refine ⟨X.Φ.and (Phi.of G R H), wAsD X.X.K c i tsd Wout Ed, G, sd, R, Ed, fun _ _ _ h => h.1, ?_, sv, rh.imp fun z => ⟨z, Stp.refl G R H⟩, q, ?_⟩
  · rintro G' R' H' cls od fs sd' σ' sv' rh' ex ⟨b, e1, e2, e3⟩
    obtain ⟨φ1, φ2⟩ := rh'.φ
    refine ⟨b, e1, fun hb1 a ha => ?_, fun hb1 => lw G' R' H' cls od fs sd' σ' sv' (rh'.imp And.left) ex (e3 hb1)⟩
    exact ⟨X.Φ.and (Phi.of G' R' H'), fs, G', _, R', _, fun G2 R2 H2 rh2 => ex.st rh2.φ.2, sv'.set i (.ref a), rh'.imp fun z => ⟨z.1, Stp.refl G' R' H'⟩, e2 hb1 a (rh'.free ha), suite_eb i k φ2⟩
  · exact ⟨fun G2 sd2 s2 R2 H2 e2 sv2 rh2 q2 => k.nx G2 _ _ R2 H2 e2 sv2 (rh2.imp And.left) q2, fun G2 R2 H2 d v e2 rh2 dv q2 => k.rt G2 R2 H2 d v e2 (rh2.imp And.left) dv q2,
      fun G2 sd2 s2 R2 H2 e2 sv2 rh2 q2 => k.bk G2 _ _ R2 H2 e2 sv2 (rh2.imp And.left) q2, fun G2 sd2 s2 R2 H2 e2 sv2 rh2 q2 => k.ct G2 _ _ R2 H2 e2 sv2 (rh2.imp And.left) q2⟩
end
theorem Capt.tr {X : CxF} {cl : List (Str × Addr)} {fr : List Str} {cs : DSt} {Φ' : Phi} {pn : List (Addr × Obj)} {xe : Value → Shared → Prop} (c : Capt X cl fr cs) (h : ∀ G R H, Φ'.p G R H → X.Φ.p G R H) : Capt ⟨X.X.tr pn xe, Φ', X.B⟩ cl fr cs :=
  ⟨c.ex, let ⟨ws, a, b⟩ := c.at'; ⟨ws, a, fun G R H z => b G R H (h G R H z)⟩⟩
end DL
namespace DL
open PySem
/-! ### a lambda by its place in the text -/
def stNone : Stmt := .Pass ⟨0, 0, 0, 0⟩
def sAt (i : Nat) (l : List Stmt) : Stmt := l.getD i stNone
def sVal : Stmt → Expr
  | .Assign _ e _ => e
  | .Return (some e) _ => e
  | .Expr e _ => e
  | .If c _ _ _ => c
  | _ => exNone
def sBody : Stmt → List Stmt
  | .For _ _ b _ _ => b
  | .If _ b _ _ => b
  | .While _ b _ _ => b
  | _ => []
def eElt (i : Nat) : Expr → Expr
  | .List es _ => es.getD i exNone
  | .Tuple es _ _ => es.getD i exNone
  | .BoolOp _ es _ => es.getD i exNone
  | .Compare a _ _ _ => a
  | .UnaryOp _ a _ => a
  | .BinOp a _ b _ => if i = 0 then a else b
  | .Attribute a _ _ => a
  | _ => exNone
def eCmp (i : Nat) : Expr → Expr
  | .Compare _ _ es _ => es.getD i exNone
  | _ => exNone
def lamC (q : Str) (e : Expr) (cl : List (Str × Addr)) : Lam := match e with
  | .Lambda ps b sc _ => ⟨q, ps, b, sc, cl⟩
  | _ => ⟨q, { posonlyargs := [], args := [], vararg := none, kwonlyargs := [], kw_defaults := [], kwarg := none, defaults := [] }, exNone, { kind := .function, names := [], isGenerator := false, isCoroutine := false, more := [] }, cl⟩
def lamSc : Expr → Scope
  | .Lambda _ _ sc _ => sc
  | _ => { kind := .function, names := [], isGenerator := false, isCoroutine := false, more := [] }
def lamB : Expr → Expr
  | .Lambda _ b _ _ => b
  | _ => exNone
end DL
end
section
set_option Elab.async false
set_option maxRecDepth 100000
set_option maxHeartbeats 4000000
set_option linter.all false
set_option autoImplicit false
/-! DLJf: repr by an own __repr__; x == y and x != y by an own __eq__, y of any kind; isinstance of other kinds -/
namespace PySem.W
open PySem PySem.Spec PySem.Calls PyProof.Rows Builtin
section
variable {prog : Program} {w : World} {A : Around} {E : Value → Shared → Prop} {s : Shared} {K : Frag} {x C f : Addr} {ox : Obj} {od : Option Obj} {name : Str} {h₀ : Heap} {L : Addr} {m : Str → Option Value} {b tb : Value}
end
end PySem.W
namespace DL
open PySem PySem.Spec PyProof.Rows L2
variable [TabCtx]
open PySem.W in
/-! ### comparison by an own __eq__, the other value of any kind -/
def YT (K : PySem.W.Frag) (C : Addr) (y : V) (H : Hp) : Prop := (∃ b dy gs, y = .ref b ∧ H b = some (.ins C dy gs)) ∨ ∃ S, tyV K S y H ∧ PySem.W.notFirst K C (.type S) = true
section
variable {X : Cx} {k : Nat} {f C : Addr} {fd : FuncData} {ps : List Str} {sp : Sp}
def rEqO (K : PySem.W.Frag) (C : Addr) (neg : Bool) (sp : Sp) : R2 := fun x y H Q => ∃ a dx fs, x = .ref a ∧ H a = some (.ins C dx fs) ∧ YT K C y H ∧ sp [x, y] H (fun v H2 => ∃ b, v = .bl b ∧ Q (.bl (if neg then !b else b)) H2) (fun _ _ _ => False)
end
/-- may the other value be compared: one of the class too, or of a built-in kind -/
def ytD (K : PySem.W.Frag) (C : Addr) (y : D) (R : Rs) : Prop := insAt R y C "__eq__" ∨ ∃ S, TyD S y R ∧ PySem.W.notFirst K C (.type S) = true
def rdEqO (K : PySem.W.Frag) (C : Addr) (neg : Bool) (dsp : DSp) : DR2 := fun x y R Q => insAt R x C "__eq__" ∧ ytD K C y R ∧ dsp [x, y] R (fun d R2 => ∃ b, d = .bl b ∧ Q (.bl (if neg then !b else b)) R2) Ed0
/-- != is the default one -/
structure NeC (K : PySem.W.Frag) (C : Addr) : Prop where
  ne : PySem.W.findIn K (.ref C) "__ne__" = some (some (.builtin "object.__ne__"))
  mo : PySem.W.mroIn K C (.type "object") = some true
section
variable {X : CxF} {C : Addr} {k j : Nat} {dsp : DSp}
end
/-! ### repr(x) by an own __repr__ -/
section
variable {X : Cx} {k : Nat} {f C : Addr} {fd : FuncData} {ps : List Str} {sp : Sp}
end
def rdReprC (C : Addr) (dsp : DSp) : D → Rs → DK → Prop := fun d R Q => insAt R d C "__repr__" ∧ dsp [d] R (fun v R2 => ∃ t : Str, v = .str t ∧ Q (.str t) R2) Ed0
section
variable {X : CxF} {C : Addr} {k j : Nat} {dsp : DSp}
end
/-! ### isinstance: one of the class, or of a built-in kind -/
theorem CallR.or {X : Cx} {f : Value} {r1 r2 : List V → Hp → VK → Prop} (a : CallR X f r1) (b : CallR X f r2) : CallR X f (fun xs H Q => r1 xs H Q ∨ r2 xs H Q) := by
  intro pins s σ H xs us Q I r h
  rcases h with h | h
  · exact a pins s σ H xs us Q I r h
  · exact b pins s σ H xs us Q I r h
def rdIsiO (K : PySem.W.Frag) (C : Addr) : List D → Rs → DK → Prop := fun ds R Q => ∃ d, ds = [d, .ref C] ∧ ((insAt R d C "" ∧ Q (.bl true) R) ∨ ∃ S b, d.tyName R = some S ∧ PySem.W.kitOne K (.type S) (.ref C) = some b ∧ Q (.bl b) R)
end DL
end
section
set_option Elab.async false
set_option maxRecDepth 100000
set_option maxHeartbeats 2000000
set_option linter.all false
set_option autoImplicit false
/-! DLJg: exceptions as values -/
namespace PySem.LX
open PySem PySem.W PySem.Calls PyProof.Rows PySem.HandSPX
section
variable {prog : Program} {w : World} {A : Around} {E : Value → Shared → Prop} {R : Result → Shared → Prop} {h : Heap} {g : Array GenState} {d : Drawn} {t : Nat} {os : OsState}
variable {nm q : Str} {C N : Addr} {bs bm bmB : List Value} {hdct : Bool} {sn : List Str} {sub : List Value} {ab : Bool} {col : Option Bool} {dd : Option Addr} {k0 k1 k2 k3 k5 : Option Value} {B newId initId : String} {kw : List (Str × Value)}
end
end PySem.LX
end
section
set_option Elab.async false
set_option maxRecDepth 100000
set_option linter.all false
set_option autoImplicit false
/-! DLJh: exceptions as values -/
namespace L2
open PySem PySem.Spec PyProof.Rows
/-- an exception object at a, its class, its dict -/
def ExH (cls : Value) (d : Option Addr) (a : Addr) : HO := .ext fun h => ∃ (oe : Obj) (vs : Array Value), h.get? a = some oe ∧ Zc cls d oe ∧ oe.data = .fields vs
section
variable {X : Cx} {pins : List (Addr × Obj)} {σ : L2.St} {H : Hp} {s s' : Shared}
theorem Inv.as (J : Inv X pins σ H s) (hh : s'.heap = s.heap) (os : s'.os = s.os) (ag : AllBare s'.gens) : Inv X pins σ H s' := by
  obtain ⟨h', g', d', t', o'⟩ := s'
  obtain ⟨h, g, d, t, o⟩ := s
  simp only at hh os
  subst hh os
  exact ⟨J.ok, J.os, ag, J.base, J.loc, J.cell, J.free, J.freeC, J.pin, J.hok, J.len⟩
end
section
variable {X : Cx} {e : Expr} {te : TE} {t : L2.St → Hp → XK → Prop} {C : Addr} {cn f : Str} {pos : Pos}
def tMkV (t : L2.St → Hp → XK → Prop) : TE := fun σ H Q => t σ H fun cls d H1 => ∀ a, H1 a = none → Q (.ref a) (upd H1 a (ExH cls d a))
/-- v.f, v an exception -/
def tXV (C : Addr) (f : Str) (te : TE) : TE := fun σ H Q => te σ H fun x H1 => ∃ (a dd : Addr) (v : V), x = .ref a ∧ H1 a = some (ExH (.ref C) (some dd) a) ∧ H1 dd = some (.xd [(f, v)]) ∧ Q v H1
end
end L2
namespace DL
open PySem PySem.Spec PyProof.Rows L2
variable [TabCtx]
/-! ### isinstance -/
def rIsV (K : PySem.W.Frag) : List V → Hp → VK → Prop := fun xs H Q => ∃ (C a : Addr) (d : Option Addr) (c : V) (b : Bool), xs = [.ref a, c] ∧ ExcK K C ∧ H a = some (ExH (.ref C) d a) ∧ Q (.bl b) H ∧ (d = none ∨ ∃ dd fs, d = some dd ∧ H dd = some (.xd fs)) ∧
  ((∃ cv, (∀ u, RelV c u → u = cv) ∧ PySem.W.kitOne K (.ref C) cv = some b) ∨ ∃ tp vs us, c = .ref tp ∧ SqT K H tp vs ∧ (∀ ws, Vals vs ws → ws = us) ∧ PySem.W.kitAny K (.ref C) us = some b)
/-- an exception of class C without fields, and one whose field f is v -/
def ExN (R : Rs) (C : Addr) (a : Addr) : Prop := R a = some (.raw (ExH (.ref C) none a))
def ExA (R : Rs) (C : Addr) (f : Str) (v : D) (a : Addr) : Prop := ∃ d, R a = some (.raw (ExH (.ref C) (some d) a)) ∧ R d = some (.xd [(f, v)])
def ExE (R : Rs) (C : Addr) (a : Addr) : Prop := ExN R C a ∨ ∃ f v, ExA R C f v a
def Up (R R' : Rs) : Prop := ∀ a ro, R a = some ro → R' a = some ro
theorem ExA.up {R R' : Rs} {C a : Addr} {f : Str} {v : D} (h : ExA R C f v a) (u : Up R R') : ExA R' C f v a := let ⟨d, h1, h2⟩ := h; ⟨d, u _ _ h1, u _ _ h2⟩
theorem ExN.up {R R' : Rs} {C a : Addr} (h : ExN R C a) (u : Up R R') : ExN R' C a := u _ _ h
theorem ExE.up {R R' : Rs} {C a : Addr} (h : ExE R C a) (u : Up R R') : ExE R' C a := h.elim (fun h => .inl (h.up u)) fun ⟨f, v, h⟩ => .inr ⟨f, v, h.up u⟩
theorem Up.refl (R : Rs) : Up R R := fun _ _ h => h
theorem Up.trans {R R1 R2 : Rs} (a : Up R R1) (b : Up R1 R2) : Up R R2 := fun x ro h => b x ro (a x ro h)
theorem Up.new {R : Rs} {p : Addr} {u : RO} (hp : R p = none) : Up R (put R p u) := fun a ro e => by
  rw [put_ne (fun z => by rw [z, hp] at e; cases e)]; exact e
def rdIsV (K : PySem.W.Frag) : List D → Rs → DK → Prop := fun ds R Q => ∃ C a c b, ds = [.ref a, c] ∧ ExcK K C ∧ ExE R C a ∧ ((∃ u, ClsD c u ∧ PySem.W.kitOne K (.ref C) u = some b) ∨ ∃ cs us, c = .tup cs ∧ Paired ClsD cs us ∧ PySem.W.kitAny K (.ref C) us = some b) ∧ Q (.bl b) R
/-! ### e.f -/
def dXV (C : Addr) (f : Str) (t : DTE) : DTE := fun s R Q => t s R fun x R1 => ∃ a v, x = .ref a ∧ ExA R1 C f v a ∧ Q v R1
/-! ### X(e), X(f=e), X() -/
def dMkV (C : Addr) (f : Str) (t : DTA) : DTE := fun s R Q => t s R fun ds R1 => ∃ v, ds = [v] ∧ ∀ a R2, ExA R2 C f v a → Up R1 R2 → R1 a = none → Q (.ref a) R2
section
variable {X : CxF} {C : Addr} {cn f : Str} {a : Expr} {te : DTE} {t : DTA} {p pos kpos : Pos} {k : Nat}
end
end DL
end
section
set_option Elab.async false
set_option maxRecDepth 100000
set_option linter.all false
set_option autoImplicit false
/-! DLJi: exceptions made by the names of their fields, or of nothing; list.count of truths -/
namespace PySem.LX
open PySem PySem.W
/-- an own exception class that takes its field by name -/
structure LowK (K : Frag) (f : Str) (C : Addr) : Prop where
  made : ∀ (prog : Program) (w : World) (A : Around) (R : Result → Shared → Prop) (s : Shared) (v : Value), K.In s.heap → s.heap.NoLimit → A.depth + 1 < recursionLimit →
    (∀ h' tk e d, OwnMade s.heap h' e C d f v → R (.ok (.ret (.ref e))) { s with heap := h', toks := tk }) → codeAny (model prog w) A (.call (.ref C) ⟨[], [(f, v)]⟩) R s
end PySem.LX
namespace L2
open PySem PySem.Spec PyProof.Rows
section
variable {X : Cx} {C : Addr} {cn f : Str}
def rCntB (K : PySem.W.Frag) : V → List V → Hp → VK → Prop := fun x xs H Q => ∃ (p : Addr) (bs : List Bool) (k : Bool), x = .ref p ∧ xs = [.bl k] ∧ SqL K H p (bs.map V.bl) ∧ Q (.int (bs.count k : Nat)) H
end
end L2
namespace DL
open PySem PySem.Spec PyProof.Rows L2
variable [TabCtx]
end DL
namespace DL
open PySem PySem.Spec PyProof.Rows L2
variable [TabCtx]
section
variable {X : CxF} {C : Addr} {cn f : Str} {a : Expr} {te : DTE} {t : DTA} {p pos kpos : Pos} {k : Nat}
/-- an own exception class without fields -/
structure Ex0 (K : PySem.W.Frag) (mg : Str → Option Value) (cn : Str) (C : Addr) : Prop where
  ex : ∃ (bmB : List Value) (B newId initId : String), ExcBaseFacts B newId initId bmB ∧ PySem.W.excIn K C bmB newId = true
  gC : mg cn = some (.ref C)
  kC : PySem.W.keepIn K (.ref C) = true
def dMkV0 (C : Addr) : DTE := fun _ R Q => ∀ a R2, ExN R2 C a → Up R R2 → R a = none → Q (.ref a) R2
end
end DL
end
section
set_option Elab.async false
set_option maxRecDepth 100000
set_option maxHeartbeats 2000000
set_option linter.all false
set_option autoImplicit false
/-! DLK5: properties; methods called by keywords -/
namespace L2
open PySem PySem.Spec PyProof.Rows DL
section
variable {X : Cx} {CX : CXT} {k : Nat} {C p g a dx : Addr} {fs : List (Str × V)} {f : Str} {fd : FuncData} {ps : List Str} {sp : Sp} {E : XK} {e : Expr} {pos : Pos} {ta : TE}
end
section
variable [TabCtx] {X : Cx} {CX : CXT} {k n : Nat} {f C : Addr} {fd : FuncData} {ps ks : List Str} {sp : Sp} {E : L2.St → XK} {x m : Str} {p pos apos : Pos} {e o : Expr} {es : List Expr} {kws : List Keyword} {ta : TE} {t tk : TA} {g : List Value → List Value → List Value} {gV : List V → List V → List V}
/-- o.m(e, .., k=..) -/
def tMethK (C : Addr) (m : Str) (n l : Nat) (sp : Sp) (gV : List V → List V → List V) (E : L2.St → XK) (ta : TE) (t tk : TA) : TE := fun σ H Q => ta σ H fun x H1 => ∃ a dx fs, x = .ref a ∧ H1 a = some (.ins C dx fs) ∧ fs.lookup m = none ∧ t σ H1 fun vs H2 => tk σ H2 fun zs H3 => vs.length + 1 = n ∧ zs.length = l ∧ sp (gV (x :: vs) zs) H3 Q (E σ)
end
end L2
namespace DL
open PySem PySem.Spec PyProof.Rows L2
variable [TabCtx]
/-- d is an instance of the class at C -/
def insX (R : Rs) (d : D) (C : Addr) : Prop := match d with
  | .ins C' _ _ => C' = C
  | .ref a => ∃ dx fs, R a = some (.ins C dx fs)
  | _ => False
structure PropD (P : Program) (w : World) (K : KB) (mg : Str → Option Value) (base : Heap) (k : Nat) (C : Addr) (f : Str) (dsp : DSp) : Prop where
  ex : ∃ (p g : Addr) (fd : FuncData) (ps : List Str), FnG P w K mg base CX0 k g fd ps (spOf K dsp) ∧ Cls K C ∧ PropOf K C f p g ∧ Binds K fd ps []
/-- d.f, a property -/
def dProp (C : Addr) (dsp : DSp) (to : DTE) : DTE := fun s R Q => to s R fun d R1 => insX R1 d C ∧ dsp [d] R1 Q Ed0
/-- a method by its name, called with n values (the instance among them) and the keywords ks; gD puts all in the parameters' order -/
structure MetK (P : Program) (w : World) (K : KB) (mg : Str → Option Value) (base : Heap) (k : Nat) (C : Addr) (m : Str) (n : Nat) (ks : List Str) (gD : List D → List D → List D) (dsp : DSp) : Prop where
  ex : ∃ (f : Addr) (fd : FuncData) (ps : List Str) (g : List Value → List Value → List Value) (gV : List V → List V → List V), FnG P w K mg base (L2.CX P w) k f fd ps (spOf K dsp) ∧ Cls K C ∧ Meth K C m f ∧ KBn K fd ps n ks g gV ∧
    ∀ G ds vs es us, DVs K G ds vs → DVs K G es us → ds.length = n → es.length = ks.length → DVs K G (gD ds es) (gV vs us)
def dMethK (C : Addr) (m : Str) (n l : Nat) (gD : List D → List D → List D) (dsp : DSp) (Wd : DWX) (to : DTE) (t tk : DTA) : DTE := fun s R Q => to s R fun d R1 => insAt R1 d C m ∧ t s R1 fun ds R2 => tk s R2 fun es R3 => ds.length + 1 = n ∧ es.length = l ∧ dsp (gD (d :: ds) es) R3 Q (fun cls fs R' => Wd cls fs s R')
end DL
end
section
set_option Elab.async false
set_option maxRecDepth 100000
set_option maxHeartbeats 2000000
set_option linter.all false
set_option autoImplicit false
/-! DLK6: *a, b = a list -/
namespace DL
open PySem PySem.Spec PyProof.Rows L2
section
variable {P : Program} {w : World} {A : Around} {E : Value → Shared → Prop} {s : Shared}
end
def gStarF (K : PySem.W.Frag) (n : Nat) (t : TGs) : TG := fun v σ H Q => ∃ a xs ys, v = .ref a ∧ SqL K H a (xs ++ ys) ∧ ys.length = n ∧ xs.length + n ≤ 16000 ∧ ∀ p, H p = none → t (.ref p :: ys) σ (upd H p (.lst xs)) Q
section
variable [TabCtx] {X : CxF} {es : List Expr} {pos : Pos} {k n : Nat}
def dgStarF (n : Nat) (t : DTGs) : DTG := fun d s R Q => ∃ xs ys, d = .lst (xs ++ ys) ∧ ys.length = n ∧ xs.length + n ≤ 16000 ∧ t (.lst xs :: ys) s R Q
end
end DL
end
section
set_option Elab.async false
set_option maxRecDepth 100000
set_option maxHeartbeats 2000000
set_option linter.all false
set_option autoImplicit false
/-! DLK7: an attribute as one of several targets -/
namespace DL
open PySem PySem.Spec PyProof.Rows L2
def gFld (K : PySem.W.Frag) (to : TE) (f : Str) : TG := fun v σ H Q => to σ H fun x H1 => ∃ a C dx fs, x = .ref a ∧ H1 a = some (.ins C dx fs) ∧ Cls K C ∧ NoAttr K C f ∧ fs.length < 1000 ∧ Q σ (upd H1 a (.ins C dx (putF f v fs)))
section
variable [TabCtx] {X : CxF} {o : Expr} {f : Str} {pos : Pos}
theorem pg_fld {to : TE} (ho : PE X o to) : PG X (.Attribute o f pos) (gFld X.K to f) := by
  refine ⟨fun pins s σ H v u Q I r h => ?_⟩
  rw [assign_Attribute]
  refine wpAny_bind (wpAny_holding (thn (ho.run pins s σ H _ I h) fun ov s1 ⟨x, H1, I1, r1, a, C, dx, fs, ex, ea, c, n, l, q⟩ => ?_))
  subst ex
  obtain rfl : ov = Value.ref a := r1
  refine wpAny_bind (wpAny_standAt (wpAny_bind (wpAny_holding (setattr_ok I1 ea c n l r fun s3 I3 => ?_))))
  exact wpAny_release ⟨σ, _, I3, q⟩
def dgFld (C : Addr) (f : Str) (to : DTE) : DTG := fun v s R Q => to s R fun d R1 => ∃ a dx fs, d = .ref a ∧ R1 a = some (.ins C dx fs) ∧ fs.length < 1000 ∧ Q s (put R1 a (.ins C dx (putD f v fs)))
theorem dg_fld {to : DTE} {C : Addr} (hc : Cls X.K C) (hn : NoAttr X.K C f) (ho : DE X o to) : DG X (.Attribute o f pos) (dgFld C f to) := by
  obtain ⟨t0, a1, a2⟩ := ho
  refine ⟨_, pg_fld a1, fun G sd s R H v y Qd Q sv rh dv q kk => ?_⟩
  refine a2 G sd s R H _ _ sv rh q fun G1 R1 H1 d x e1 rh1 dvx ⟨a, dx, fs, hd, hR, hl, q2⟩ => ?_
  subst hd
  cases dvx
  obtain ⟨_, u, h2, vs, rfl, h3⟩ := rh1.r a _ hR
  obtain ⟨ws, e3, e4⟩ := putD_dv (f := f) (dv.st e1) h3
  obtain ⟨S, rh3⟩ := rh1.chg (p := a) (o := .ins C dx (putF f y ((fs.map (·.1)).zip vs))) (ro := .ins C dx (putD f v fs)) hR ⟨ws, by rw [e3], e4⟩
  refine ⟨a, C, dx, _, rfl, h2, hc, hn, Nat.lt_of_le_of_lt zip_len (by rw [List.length_map]; exact hl), ?_⟩
  exact kk _ _ _ _ _ (e1.trans S) ((sv.st e1).st S) rh3 q2
end
end DL
end
section
set_option Elab.async false
set_option maxRecDepth 100000
set_option maxHeartbeats 2000000
set_option linter.all false
set_option autoImplicit false
/-! DLK8: sorted(xs, key=a lambda that gives whole numbers) -/
namespace DL
open PySem PySem.Spec PyProof.Rows L2
/-! ### the plain law: a stable sort by whole numbers is one list -/
def insK {α : Type} (p : Int × α) : List (Int × α) → List (Int × α)
  | [] => [p]
  | q :: r => if p.1 ≤ q.1 then p :: q :: r else q :: insK p r
def isrt {α : Type} : List (Int × α) → List (Int × α)
  | [] => []
  | p :: r => insK p (isrt r)
section
variable {α β : Type}
inductive PRel (R : α → β → Prop) : List (Int × α) → List (Int × β) → Prop
  | nil : PRel R [] []
  | cons (k : Int) {x y l m} : R x y → PRel R l m → PRel R ((k, x) :: l) ((k, y) :: m)
theorem PRel.ins {R : α → β → Prop} {k : Int} {x : α} {y : β} (r : R x y) : ∀ {l m}, PRel R l m → PRel R (insK (k, x) l) (insK (k, y) m)
  | _, _, .nil => .cons k r .nil
  | _, _, .cons j r2 h => by
    unfold insK
    by_cases z : k ≤ j
    · rw [if_pos z, if_pos z]; exact .cons k r (.cons j r2 h)
    · rw [if_neg z, if_neg z]; exact .cons j r2 (h.ins r)
end
theorem PRel.dvs {K : PySem.W.Frag} {G : Hp} : ∀ {l : List (Int × D)} {m : List (Int × V)}, PRel (DV K G) l m → DVs K G (l.map (·.2)) (m.map (·.2))
  | _, _, .nil => .nil
  | _, _, .cons k r h => .cons r h.dvs
/-! ### the end of the sort -/
section
variable {prog : Program} {w : World} {A : Around} {E : Value → Shared → Prop} {s : Shared} {a kS : Addr} {vs : List Value} {kz : List Int} {keys : Array Value} {e e1 : Nat} {P : PySem.Fin → Shared → Prop}
end
/-! ### the keys are asked for, one by one -/
section
variable [TabCtx] {X : Cx} {pins : List (Addr × Obj)} {σ : L2.St} {H : Hp} {s : Shared} {ps : List Str} {k : Nat} {L : Lam} {sp : Sp} {P : Hp → Prop} {vs : List Value} {xs : List V} {kz : List Int} {f c a : Addr} {Q : PySem.Fin → Shared → Prop} {E : Value → Shared → Prop}
def rSortedFn (K : PySem.W.Frag) (L : Lam) (sp : Sp) : List V → List V → Hp → VK → Prop := fun vs zs H Q => ∃ (l f c : Addr) (xs : List V) (kz : List Int) (P : Hp → Prop), vs = [.ref l] ∧ zs = [.ref f] ∧ SqL K H l xs ∧ kz.length = xs.length ∧ P H ∧
  (∀ H', P H' → H' f = some (LamO f L c) ∧ H' c = some (LamX.CodeO c L.qual)) ∧ (∀ (i : Nat) (x : V) (m : Int), xs[i]? = some x → kz[i]? = some m → ∀ H', P H' → sp [x] H' (fun u H2 => u = .int m ∧ P H2) (fun _ _ _ => False)) ∧
  ∀ (p : Addr) (H' : Hp), P H' → H' p = none → Q (.ref p) (upd H' p (.lst ((isrt (kz.zip xs)).map (·.2))))
end
section
variable [TabCtx] {X : CxF} {k j : Nat} {L : Lam} {dsp : DSp} {e : Expr} {kx : Expr} {kpos p pos : Pos} {t tk : DTA}
def dSortKey (L : Lam) (dsp : DSp) (t tk : DTA) : DTE := fun s R Q => t s R fun ds R1 => tk s R1 fun es R2 => ∃ (xs : List D) (kz : List Int), ds = [.lst xs] ∧ es = [.lam L] ∧ kz.length = xs.length ∧
  (∀ (i : Nat) (x : D) (m : Int), xs[i]? = some x → kz[i]? = some m → dsp [x] R2 (fun v R3 => v = .int m ∧ R3 = R2) Ed0) ∧ Q (.lst ((isrt (kz.zip xs)).map (·.2))) R2
end
end DL
end
section
set_option Elab.async false
set_option maxRecDepth 100000
set_option maxHeartbeats 2000000
set_option linter.all false
set_option autoImplicit false
/-! DLK9: new instances that may change; a method that is handed a lambda which captures -/
namespace L2
open PySem PySem.Spec PyProof.Rows DL
section
variable {X : Cx} {CX : CXT} {k n : Nat} {f C : Addr} {fd : FuncData} {ps ks : List Str} {sp : Sp} {E : L2.St → XK} {x : Str} {p pos : Pos} {kws : List Keyword} {t tk : TA} {g : List Value → List Value → List Value} {gV : List V → List V → List V}
def tMakeKV (C : Addr) (m : Nat) (sp : Sp) (gV : List V → List V → List V) (E : L2.St → XK) (tk : TA) : TE := fun σ H Q => tk σ H fun zs H2 => zs.length = m ∧ ∀ x dx, H2 x = none → H2 dx = none → dx ≠ x →
  sp (gV [.ref x] zs) (upd (upd H2 dx (.own x)) x (.ins C dx [])) (fun v H3 => v = .non ∧ Q (.ref x) H3) (E σ)
end
end L2
namespace DL
open PySem PySem.Spec PyProof.Rows L2 NdefX LamX
variable [TabCtx]
/-! ### new instances that may change -/
section
variable {X : CxF} {k j : Nat} {x : Str} {C : Addr} {dsp : DSp} {Wd : DWX} {p pos kpos : Pos} {e : Expr} {es : List Expr} {t tk : DTA} {kws : List Keyword} {ks : List Str} {gD : List D → List D → List D}
theorem de_newR (c : MakDX X.prog X.w X.K.F X.mg X.base k x C dsp) (gd : X.A.guards = some []) (hr : Room j X.A) (hk : k + 1 ≤ j) (tk : TakesD X Wd) (hg : Gl X x) (ha : DA X (e :: es) t) (hdb : (x == ("__debug__" : Str)) = false := by decide)
    (he : starEach (e :: es) X.env = (false, eval e X.env) :: starEach es X.env := by rfl) (hpl : (backTo pos (starEach es X.env)).any (·.1) = false := by rfl) : DE X (.Call (.Name x p) (e :: es) [] pos) (dNew C dsp Wd t) := by
  obtain ⟨f, fd, ps, F, M, hm, bd⟩ := c.ex
  obtain ⟨W, tk, lw⟩ := tk
  obtain ⟨t0, a1, a2⟩ := ha
  exact ⟨_, pe_makeV M F gd (hr.mono hk) hg hm bd (fun σ => passAt tk σ) a1 hdb he hpl, LE.new a2 lw⟩
def dNew0 (C : Addr) (dd : List D) (dsp : DSp) (Wd : DWX) : DTE := fun s R Q => ∀ x dx, R x = none →
  dsp (.ref x :: dd) (put R x (.ins C dx [])) (fun d R2 => d = .non ∧ Q (.ref x) R2) (fun cls fs R' => Wd cls fs s R')
/-- a class by its name, called by the keywords ks alone -/
structure MakK (P : Program) (w : World) (K : KB) (mg : Str → Option Value) (base : Heap) (k : Nat) (x : Str) (C : Addr) (ks : List Str) (gD : List D → List D → List D) (dsp : DSp) : Prop where
  ex : ∃ (f : Addr) (fd : FuncData) (ps : List Str) (g : List Value → List Value → List Value) (gV : List V → List V → List V), FnG P w K mg base (L2.CX P w) k f fd ps (spOf K dsp) ∧ Mk K C f ∧ mg x = some (.ref C) ∧ KBn K fd ps 1 ks g gV ∧
    ∀ G ds vs es us, DVs K G ds vs → DVs K G es us → ds.length = 1 → es.length = ks.length → DVs K G (gD ds es) (gV vs us)
def dNewKw (C : Addr) (m : Nat) (gD : List D → List D → List D) (dsp : DSp) (Wd : DWX) (tk : DTA) : DTE := fun s R Q => tk s R fun es R1 => es.length = m ∧ ∀ x dx, R1 x = none →
  dsp (gD [.ref x] es) (put R1 x (.ins C dx [])) (fun d R2 => d = .non ∧ Q (.ref x) R2) (fun cls fs R' => Wd cls fs s R')
end
/-! ### a method that is handed a lambda -/
section
variable {X : Cx} {CX : CXT} {k : Nat} {f C : Addr} {fd : FuncData} {ps fr : List Str} {js : List Nat} {cl : List (Str × Addr)} {sp : List (Option V) → Sp} {E : L2.St → XK} {m : Str} {pos apos : Pos} {o e : Expr} {es : List Expr} {ta : TE} {t : TA}
def tMethGL (js : List Nat) (C : Addr) (m : Str) (sp : List (Option V) → Sp) (E : L2.St → XK) (ta : TE) (t : TA) : TE := fun σ H Q => ta σ H fun x H1 => ∃ a dx fs, x = .ref a ∧ H1 a = some (.ins C dx fs) ∧ fs.lookup m = none ∧ t σ H1 fun vs H2 => sp (js.map (slotAt σ)) (x :: vs) H2 Q (E σ)
end
/-- a method by its name that is handed a lambda -/
structure MetL (P : Program) (w : World) (K : KB) (mg : Str → Option Value) (base : Heap) (k : Nat) (C : Addr) (m : Str) (cl : List (Str × Addr)) (fr : List Str) (dsp : CSp) : Prop where
  ex : ∃ (f : Addr) (fd : FuncData) (ps : List Str), FnL P w K mg base (L2.CX P w) k f fd ps cl fr (spLam K dsp) ∧ Cls K C ∧ Meth K C m f ∧ Binds K fd ps []
def dMethGL (js : List Nat) (C : Addr) (m : Str) (dsp : CSp) (Wd : DWX) (to : DTE) (t : DTA) : DTE := fun s R Q => to s R fun d R1 => insAt R1 d C m ∧ t s R1 fun ds R2 => dsp (js.map (slotD s)) (d :: ds) R2 Q (fun cls fs R' => Wd cls fs s R')
section
variable {X : CxF} {k j : Nat} {C : Addr} {m : Str} {fr : List Str} {js : List Nat} {cl : List (Str × Addr)} {dsp : CSp} {Wd : DWX} {apos pos : Pos} {o e : Expr} {es : List Expr} {to : DTE} {t : DTA}
end
end DL
namespace DL
open PySem PySem.Spec PyProof.Rows L2
section
variable [TabCtx] {P : Program} {w : World} {K : KB} {mg : Str → Option Value} {base : Heap}
end
end DL
namespace DL
open PySem
def kwE (i : Nat) : Expr → Expr
  | .Call _ _ kws _ => (kws.map (·.value)).getD i exNone
  | _ => exNone
end DL
end
section
set_option Elab.async false
set_option maxRecDepth 100000
set_option maxHeartbeats 2000000
set_option linter.all false
set_option autoImplicit false
/-! DLK10: several clauses `except X as e`, raise of an own error without fields -/
namespace L2
open PySem PySem.Spec PyProof.Rows
/-- what the clauses wish of an exception of the body, one after the other; slot i is the name's -/
def wManyAs (K : PySem.W.Frag) (i : Nat) (Wout : WX) (D : Ends) : List (Value × (Addr → Value → Option Addr → TS)) → WX
  | [] => Wout
  | (c, ts) :: r => fun cls d σ H => ∃ b, PySem.W.exmOne K cls c = some b ∧ (b = true → ∀ a, H a = none → ts a cls d { nx := fun σ' H' => D.nx (σ'.set i none) H', rt := D.rt, bk := fun σ' H' => D.bk (σ'.set i none) H', ct := fun σ' H' => D.ct (σ'.set i none) H' } (σ.set i (some (.ref a))) H) ∧ (b = false → wManyAs K i Wout D r cls d σ H)
inductive HdsAs (X : Cx) (n : Str) : List ExceptHandler → List (Value × (Addr → Value → Option Addr → TS)) → Prop
  | nil : HdsAs X n [] []
  | cons {x : Str} {c : Value} {ts : Addr → Value → Option Addr → TS} {b₀ : Stmt} {suite : List Stmt} {np pos' : Pos} {hds : List ExceptHandler} {l : List (Value × (Addr → Value → Option Addr → TS))} (hc : Names X x c)
      (hsu : ∀ (a : Addr) (oe : Obj) (cls : Value) (d : Option Addr) (pn : List (Addr × Obj)), Zc cls d oe → (∃ vs, oe.data = .fields vs) → PSs (X.suite a ((a, oe) :: pn)) (b₀ :: suite) (ts a cls d)) (r : HdsAs X n hds l) :
      HdsAs X n (.ExceptHandler (some (.Name x np)) (some n) (b₀ :: suite) pos' :: hds) ((c, ts) :: l)
section
variable {X : Cx} {n : Str} {i : Nat} {body : List Stmt} {h₀ : ExceptHandler} {hds : List ExceptHandler} {l : List (Value × (Addr → Value → Option Addr → TS))} {pos : Pos} {tb : WX → TS} {Wout : WX}
end
section
variable {X : Cx} {C : Addr} {bmB : List Value} {B newId initId : String}
end
end L2
namespace DL
open PySem PySem.Spec PyProof.Rows L2
variable [TabCtx]
/-! ### raise X() -/
structure Rz (K : PySem.W.Frag) (C : Addr) : Prop where
  hs : PySem.W.subIn K (.ref C) (.type "BaseException") = some true
  ty : PySem.W.typeIn K (.ref C) = some (.type "type")
def dRaise0 (C : Addr) (Wd : DWX) : DTS := fun _ s R => Wd (.ref C) [] s R
section
variable {X : CxF} {C : Addr} {cn : Str} {Wd : DWX} {p pos pos2 : Pos}
end
/-! ### try with several clauses -/
abbrev HdL := List (Value × (Addr → Value → List (Str × D) → DTS))
def wManyD (K : PySem.W.Frag) (i : Nat) (Wout : DWX) (D : DEnds) : HdL → DWX
  | [] => Wout
  | (c, ts) :: r => fun cls fs s R => ∃ b, PySem.W.exmOne K cls c = some b ∧ (b = true → ∀ a, R a = none → ts a cls fs { nx := fun s' R' => D.nx (s'.set i none) R', rt := D.rt, bk := fun s' R' => D.bk (s'.set i none) R', ct := fun s' R' => D.ct (s'.set i none) R' } (s.set i (some (.ref a))) R) ∧ (b = false → wManyD K i Wout D r cls fs s R)
inductive HdsD (X : CxF) (n : Str) : List ExceptHandler → HdL → Prop
  | nil : HdsD X n [] []
  | cons {x : Str} {c : Value} {tsd : Addr → Value → List (Str × D) → DTS} {b₀ : Stmt} {suite : List Stmt} {np pos' : Pos} {hds : List ExceptHandler} {l : HdL} (hc : Names X.X x c)
      (hsu : ∀ (Φ' : Phi) (a : Addr) (oe : Obj) (cls : Value) (d : Option Addr) (fs : List (Str × D)) (pn : List (Addr × Obj)), Zc cls d oe → (∃ vs, oe.data = .fields vs) → HasX ⟨X.X.suite a ((a, oe) :: pn), Φ', X.B⟩ d fs → DSs ⟨X.X.suite a ((a, oe) :: pn), Φ', X.B⟩ (b₀ :: suite) (tsd a cls fs)) (r : HdsD X n hds l) :
      HdsD X n (.ExceptHandler (some (.Name x np)) (some n) (b₀ :: suite) pos' :: hds) ((c, tsd) :: l)
abbrev hdL (F : KB) (l : HdL) : List (Value × (Addr → Value → Option Addr → L2.TS)) := l.map fun p => (p.1, cTs F p.2)
theorem HdsD.as {X : CxF} {n : Str} {hds : List ExceptHandler} {l : HdL} (h : HdsD X n hds l) : HdsAs X.X n hds (hdL X.K.F l) := by
  induction h with
  | nil => exact .nil
  | cons hc hsu r ih => exact .cons hc (ts_run hsu) ih
def dTryMany (K : PySem.W.Frag) (i : Nat) (tbd : DWX → DTS) (l : HdL) (Wout : DWX) : DTS := fun D s R => tbd (wManyD K i Wout D l) D s R
section
variable {X : CxF} {n : Str} {i : Nat} {body : List Stmt} {h₀ : ExceptHandler} {hds : List ExceptHandler} {l : HdL} {pos : Pos} {tbd : DWX → DTS} {Wout : DWX}
end
end DL
end
section
set_option Elab.async false
set_option maxRecDepth 100000
set_option linter.all false
set_option autoImplicit false
/-! DLK11: match of a text with texts -/
namespace L2
open PySem PySem.Spec PyProof.Rows
inductive PvsOk : List Pattern → List Str → Prop
  | nil : PvsOk [] []
  | cons {m : Str} {j : Nat} {p pos : Pos} {ps : List Pattern} {ms : List Str} (h : PvsOk ps ms) : PvsOk (.MatchValue (.Constant (.str m) j p) pos :: ps) (m :: ms)
inductive PtOk : Pattern → List Str → Prop
  | val {m : Str} {j : Nat} {p pos : Pos} : PtOk (.MatchValue (.Constant (.str m) j p) pos) [m]
  | or {ps : List Pattern} {ms : List Str} {pos : Pos} (h : PvsOk ps ms) : PtOk (.MatchOr ps pos) ms
section
variable {X : Cx} {pins : List (Addr × Obj)} {σ : St} {H : Hp} {s : Shared} {x : Str} {v : Value} {Q : Option (List (Str × Value)) → Shared → Prop}
theorem mat_val {m : Str} {j : Nat} {p pos : Pos} (I : Inv X pins σ H s) (rv : RelV (.str x) v) (h : ∀ s', Inv X pins σ H s' → if x = m then Q (some []) s' else Q none s') : wpAny (model X.prog X.w) X.A (matchPattern (.MatchValue (.Constant (.str m) j p) pos) X.env v) Q X.xe s := by
  refine wpAny_matchPattern_Value (thn ((pe_str (x := m) (j := j) (pos := p)).run pins s σ H (fun y H1 => y = .str m ∧ H1 = H) I ⟨rfl, rfl⟩) fun u s1 ⟨y, H1, I1, r1, e1, e2⟩ => ?_)
  subst e1
  rw [e2] at I1
  refine thn (op_eq pins s1 σ H (.str x) (.str m) v u (fun z H2 => z = .bl (decide (V.str x = V.str m)) ∧ H2 = H) I1 rv r1 ⟨rfl, rfl, rfl⟩) fun c s2 ⟨z, H2, I2, r2, e3, e4⟩ => ?_
  subst e3
  rw [e4] at I2
  cases r2
  refine wpAny_truthy_bool ?_
  have h2 := h s2 I2
  by_cases e : x = m
  · rw [if_pos e] at h2
    rw [if_pos (decide_eq_true (by rw [e]))]
    exact h2
  · rw [if_neg e] at h2
    rw [if_neg (by simpa using e)]
    exact h2
theorem mat_first : ∀ {ps : List Pattern} {ms : List Str} {s : Shared} {Q : Option (List (Str × Value)) → Shared → Prop}, PvsOk ps ms → Inv X pins σ H s → RelV (.str x) v → (∀ s', Inv X pins σ H s' → if x ∈ ms then Q (some []) s' else Q none s') → wpAny (model X.prog X.w) X.A (matchFirst ps X.env v) Q X.xe s
  | _, _, s, Q, .nil, I, rv, h => wpAny_matchFirst_nil (by have := h s I; simpa using this)
  | _, _, s, Q, .cons (m := m) (ms := ms) hp, I, rv, h => by
    refine wpAny_matchFirst_cons (mat_val I rv fun s1 I1 => ?_)
    by_cases e : x = m
    · rw [if_pos e]
      have := h s1 I1
      rw [if_pos (by rw [e]; simp)] at this
      exact this
    · rw [if_neg e]
      refine mat_first hp I1 rv fun s2 I2 => ?_
      have := h s2 I2
      by_cases e2 : x ∈ ms
      · rw [if_pos e2]
        rw [if_pos (List.mem_cons_of_mem _ e2)] at this
        exact this
      · rw [if_neg e2]
        rw [if_neg (fun z => by
          rcases List.mem_cons.mp z with z | z
          · exact e z
          · exact e2 z)] at this
        exact this
theorem mat_pt {pt : Pattern} {ms : List Str} (hp : PtOk pt ms) (I : Inv X pins σ H s) (rv : RelV (.str x) v) (h : ∀ s', Inv X pins σ H s' → if x ∈ ms then Q (some []) s' else Q none s') : wpAny (model X.prog X.w) X.A (matchPattern pt X.env v) Q X.xe s := by
  cases hp with
  | val =>
    refine mat_val I rv fun s1 I1 => ?_
    have := h s1 I1
    simpa using this
  | or hq =>
    refine wpAny_matchPattern_Or (mat_first hq I rv fun s1 I1 => ?_)
    have h2 := h s1 I1
    by_cases e : x ∈ ms
    · rw [if_pos e] at h2 ⊢
      cases hq with
      | nil => cases e
      | cons _ => exact h2
    · rw [if_neg e] at h2 ⊢
      exact h2
end
def mGo : List (List Str × TS) → Str → TS
  | [], _ => fun D σ H => D.nx σ H
  | (ms, t) :: r, x => fun D σ H => if x ∈ ms then t D σ H else mGo r x D σ H
inductive McOk (X : Cx) : List MatchCase → List (List Str × TS) → Prop
  | nil : McOk X [] []
  | cons {pt : Pattern} {ms : List Str} {body : List Stmt} {t : TS} {cs : List MatchCase} {l : List (List Str × TS)} (hp : PtOk pt ms) (hb : PSs X body t) (r : McOk X cs l) : McOk X (⟨pt, none, body⟩ :: cs) ((ms, t) :: l)
def tMatch (te : TE) (l : List (List Str × TS)) : TS := fun D σ H => te σ H fun v H1 => ∃ x, v = .str x ∧ mGo l x D σ H1
section
variable {X : Cx}
theorem mat_cases {pins : List (Addr × Obj)} {σ : St} {H : Hp} {x : Str} {v : Value} {D : Ends} {cs : List MatchCase} {l : List (List Str × TS)} (hk : McOk X cs l) (rv : RelV (.str x) v) : ∀ (s : Shared) (first : Bool), Inv X pins σ H s → mGo l x D σ H → wpAny (model X.prog X.w) X.A (matchCases cs X.env v first) (SP X pins D) X.xe s := by
  induction hk with
  | nil => intro s first I q; exact wpAny_matchCases_nil ⟨σ, H, I, q⟩
  | @cons pt ms body t cs l hp hb r ih =>
    intro s first I q
    refine wpAny_matchCases_cons (mat_pt hp I rv fun s1 I1 => ?_)
    have q : if x ∈ ms then t D σ H else mGo l x D σ H := q
    by_cases e : x ∈ ms
    · rw [if_pos e] at q ⊢
      exact wpAny_assignInOrder_none (hb.run pins s1 σ H D I1 q)
    · rw [if_neg e] at q ⊢
      exact ih s1 false I1 q
theorem ps_match {e : Expr} {te : TE} {cs : List MatchCase} {l : List (List Str × TS)} {pos : Pos} (he : PE X e te) (hk : McOk X cs l) : PS X (.Match e cs pos) (tMatch te l) := by
  refine ⟨fun pins s σ H D I h => wpAny_Match (thn (he.run pins s σ H _ I h) fun u s1 ⟨v, H1, I1, r1, x, ex, q⟩ => ?_)⟩
  subst ex
  exact mat_cases hk r1 s1 true I1 q
end
end L2
namespace DL
open PySem PySem.Spec PyProof.Rows L2
variable [TabCtx]
def dGoM : List (List Str × DTS) → Str → DTS
  | [], _ => dNext
  | (ms, t) :: r, x => fun D s R => if x ∈ ms then t D s R else dGoM r x D s R
inductive McD (X : CxF) : List MatchCase → List (List Str × DTS) → Prop
  | nil : McD X [] []
  | cons {pt : Pattern} {ms : List Str} {body : List Stmt} {t : DTS} {cs : List MatchCase} {l : List (List Str × DTS)} (hp : PtOk pt ms) (hb : DSs X body t) (r : McD X cs l) : McD X (⟨pt, none, body⟩ :: cs) ((ms, t) :: l)
theorem McD.ok {X : CxF} {cs : List MatchCase} {l : List (List Str × DTS)} (h : McD X cs l) : ∃ l0, McOk X.X cs l0 ∧ ∀ x, LS X.K (mGo l0 x) (dGoM l x) := by
  induction h with
  | nil => exact ⟨[], .nil, fun x G sd s R H Ed E sv rh q k => k.nx G sd s R H (Stp.refl G R H) sv rh q⟩
  | @cons pt ms body t cs l hp hb r ih =>
    obtain ⟨l0, h1, h2⟩ := ih
    obtain ⟨t0, b1, b2⟩ := hb
    refine ⟨(ms, t0) :: l0, .cons hp b1 h1, fun x G sd s R H Ed E sv rh q k => ?_⟩
    have q : if x ∈ ms then t Ed sd R else dGoM l x Ed sd R := q
    show if x ∈ ms then t0 E s H else mGo l0 x E s H
    by_cases e : x ∈ ms
    · rw [if_pos e] at q ⊢
      exact b2 G sd s R H Ed E sv rh q k
    · rw [if_neg e] at q ⊢
      exact h2 x G sd s R H Ed E sv rh q k
def dMatch (te : DTE) (l : List (List Str × DTS)) : DTS := fun D s R => te s R fun d R1 => ∃ x, d = .str x ∧ dGoM l x D s R1
theorem ds_match {X : CxF} {e : Expr} {te : DTE} {cs : List MatchCase} {l : List (List Str × DTS)} {pos : Pos} (he : DE X e te) (hk : McD X cs l) : DS X (.Match e cs pos) (dMatch te l) := by
  obtain ⟨t1, a1, a2⟩ := he
  obtain ⟨l0, h1, h2⟩ := hk.ok
  refine ⟨_, ps_match a1 h1, fun G sd s R H Ed E sv rh q k => a2 G sd s R H _ _ sv rh q fun G1 R1 H1 d v e1 rh1 dv1 q1 => ?_⟩
  obtain ⟨x, rfl, q2⟩ := q1
  cases dv1
  exact ⟨x, rfl, h2 x G1 sd s R1 H1 Ed E (sv.st e1) rh1 q2 (k.st e1)⟩
end DL
end
section
set_option Elab.async false
set_option maxRecDepth 100000
set_option maxHeartbeats 2000000
set_option linter.all false
set_option autoImplicit false
/-! DLK12: list comprehensions with two clauses -/
namespace DL
open PySem PySem.Spec PyProof.Rows L2
variable [TabCtx]
def dLc2F (wd : DTI) (g : DTG) (tt : DTT) (wd1 : DTI) (g1 : DTG) (tt1 : DTT) (te : DTE) (vs vs1 : List Nat) : DTE := fun s R Q => wd s R fun xs ok R1 => ∃ Pv : Nat → List D → Rs → Prop, Pv 0 [] R1 ∧ (∀ i acc R, i ≤ xs.length → Pv i acc R → ok R) ∧
  (∀ (i : Nat) x acc R, xs[i]? = some x → Pv i acc R → g x (dwipe s vs) R fun s2 R2 => tt s2 R2 fun b R3 =>
    if b = true then wd1 s2 R3 fun ys ok1 R4 => ∃ Pv1 : Nat → List D → Rs → Prop, Pv1 0 acc R4 ∧ (∀ j acc R, j ≤ ys.length → Pv1 j acc R → ok1 R ∧ acc.length < 100000) ∧
      (∀ (j : Nat) y acc R, ys[j]? = some y → Pv1 j acc R → g1 y (dwipe s2 vs1) R fun s3 R5 => tt1 s3 R5 fun b R6 => if b = true then te s3 R6 fun z R7 => Pv1 (j + 1) (acc ++ [z]) R7 else Pv1 (j + 1) acc R6) ∧
      ∀ acc R, Pv1 ys.length acc R → Pv (i + 1) acc R
    else Pv (i + 1) acc R3) ∧
  ∀ acc R, Pv xs.length acc R → Q (.lst acc) R
theorem LE.lc2F {K : KF} {vs vs1 : List Nat} {wi wi1 : TI} {g0 g10 : TG} {tt0 tt10 : TT} {te0 : TE} {wd wd1 : DTI} {g g1 : DTG} {tt tt1 : DTT} {te : DTE} (hi : LI K wi wd) (hg : LGw K vs g0 g) (ht : LT K tt0 tt) (hi1 : LI K wi1 wd1) (hg1 : LGw K vs1 g10 g1) (ht1 : LT K tt10 tt1) (he : LE K te0 te) :
    LE K (tLc2 wi g0 tt0 wi1 g10 tt10 te0 vs vs1) (dLc2F wd g tt wd1 g1 tt1 te vs vs1) := fun G sd s R H Qd Q sv rh q k => by
  refine hi G sd s R H _ _ sv rh q fun G1 R1 H1 J xs ok e1 rh1 sim q1 => fun p hp => ?_
  obtain ⟨Pv, p0, pok, step, fin⟩ := q1
  have r1p := rh1.free hp
  have g1p := rh1.gfree hp
  have sv1 := sv.st e1
  refine ⟨fun i m H2 => ∃ G2 R2 acc ys, Stp G1 R1 H1 G2 R2 H2 ∧ RepH K G2 R2 H2 ∧ Hid G2 R2 H2 p (.lst ys) ∧ DVs K G2 acc ys ∧ i ≤ xs.length ∧ m = xs.length - i ∧ Pv i acc R2,
    ⟨_, G1, R1, [], [], (Stp.refl _ _ _).wr hp, rh1.hide r1p g1p (K.Φ.st ((Stp.refl _ _ _).wr hp) rh1.φ) (K.F.B.st ((Stp.refl _ _ _).wr hp) rh1.b), ⟨upd_same, r1p, g1p⟩, .nil, Nat.zero_le _, rfl, p0⟩, ?_⟩
  rintro i m H2 ⟨G2, R2, acc, ys, e2, rh2, hd2, dv2, hi', rfl, p2⟩
  obtain ⟨go, stop⟩ := sim G2 R2 H2 e2.g rh2 (pok i acc R2 hi' p2)
  by_cases hlt : i < xs.length
  · obtain ⟨go1, go2⟩ := go i xs[i] (List.getElem?_eq_getElem hlt)
    refine .inr ⟨go1, fun H3 => ∃ G3 R3 acc ys, Stp G1 R1 H1 G3 R3 H3 ∧ RepH K G3 R3 H3 ∧ Hid G3 R3 H3 p (.lst ys) ∧ DVs K G3 acc ys ∧ Pv (i + 1) acc R3, ?_, fun x H' y => ?_⟩
    · rintro H3 ⟨G3, R3, acc3, ys3, e3, rh3, hd3, dv3, p3⟩
      exact ⟨xs.length - (i + 1), by omega, G3, R3, acc3, ys3, e3, rh3, hd3, dv3, hlt, rfl, p3⟩
    · obtain ⟨G3, e3, rh3, dv3⟩ := go2 x H' y
      have sv3 : SV K G3 (dwipe sd vs) (wipe s vs) := ((sv1.st e2).st e3).wipe vs
      refine hg G3 _ _ R2 H' _ _ _ _ sv3 rh3 dv3 (step i xs[i] acc R2 (List.getElem?_eq_getElem hlt) p2) fun G4 sd4 s4 R4 H4 e4 sv4 rh4 q4 w4 => ?_
      refine ⟨w4.trans (wipe_wipe vs), ?_⟩
      refine ht G4 sd4 s4 R4 H4 _ _ sv4 rh4 q4 fun G5 R5 H5 b e5 rh5 q5 => ?_
      cases b with
      | false =>
        have e25 := e3.trans (e4.trans e5)
        exact ⟨G5, R5, acc, ys, e2.trans e25, rh5, hd2.st e25, dv2.st e25, q5⟩
      | true =>
        refine hi1 G5 sd4 s4 R5 H5 _ _ (sv4.st e5) rh5 q5 fun G6 R6 H6 J1 us ok1 e6 rh6 sim1 q6 => ?_
        obtain ⟨Pv1, p10, pok1, step1, fin1⟩ := q6
        have e26 := e3.trans (e4.trans (e5.trans e6))
        have sv6 := (sv4.st e5).st e6
        refine ⟨fun j m H7 => ∃ G7 R7 acc ys, Stp G1 R1 H1 G7 R7 H7 ∧ Same G6 G7 ∧ RepH K G7 R7 H7 ∧ Hid G7 R7 H7 p (.lst ys) ∧ DVs K G7 acc ys ∧ j ≤ us.length ∧ m = us.length - j ∧ Pv1 j acc R7, ⟨_, G6, R6, acc, ys, e2.trans e26, Same.refl _, rh6, hd2.st e26, dv2.st e26, Nat.zero_le _, rfl, p10⟩, ?_⟩
        rintro j m H7 ⟨G7, R7, acc7, ys7, e7, g67, rh7, hd7, dv7, hj, rfl, p7⟩
        obtain ⟨hok1, hlen⟩ := pok1 j acc7 R7 hj p7
        obtain ⟨goi, stopi⟩ := sim1 G7 R7 H7 g67 rh7 hok1
        by_cases hjt : j < us.length
        · obtain ⟨goi1, goi2⟩ := goi j us[j] (List.getElem?_eq_getElem hjt)
          refine .inr ⟨goi1, fun H8 => ∃ G8 R8 acc ys, Stp G1 R1 H1 G8 R8 H8 ∧ Same G6 G8 ∧ RepH K G8 R8 H8 ∧ Hid G8 R8 H8 p (.lst ys) ∧ DVs K G8 acc ys ∧ Pv1 (j + 1) acc R8, ?_, fun x H' y => ?_⟩
          · rintro H8 ⟨G8, R8, acc8, ys8, e8, g68, rh8, hd8, dv8, p8⟩
            exact ⟨us.length - (j + 1), by omega, G8, R8, acc8, ys8, e8, g68, rh8, hd8, dv8, hjt, rfl, p8⟩
          · obtain ⟨G8, e8, rh8, dv8⟩ := goi2 x H' y
            have sv8 : SV K G8 (dwipe sd4 vs1) (wipe s4 vs1) := ((sv6.mono g67).st e8).wipe vs1
            refine hg1 G8 _ _ R7 H' _ _ _ _ sv8 rh8 dv8 (step1 j us[j] acc7 R7 (List.getElem?_eq_getElem hjt) p7) fun G9 sd9 s9 R9 H9 e9 sv9 rh9 q9 w9 => ?_
            refine ⟨w9.trans (wipe_wipe vs1), ?_⟩
            refine ht1 G9 sd9 s9 R9 H9 _ _ sv9 rh9 q9 fun Ga Ra Ha b ea rha qa => ?_
            cases b with
            | false =>
              have e7a := e8.trans (e9.trans ea)
              exact ⟨Ga, Ra, acc7, ys7, e7.trans e7a, g67.trans e7a.g, rha, hd7.st e7a, dv7.st e7a, qa⟩
            | true =>
              refine he Ga sd9 s9 Ra Ha _ _ (sv9.st ea) rha qa fun Gd Rd_ Hd dz vz ed rhd dvd qd => ?_
              have e7d := e8.trans (e9.trans (ea.trans ed))
              obtain ⟨h1, h2, h3⟩ := hd7.st e7d
              have dv9 := dv7.st e7d
              refine ⟨ys7, h1, ?_, Gd, Rd_, acc7 ++ [dz], ys7 ++ [vz], (e7.trans e7d).wr hp, g67.trans e7d.g, rhd.hide h2 h3 (K.Φ.st ((e7.trans e7d).wr hp) rh1.φ) (K.F.B.st ((e7.trans e7d).wr hp) rh1.b), ⟨upd_same, h2, h3⟩, dv9.append (.cons dvd .nil), qd⟩
              rw [← dv7.length]
              exact Nat.lt_trans hlen (by decide)
        · have e : j = us.length := by omega
          subst e
          exact .inl ⟨stopi _ (Nat.le_refl _), G7, R7, acc7, ys7, e7, rh7, hd7, dv7, fin1 acc7 R7 p7⟩
  · have e : i = xs.length := by omega
    subst e
    refine .inl ⟨stop _ (Nat.le_refl _), ?_⟩
    obtain ⟨s1, rh3⟩ := rh2.tell hd2 (K.Φ.st (e1.trans (e2.tellG hp hd2.2.2)) rh.φ) (K.F.B.st (e1.trans (e2.tellG hp hd2.2.2)) rh.b)
    exact k _ R2 H2 _ _ (e1.trans (e2.tellG hp hd2.2.2)) rh3 (.lst upd_same (dv2.mono s1)) (fin acc R2 p2)
section
variable {X : CxF} {elt tg iter tg1 iter1 : Expr} {ifs ifs1 : List Expr} {scope : Scope} {own : List (Str × Nat)} {vs1 : List Nat} {pos : Pos} {wd wd1 : DTI} {g g1 : DTG} {tt tt1 : DTT} {te : DTE}
theorem de_lc2F (hc : X.calm = true) (hN : X.N.Nodup) (hi : DI X tg iter wd) (ok : BlkOk X.N X.env.scope scope own) (hv : ∀ i ∈ vs1, i ∈ own.map (·.2)) (hg : AllD X scope fun Y => DGw Y (own.map (·.2)) tg g) (ht : AllD X scope fun Y => DTs Y ifs tt)
    (hi1 : AllD X scope fun Y => DI Y tg1 iter1 wd1) (hg1 : AllD X scope fun Y => DGw Y vs1 tg1 g1) (ht1 : AllD X scope fun Y => DTs Y ifs1 tt1) (he : AllD X scope fun Y => DE Y elt te)
    (hs : ∀ x, foldedSetIterable iter X.env x = pure x := by intro _; rfl) (hs1 : ∀ env x, foldedSetIterable iter1 env x = pure x := by intro _ _; rfl) :
    DE X (.ListComp elt [⟨tg, iter, ifs, 0⟩, ⟨tg1, iter1, ifs1, 0⟩] scope pos) (dLc2F wd g tt wd1 g1 tt1 te (own.map (·.2)) vs1) := by
  obtain ⟨wi, i1, i2⟩ := hi
  exact ⟨_, pe_lc2 hc hN i1 ok hv (fun s H C cl fp => (hg s H C cl fp).pg) (fun s H C cl fp => (ht s H C cl fp).pts) (fun s H C cl fp => (hi1 s H C cl fp).pi) (fun s H C cl fp => (hg1 s H C cl fp).pg) (fun s H C cl fp => (ht1 s H C cl fp).pts) (fun s H C cl fp => (he s H C cl fp).pe) hs hs1,
    LE.lc2F i2 LGw.c LT.c LI.c LGw.c LT.c LE.c⟩
end
end DL
end
section
set_option Elab.async false
set_option maxRecDepth 100000
set_option linter.all false
set_option autoImplicit false
/-! DLK13: self.f += a whole number -/
namespace DL
open PySem PySem.Spec PyProof.Rows L2
variable [TabCtx]
def dAugF (C : Addr) (f : Str) (to te : DTE) : DTS := fun D s R => to s R fun d R1 => ∃ (a : Addr) (i : Int), d = .ref a ∧ fldOf R1 (.ref a) C f (.int i) ∧ te s R1 fun y R2 => ∃ j dx fs, y = .int j ∧ R2 a = some (.ins C dx fs) ∧ fs.length < 1000 ∧ D.nx s (put R2 a (.ins C dx (putD f (.int (i + j)) fs)))
end DL
end
section
set_option Elab.async false
set_option maxRecDepth 100000
set_option linter.all false
set_option autoImplicit false
/-! DLK14: a sign not in a text; sum and sorted of whole numbers -/
namespace DL
open PySem PySem.Spec PyProof.Rows L2
variable [TabCtx]
section
variable {X : CxF}
end
end DL
end
section
set_option Elab.async false
set_option maxRecDepth 100000
set_option maxHeartbeats 2000000
set_option linter.all false
set_option autoImplicit false
/-! DLK15: sorted({..}) of whole numbers, the set a comprehension of one or two clauses -/
namespace L2
open PySem PySem.Spec PyProof.Rows
section
variable {prog : Program} {w : World} {A : Around} {R : Result → Shared → Prop} {s : Shared} {ex a0 b0 a1 b1 : Expr} {c0 c1 : List Expr} {scope : Scope} {pos : Pos} {it : Value} {D : Addr} {env : Env}
abbrev sc2 (ex a0 b0 : Expr) (c0 : List Expr) (a1 b1 : Expr) (c1 : List Expr) (scope : Scope) (pos : Pos) : Expr := .SetComp ex [⟨a0, b0, c0, 0⟩, ⟨a1, b1, c1, 0⟩] scope pos
end

/-- a new set -/
abbrev objS (w : World) : Obj := { cls := .type "set", dict := none, data := .set #[] 0 (.fresh 0 0 (!w.params.followText "set-order")) }
/-- set.add of a whole number -/
theorem addI_ok {X : Cx} {pins : List (Addr × Obj)} {σ : L2.St} {H : Hp} {s : Shared} {E : Value → Shared → Prop} {D : Addr} {S : Int → Bool} {n : Nat} {y : Int} {tk : Tok} {Q : Value → Shared → Prop} (I : Inv X pins σ H s) (hD : H D = some (SetO X.w D S n)) (hr : n + 1 < scanBound)
    (h : ∀ s', Inv X pins σ (upd H D (SetO X.w D (fun j => S j || decide (j = y)) (if S y = true then n else n + 1))) s' → Q .none s') : wpAny (model X.prog X.w) X.A (call (.builtin "set.add") [.ref D, .int y tk]) Q E s :=
  setR_add (setO_get I hD) hr fun h' sb new => h _ (I.write (e := D) (t' := s.toks + 1) (by rw [hD]; trivial) (.inl rfl) (fun b u hb hu => (sb.2 b hb).trans hu) (let ⟨o, _, _, _, ho, _⟩ := new; ⟨o, ho⟩) (setO_new new))
section
variable {X : Cx}
/-- {y for tg in iter if ..} of whole numbers -/
def tSc1 (w : World) (wi : TI) (g : TG) (tt : TT) (te : TE) (vs : List Nat) : TE := fun σ H Q => wi σ H fun J H1 => ∀ D, H1 D = none → ∃ W : Nat → Nat → Hp → Prop, (∃ m, W 0 m (upd H1 D (SetO w D (fun _ => false) 0))) ∧ ∀ i m H, W i m H →
  (J.stop i H ∧ Q (.ref D) H) ∨ (J.go i H ∧ ∃ Nx : Hp → Prop, (∀ H', Nx H' → ∃ m', m' < m ∧ W (i + 1) m' H') ∧ ∀ x H', J.yld i H x H' → g x (wipe σ vs) H' fun σ2 H2 => wipe σ2 vs = wipe σ vs ∧ tt σ2 H2 fun b H3 =>
    if b = true then te σ2 H3 fun y H4 => ∃ (c : Int) (S : Int → Bool) (n : Nat), y = .int c ∧ H4 D = some (SetO w D S n) ∧ n + 1 < scanBound ∧ Nx (upd H4 D (SetO w D (fun j => S j || decide (j = c)) (if S c = true then n else n + 1))) else Nx H3)
/-- {y for tg in iter if .. for tg1 in iter1 if ..} of whole numbers -/
def tSc2 (w : World) (wi : TI) (g : TG) (tt : TT) (wi1 : TI) (g1 : TG) (tt1 : TT) (te : TE) (vs vs1 : List Nat) : TE := fun σ H Q => wi σ H fun J H1 => ∀ D, H1 D = none → ∃ W : Nat → Nat → Hp → Prop, (∃ m, W 0 m (upd H1 D (SetO w D (fun _ => false) 0))) ∧ ∀ i m H, W i m H →
  (J.stop i H ∧ Q (.ref D) H) ∨ (J.go i H ∧ ∃ Nx : Hp → Prop, (∀ H', Nx H' → ∃ m', m' < m ∧ W (i + 1) m' H') ∧ ∀ x H', J.yld i H x H' → g x (wipe σ vs) H' fun σ2 H2 => wipe σ2 vs = wipe σ vs ∧ tt σ2 H2 fun b H3 =>
    if b = true then wi1 σ2 H3 fun J1 H4 => ∃ W1 : Nat → Nat → Hp → Prop, (∃ m, W1 0 m H4) ∧ ∀ j k H, W1 j k H →
      (J1.stop j H ∧ Nx H) ∨ (J1.go j H ∧ ∃ Nx1 : Hp → Prop, (∀ H', Nx1 H' → ∃ k', k' < k ∧ W1 (j + 1) k' H') ∧ ∀ x H', J1.yld j H x H' → g1 x (wipe σ2 vs1) H' fun σ3 H5 => wipe σ3 vs1 = wipe σ2 vs1 ∧ tt1 σ3 H5 fun b H6 =>
        if b = true then te σ3 H6 fun y H7 => ∃ (c : Int) (S : Int → Bool) (n : Nat), y = .int c ∧ H7 D = some (SetO w D S n) ∧ n + 1 < scanBound ∧ Nx1 (upd H7 D (SetO w D (fun j => S j || decide (j = c)) (if S c = true then n else n + 1))) else Nx1 H6)
    else Nx H3)
theorem sc1_core {pins : List (Addr × Obj)} {s : Shared} {σ : St} {H : Hp} {Q : VK} {ex tg iter : Expr} {ifs : List Expr} {scope : Scope} {own : List (Str × Nat)} {pos pos' : Pos} {wi : TI} {g : TG} {tt : TT} {te : TE} {use : Option (Value → Sem Unit)} {Qf : Value → Shared → Prop}
    (hc : X.calm = true) (hN : X.N.Nodup) (I : Inv X pins σ H s) (hi : PI X tg iter wi) (ok : BlkOk X.N X.env.scope scope own)
    (hg : AllB X scope fun Y => PG Y tg g) (ht : AllB X scope fun Y => PTs Y ifs tt) (he : AllB X scope fun Y => PE Y ex te)
    (hs : ∀ x, foldedSetIterable iter X.env x = pure x)
    (h : tSc1 X.w wi g tt te (own.map (·.2)) σ H Q)
    (hRR : ∀ D C s' m H', Inv X pins σ H' s' → Q (.ref D) H' → s'.heap.Ns C m → FpOk X pins H' C → compPost (model X.prog X.w) X.A X.xe use Qf (.ref D) C (.ok .next) s') :
    wpAny (model X.prog X.w) X.A (comprehension (.SetComp ex [⟨tg, iter, ifs, 0⟩] scope pos) scope X.env pos' (newSet (.type "set")) false (eval iter X.env) use) Qf X.xe s := by
  have hfree : ∀ y ∈ scope.names, y.2 = .free → ∃ c, X.env.cells.lookup y.1 = some c := fun y hy e => (ok.free y hy e).elim (fun k => I.ok.has _ (.inl k)) (fun k => I.ok.has _ (.inr k))
  refine wpAny_comprehension_free (use := use) rfl hs (closure_ok hfree) ok.kind (fun y hy e => by rw [ok.uniq y hy, e]) (thn (hi.run pins s σ H _ I h) fun xv s1 hx => thn hx fun itv s2 h2 => ?_)
  obtain ⟨it, fp, tn, J, H2, e, I2, T, st2, f2, q⟩ := h2
  subst e
  refine PpSet.newSet_ok (newEnv_comp ?_)
  generalize hD : s2.heap.objs.size = D
  have hDn : H2 D = none := I2.hok.fresh (Nat.le_of_eq hD)
  obtain ⟨W, ⟨m0, w0⟩, turn⟩ := q D hDn
  generalize hs3 : ({ s2 with heap := s2.heap.push (objS X.w) } : Shared) = s3
  have I3 : Inv X pins σ (upd H2 D (SetO X.w D (fun _ => false) 0)) s3 := by
    rw [← hs3]
    refine I2.laid (t' := s2.toks) (fun b o e => Heap.get?_push_of_some _ e) (Nat.le_of_eq hD) ?_
    rw [← hD]
    exact setO_new (setR_fresh X.w)
  have h3 : s3.heap = s2.heap.push (objS X.w) := by rw [← hs3]
  have sz : ∀ b ∈ fp, b < s2.heap.objs.size := fun b hb => let ⟨o, e, _⟩ := T.obj _ _ st2 b hb; Heap.lt_size e
  have f3 : ∀ b ∈ fp, FpOk X pins (upd H2 D (SetO X.w D (fun _ => false) 0)) b ∧ b < s3.heap.objs.size := fun b hb => by
    have hlt := sz b hb
    refine ⟨⟨?_, (f2 b hb).2⟩, by rw [h3, Heap.size_push]; exact Nat.lt_succ_of_lt hlt⟩
    rw [upd_ne (by rw [← hD]; exact Nat.ne_of_lt hlt)]
    exact (f2 b hb).1
  have st3 : tn 0 s3.heap := T.keep _ _ _ st2 fun b _ o e => by rw [h3]; exact Heap.get?_push_of_some _ e
  have I4 := block_start I3 ok hN f3
  have pg := hg s3 (upd H2 D (SetO X.w D (fun _ => false) 0)) s3.heap.objs.size (cellsFrom (s3.heap.objs.size + 1) scope.names (cloFrom X.env.cells scope.names [])) fp
  have pt := ht s3 (upd H2 D (SetO X.w D (fun _ => false) 0)) s3.heap.objs.size (cellsFrom (s3.heap.objs.size + 1) scope.names (cloFrom X.env.cells scope.names [])) fp
  have pe := he s3 (upd H2 D (SetO X.w D (fun _ => false) 0)) s3.heap.objs.size (cellsFrom (s3.heap.objs.size + 1) scope.names (cloFrom X.env.cells scope.names [])) fp
  show codeAny _ _ (.compStart (.SetComp ex [⟨tg, iter, ifs, 0⟩] scope pos) 0 (.ref it) (.ref D) (compEnvC scope (cellsFrom (s3.heap.objs.size + 1) scope.names (cloFrom X.env.cells scope.names [])) s3.heap.objs.size X.env)) (compPost (model X.prog X.w) X.A X.xe use Qf (.ref D) s3.heap.objs.size) { s3 with heap := pushCells (s3.heap.push { cls := .type "dict", data := .dict #[] }) scope.names }
  have nfp : ∀ b ∈ fp, (upd H2 D (SetO X.w D (fun _ => false) 0)) b = none := fun b hb => (f3 b hb).1.1
  generalize hce : compEnvC scope (cellsFrom (s3.heap.objs.size + 1) scope.names (cloFrom X.env.cells scope.names [])) s3.heap.objs.size X.env = ce at I4 pg pt pe ⊢
  have cL : ce.locals = s3.heap.objs.size := by subst hce; rfl
  generalize hH3 : upd H2 D (SetO X.w D (fun _ => false) 0) = H3 at I3 I4 pg pt pe w0 nfp f3
  generalize hs4 : ({ s3 with heap := pushCells (s3.heap.push { cls := .type "dict", data := .dict #[] }) scope.names } : Shared) = s4 at I4 ⊢
  have st4 : tn 0 s4.heap := T.keep _ _ _ st3 fun b _ o e => by rw [← hs4]; exact pushCells_keeps _ _ _ _ (Heap.get?_push_of_some _ e)
  have stat : ∀ {σ' : St} {H' : Hp} {s' : Shared}, Inv (X.blk s3 H3 scope ce fp) [] σ' H' s' → (∀ b ∈ fp, H' b = none) → ∀ b ∈ fp, FpOk (X.blk s3 H3 scope ce fp) [] H' b := fun {σ' H' s'} I' hn b hb =>
    ⟨hn b hb, (I'.ok.exf b hb).1, I'.ok.exfs b hb, .inl hb, fun x c e => (I'.ok.exf b hb).2 x c e, fun p hp => absurd (show p ∈ ([] : List (Addr × Obj)) ++ [] from hp) (by simp)⟩
  have loop : codeAny (model X.prog X.w) X.A (.compLoop (.SetComp ex [⟨tg, iter, ifs, 0⟩] scope pos) 0 (.ref it) (.ref D) ce) (compPost (model X.prog X.w) X.A X.xe use Qf (.ref D) s3.heap.objs.size) s4 := by
    refine PpSet.compLoopS_any (fun n s' => ∃ i H', Inv (X.blk s3 H3 scope ce fp) [] (wipe σ (own.map (·.2))) H' s' ∧ tn i s'.heap ∧ (∀ b ∈ fp, H' b = none) ∧ W i n H') ?_ m0 ⟨0, H3, I4, st4, nfp, w0⟩
    rintro n s5 ⟨i, H5, I5, st5, n5, w5⟩
    rcases turn i n H5 w5 with ⟨stop, qq⟩ | ⟨go, Nx, hNx, step⟩
    · refine thnF (T.done (X.blk s3 H3 scope ce fp) rfl rfl rfl hc i [] s5 _ H5 (fun _ _ => False) I5 (stat I5 n5) st5 stop) fun r s6 ⟨hr, I6⟩ => ?_
      subst hr
      have I7 : Inv X pins σ H5 s6 := I3.call' (ch := fp) I6.os I6.base I6.hok I6.bare fun b hb => ⟨(f3 b hb).1.2.2.2.1, (f3 b hb).1.2.1, (f3 b hb).1.2.2.2.2.1, (f3 b hb).1.2.2.2.2.2⟩
      have nC : H5 s3.heap.objs.size = none := cL ▸ (show H5 ce.locals = none from I6.free)
      obtain ⟨m, hn, _⟩ := I6.loc
      exact hRR D s3.heap.objs.size s6 m H5 I7 qq (cL ▸ (show s6.heap.Ns ce.locals m from hn)) (I3.fpOk (Nat.le_refl _) nC)
    · refine thnF (T.item (X.blk s3 H3 scope ce fp) rfl rfl rfl hc i [] s5 _ H5 (fun _ _ => False) I5 (stat I5 n5) st5 go) fun r s6 ⟨u, hr, h6⟩ => ?_
      subst hr
      refine thnF h6 fun _ s7 ⟨x, H7, I7, r7, y7, st7, n7⟩ => ?_
      have I7' := I7.pinned (stat I7 n7) (T.obj _ _ st7)
      refine thnF (pg.run _ s7 _ H7 x u _ I7' r7 (step x H7 y7)) fun _ s8 ⟨σ8, H8, I8, hw8, q8⟩ => ?_
      refine thnF (pt.run _ s8 σ8 H8 _ I8 q8) fun b s9 ⟨H9, I9, q9⟩ => ?_
      have fin : ∀ {σ9 : St} {s' : Shared} {H' : Hp}, Inv (X.blk s3 H3 scope ce fp) ([] ++ pinsAt fp s7.heap) σ9 H' s' → (wipe σ (own.map (·.2))).length = σ9.length → (∀ (j : Nat) v, (wipe σ (own.map (·.2)))[j]? = some (some v) → σ9[j]? = some (some v)) → Nx H' →
          ∃ m, m < n ∧ ∃ i H', Inv (X.blk s3 H3 scope ce fp) [] (wipe σ (own.map (·.2))) H' s' ∧ tn i s'.heap ∧ (∀ b ∈ fp, H' b = none) ∧ W i m H' := fun {σ9 s' H'} I' hl hk nx => by
        obtain ⟨m', hm, w'⟩ := hNx H' nx
        have pin' : ∀ b ∈ fp, ∀ o, s7.heap.get? b = some o → s'.heap.get? b = some o ∧ H' b = none := fun b hb o e =>
          (fun z => ⟨z.1, z.2.1⟩) (I'.pin (b, o) (List.mem_append_right _ (List.mem_append_right _ (mem_pinsAt hb e))))
        refine ⟨m', hm, i + 1, H', (I'.unpinned (pins := [])).weak hl hk, T.keep _ _ _ st7 fun b hb o e => (pin' b hb o e).1, fun b hb => ?_, w'⟩
        obtain ⟨o, e, _⟩ := T.obj _ _ st7 b hb
        exact (pin' b hb o e).2
      have hl8 : (wipe σ (own.map (·.2))).length = σ8.length := (congrArg List.length hw8.symm).trans (wipe_length _ _)
      have hk8 : ∀ (j : Nat) v, (wipe σ (own.map (·.2)))[j]? = some (some v) → σ8[j]? = some (some v) := fun j v e => (wipe_some (hw8 ▸ e)).1
      cases b with
      | false =>
        simp only [Bool.false_eq_true, if_false] at q9 ⊢
        exact fin I9 hl8 hk8 q9
      | true =>
        simp only [if_true] at q9 ⊢
        refine thnF (pe.run _ s9 σ8 H9 _ I9 q9) fun z2 s18 ⟨yv, H18, I18, r18, c, S, n18, ek, hD18, hz18, nx⟩ => ?_
        subst ek
        obtain ⟨tk, rfl⟩ : ∃ tk, z2 = Value.int c tk := r18
        exact addI_ok (X := X.blk s3 H3 scope ce fp) I18 hD18 hz18 fun s19 I19 => fin I19 hl8 hk8 nx
  exact PpSet.codeAny_compStart_set loop (T.self X.A 0 _ _ _ st4 loop)
theorem pe_sc1 {ex tg iter : Expr} {ifs : List Expr} {scope : Scope} {own : List (Str × Nat)} {pos : Pos} {wi : TI} {g : TG} {tt : TT} {te : TE} (hc : X.calm = true) (hN : X.N.Nodup) (hi : PI X tg iter wi) (ok : BlkOk X.N X.env.scope scope own)
    (hg : AllB X scope fun Y => PG Y tg g) (ht : AllB X scope fun Y => PTs Y ifs tt) (he : AllB X scope fun Y => PE Y ex te) (hs : ∀ x, foldedSetIterable iter X.env x = pure x := by intro _; rfl) :
    PE X (.SetComp ex [⟨tg, iter, ifs, 0⟩] scope pos) (tSc1 X.w wi g tt te (own.map (·.2))) := by
  refine ⟨fun pins s σ H Q I h => ?_⟩
  rw [PpSet.eval_SetComp]
  refine sc1_core hc hN I hi ok hg ht he hs h fun D C s' m H' I' q hn f => ⟨m, hn, fun h'' sb => ?_⟩
  obtain ⟨f0, f1, f2, f3, f4, f5⟩ := f
  exact ⟨.ref D, H', I'.turned (t' := s'.toks) (fun b o hb e => (sb.2 b hb).trans e) f0 f1 f3 f4 f5, rfl, q⟩
end
end L2
namespace DL
open PySem PySem.Spec PyProof.Rows L2
variable [TabCtx]
/-- what a set has when k is put in -/
def insI (acc : List Int) (k : Int) : List Int := if k ∈ acc then acc else acc ++ [k]
theorem insI_mem {acc : List Int} {k j : Int} : j ∈ insI acc k ↔ j ∈ acc ∨ j = k := by
  unfold insI
  split
  · rename_i h
    exact ⟨.inl, fun z => z.elim id fun e => e ▸ h⟩
  · simp
theorem insI_nodup {acc : List Int} {k : Int} (h : acc.Nodup) : (insI acc k).Nodup := by
  unfold insI
  split
  · exact h
  · rename_i hk
    exact List.nodup_append.mpr ⟨h, by simp, fun a ha b hb => by rw [List.mem_singleton.mp hb]; rintro rfl; exact hk ha⟩
def sO (w : World) (p : Addr) (acc : List Int) : HO := SetO w p (fun j => decide (j ∈ acc)) acc.length
theorem sO_nil {w : World} {p : Addr} : SetO w p (fun _ => false) 0 = sO w p [] := by
  unfold sO
  congr 1
theorem sO_ins {w : World} {p : Addr} {acc : List Int} {c : Int} : SetO w p (fun j => decide (j ∈ acc) || decide (j = c)) (if decide (c ∈ acc) = true then acc.length else acc.length + 1) = sO w p (insI acc c) := by
  have e1 : (fun j => decide (j ∈ acc) || decide (j = c)) = fun j => decide (j ∈ insI acc c) := by
    funext j
    rw [← Bool.decide_or]
    exact decide_eq_decide.mpr insI_mem.symm
  have e2 : (if decide (c ∈ acc) = true then acc.length else acc.length + 1) = (insI acc c).length := by
    unfold insI
    by_cases h : c ∈ acc
    · rw [if_pos (decide_eq_true h), if_pos h]
    · rw [if_neg (by simpa using h), if_neg h, List.length_append, List.length_singleton]
  unfold sO
  rw [e1, e2]
/-- sorted({y for x in .. if ..}) of whole numbers -/
def dSortSc1 (wd : DTI) (g : DTG) (tt : DTT) (te : DTE) (vs : List Nat) : DTE := fun s R Q => wd s R fun xs ok R1 => ∃ Pv : Nat → List Int → Rs → Prop, Pv 0 [] R1 ∧ (∀ i acc R, i ≤ xs.length → Pv i acc R → ok R ∧ acc.length < 1000) ∧
  (∀ (i : Nat) x acc R, xs[i]? = some x → Pv i acc R → g x (dwipe s vs) R fun s2 R2 => tt s2 R2 fun b R3 => if b = true then te s2 R3 fun y R4 => ∃ k, y = .int k ∧ Pv (i + 1) (insI acc k) R4 else Pv (i + 1) acc R3) ∧
  ∀ acc R, Pv xs.length acc R → acc.length < 64 ∧ ∀ ns : List Int, ns.Pairwise (· < ·) → (∀ k, k ∈ ns ↔ k ∈ acc) → Q (.lst (ns.map D.int)) R
theorem sorted_end {K : KF} {w : World} {G0 : Hp} {R0 : Rs} {H0 : Hp} {G : Hp} {R : Rs} {H : Hp} {p : Addr} {acc : List Int} {Qd : DK} {Q : VK} (e : Stp G0 R0 H0 G R H) (rh : RepH K G R H) (hd : H p = some (sO w p acc)) (k : CB K G0 R0 H0 Qd Q) (h : acc.length < 64 ∧ ∀ ns : List Int, ns.Pairwise (· < ·) → (∀ k, k ∈ ns ↔ k ∈ acc) → Qd (.lst (ns.map D.int)) R) : rSortedSet w [.ref p] H Q :=
  ⟨p, _, _, rfl, hd, h.1, fun ns a hs hm _ ha => by
    obtain ⟨s1, rh3⟩ := rh.imm (o := .lst (ns.map V.int)) ha
    exact k _ R _ _ _ (e.trans s1) rh3 (.lst upd_same (DVs.ofInts ns)) (h.2 ns hs fun j => by rw [hm j, decide_eq_true_eq])⟩
theorem LE.sortSc1 {K : KF} {w : World} {vs : List Nat} {wi : TI} {g0 : TG} {tt0 : TT} {te0 : TE} {wd : DTI} {g : DTG} {tt : DTT} {te : DTE} (hi : LI K wi wd) (hg : LGw K vs g0 g) (ht : LT K tt0 tt) (he : LE K te0 te) : LE K (tCB (rSortedSet w) (tCons (tSc1 w wi g0 tt0 te0 vs) tNil)) (dSortSc1 wd g tt te vs) := fun G sd s R H Qd Q sv rh q k => by
  refine hi G sd s R H _ _ sv rh q fun G1 R1 H1 J xs ok e1 rh1 sim q1 => fun p hp => ?_
  obtain ⟨Pv, p0, pok, step, fin⟩ := q1
  have r1p := rh1.free hp
  have g1p := rh1.gfree hp
  have sv1 := sv.st e1
  have put : ∀ {G2 R2 H2} (e : Stp G1 R1 H1 G2 R2 H2) (o : HO), RepH K G2 R2 H2 → R2 p = none → G2 p = none → RepH K G2 R2 (upd H2 p o) := fun {G2 R2 H2} e o rh hr hg => rh.hide hr hg (K.Φ.st (e.wr hp) rh1.φ) (K.F.B.st (e.wr hp) rh1.b)
  rw [sO_nil]
  refine ⟨fun i m H2 => ∃ G2 R2 acc, Stp G1 R1 H1 G2 R2 H2 ∧ RepH K G2 R2 H2 ∧ Hid G2 R2 H2 p (sO w p acc) ∧ i ≤ xs.length ∧ m = xs.length - i ∧ Pv i acc R2, ⟨_, G1, R1, [], (Stp.refl _ _ _).wr hp, put (Stp.refl _ _ _) _ rh1 r1p g1p, ⟨upd_same, r1p, g1p⟩, Nat.zero_le _, rfl, p0⟩, ?_⟩
  rintro i m H2 ⟨G2, R2, acc, e2, rh2, hd2, hi', rfl, p2⟩
  obtain ⟨okR, hlen⟩ := pok i acc R2 hi' p2
  obtain ⟨go, stop⟩ := sim G2 R2 H2 e2.g rh2 okR
  by_cases hlt : i < xs.length
  · obtain ⟨go1, go2⟩ := go i xs[i] (List.getElem?_eq_getElem hlt)
    refine .inr ⟨go1, fun H3 => ∃ G3 R3 acc, Stp G1 R1 H1 G3 R3 H3 ∧ RepH K G3 R3 H3 ∧ Hid G3 R3 H3 p (sO w p acc) ∧ Pv (i + 1) acc R3, ?_, fun x H' y => ?_⟩
    · rintro H3 ⟨G3, R3, acc3, e3, rh3, hd3, p3⟩
      exact ⟨xs.length - (i + 1), by omega, G3, R3, acc3, e3, rh3, hd3, hlt, rfl, p3⟩
    · obtain ⟨G3, e3, rh3, dv3⟩ := go2 x H' y
      have sv3 : SV K G3 (dwipe sd vs) (wipe s vs) := ((sv1.st e2).st e3).wipe vs
      refine hg G3 _ _ R2 H' _ _ _ _ sv3 rh3 dv3 (step i xs[i] acc R2 (List.getElem?_eq_getElem hlt) p2) fun G4 sd4 s4 R4 H4 e4 sv4 rh4 q4 w4 => ?_
      refine ⟨w4.trans (wipe_wipe vs), ?_⟩
      refine ht G4 sd4 s4 R4 H4 _ _ sv4 rh4 q4 fun G5 R5 H5 b e5 rh5 q5 => ?_
      cases b with
      | false =>
        have e25 := e3.trans (e4.trans e5)
        exact ⟨G5, R5, acc, e2.trans e25, rh5, hd2.st e25, q5⟩
      | true =>
        refine he G5 sd4 s4 R5 H5 _ _ (sv4.st e5) rh5 q5 fun G6 R6 H6 dk vk e6 rh6 dv6 q6 => ?_
        obtain ⟨c, ec, q7⟩ := q6
        subst ec
        cases dv6
        have e26 := e3.trans (e4.trans (e5.trans e6))
        obtain ⟨h1, h2, h3⟩ := hd2.st e26
        refine ⟨c, _, _, rfl, h1, by unfold scanBound; omega, G6, R6, insI acc c, (e2.trans e26).wr hp, put (e2.trans e26) _ rh6 h2 h3, ⟨?_, h2, h3⟩, q7⟩
        rw [sO_ins]
        exact upd_same
  · have e : i = xs.length := by omega
    subst e
    exact .inl ⟨stop _ (Nat.le_refl _), sorted_end (e1.trans e2) rh2 hd2.1 k (fin acc R2 p2)⟩
/-- sorted({z for x in .. if .. for y in .. if ..}) of whole numbers -/
def dSortSc2 (wd : DTI) (g : DTG) (tt : DTT) (wd1 : DTI) (g1 : DTG) (tt1 : DTT) (te : DTE) (vs vs1 : List Nat) : DTE := fun s R Q => wd s R fun xs ok R1 => ∃ Pv : Nat → List Int → Rs → Prop, Pv 0 [] R1 ∧ (∀ i acc R, i ≤ xs.length → Pv i acc R → ok R) ∧
  (∀ (i : Nat) x acc R, xs[i]? = some x → Pv i acc R → g x (dwipe s vs) R fun s2 R2 => tt s2 R2 fun b R3 =>
    if b = true then wd1 s2 R3 fun ys ok1 R4 => ∃ Pv1 : Nat → List Int → Rs → Prop, Pv1 0 acc R4 ∧ (∀ j acc R, j ≤ ys.length → Pv1 j acc R → ok1 R ∧ acc.length < 1000) ∧
      (∀ (j : Nat) y acc R, ys[j]? = some y → Pv1 j acc R → g1 y (dwipe s2 vs1) R fun s3 R5 => tt1 s3 R5 fun b R6 => if b = true then te s3 R6 fun z R7 => ∃ k, z = .int k ∧ Pv1 (j + 1) (insI acc k) R7 else Pv1 (j + 1) acc R6) ∧
      ∀ acc R, Pv1 ys.length acc R → Pv (i + 1) acc R
    else Pv (i + 1) acc R3) ∧
  ∀ acc R, Pv xs.length acc R → acc.length < 64 ∧ ∀ ns : List Int, ns.Pairwise (· < ·) → (∀ k, k ∈ ns ↔ k ∈ acc) → Q (.lst (ns.map D.int)) R
section
variable {X : CxF} {ex tg iter tg1 iter1 : Expr} {ifs ifs1 : List Expr} {scope : Scope} {own : List (Str × Nat)} {vs1 : List Nat} {pos p q : Pos} {wd wd1 : DTI} {g g1 : DTG} {tt tt1 : DTT} {te : DTE}
theorem de_sortSc1 (hc : X.calm = true) (hs0 : Gl X "sorted") (hm : X.mg "sorted" = none) (hN : X.N.Nodup) (hi : DI X tg iter wd) (ok : BlkOk X.N X.env.scope scope own) (hg : AllD X scope fun Y => DGw Y (own.map (·.2)) tg g) (ht : AllD X scope fun Y => DTs Y ifs tt) (he : AllD X scope fun Y => DE Y ex te)
    (hs : ∀ x, foldedSetIterable iter X.env x = pure x := by intro _; rfl) (na : starEach [.SetComp ex [⟨tg, iter, ifs, 0⟩] scope pos] X.env = (false, eval (.SetComp ex [⟨tg, iter, ifs, 0⟩] scope pos) X.env) :: starEach [] X.env := by rfl) :
    DE X (.Call (.Name "sorted" p) [.SetComp ex [⟨tg, iter, ifs, 0⟩] scope pos] [] q) (dSortSc1 wd g tt te (own.map (·.2))) := by
  obtain ⟨wi, i1, i2⟩ := hi
  exact ⟨_, pe_callB (cr_sortedSet hc) hs0 hm bt_sorted (pa_cons (pe_sc1 hc hN i1 ok (fun s H C cl fp => (hg s H C cl fp).pg) (fun s H C cl fp => (ht s H C cl fp).pts) (fun s H C cl fp => (he s H C cl fp).pe) hs) pa_nil na) (by decide) (by decide) na rfl, LE.sortSc1 i2 LGw.c LT.c LE.c⟩
end
end DL
end
section
set_option Elab.async false
set_option maxRecDepth 100000
set_option maxHeartbeats 2000000
set_option linter.all false
set_option autoImplicit false
/-! DLK16: {k: v} that may change; calls of defs with a rest; sorted of data that ascends; [.. for a, b in d.items() for ..] -/
namespace L2
open PySem PySem.Spec PyProof.Rows
section
variable {X : Cx}
theorem eachOf {s : Shared} {pins : List (Addr × Obj)} {σ : St} {H : Hp} (I : Inv X pins σ H s) : ∀ {vs : List V} {ds : List PyData} {us : List Value}, DpAll X.K H vs ds → Vals vs us →
    PySem.W.EachIs (fun u (b : V × PyData) => RelV b.1 u) us (vs.zip ds) ∧ PySem.W.EachIs (fun u (b : V × PyData) => ∃ as, Reads s.heap u b.2 as) us (vs.zip ds)
  | _, _, _, .nil, r => by cases r; exact ⟨.nil, .nil⟩
  | _, _, _, .cons a b, r => by
    cases r with
    | cons r1 r2 =>
      obtain ⟨h1, h2⟩ := eachOf I b r2
      exact ⟨.cons r1 h1, .cons (Dp.reads I _ _ _ a r1) h2⟩
theorem each_vals : ∀ {us : List Value} {bs : List (V × PyData)}, PySem.W.EachIs (fun u (b : V × PyData) => RelV b.1 u) us bs → Vals (bs.map (·.1)) us
  | _, _, .nil => .nil
  | _, _, .cons a b => .cons a (each_vals b)
/-- sorted(xs), the data ascending -/
def rSortA (X : Cx) : List V → Hp → VK → Prop := fun vs H Q => ∃ (a : Addr) (xs : List V) (ds : List PyData), vs = [V.ref a] ∧ SqL X.K H a xs ∧ DpAll X.K H xs ds ∧ xs.length = ds.length ∧ PySem.W.AllAlike ds ∧ PySem.W.Sortable ds ∧ ds.length ≤ sizeLine ∧ (∀ d ∈ ds, X.A.units + 2 + d.depth < cLine) ∧
  ds.Pairwise (fun a b => PySem.W.dataLt b a = false) ∧ ∀ p, H p = none → Q (.ref p) (upd H p (.lst xs))
theorem cr_sortA : CallR X (.builtin "sorted") (rSortA X) := by
  intro pins s σ H vs us Q I r h
  obtain ⟨a, xs, ds, rfl, hs, hd, hlen, hal, hk, hz, hu, hp, q⟩ := h
  obtain ⟨its, rv, hl, _⟩ := I.list hs
  rw [Vals.ref1 r]
  obtain ⟨e1, e2⟩ := eachOf I hd rv
  have em : (xs.zip ds).map (·.2) = ds := List.map_snd_zip (Nat.le_of_eq hlen.symm)
  have e0 : (xs.zip ds).map (·.1) = xs := List.map_fst_zip (Nat.le_of_eq hlen)
  have zl : (xs.zip ds).length = ds.length := by rw [List.length_zip, hlen, Nat.min_self]
  have pw : (xs.zip ds).Pairwise (fun a b => PySem.W.dataLe false (fun b : V × PyData => b.2) a b = true) := by
    rw [← em, List.pairwise_map] at hp
    exact hp.imp fun {a b} h => by rw [PySem.W.dataLe_eq]; simpa using h
  refine PySem.W.sorted_data (β := V × PyData) (enc := fun b => b.2) (R := fun u b => RelV b.1 u) (vs := its) (bs := xs.zip ds) hl.isList e1 e2 (by rw [em]; exact hal) (by rw [em]; exact hk) (by rw [zl]; exact hz) (fun b hb => hu _ (List.of_mem_zip hb).2) fun out ol eo => ?_
  rw [List.mergeSort_of_pairwise pw] at eo
  have vo := each_vals eo
  rw [e0] at vo
  obtain ⟨ep, he'⟩ := PyProof.Rows.sortedAll_at s.heap its (List.toArray out)
  exact ⟨.ref _, upd H (s.heap.objs.size + 1) (.lst xs), I.laid (t' := s.toks) (fun _ _ => PyProof.Rows.sortedAll_old) (Nat.le_succ _) ⟨by rw [hlen]; exact hz, out, ep, vo, he'⟩, rfl, q _ (I.hok.fresh (Nat.le_succ _))⟩
end
section
variable [DL.TabCtx] {X : Cx} {CX : CXT} {k : Nat} {f : Addr} {sp : Sp} {E : L2.St → XK} {x : Str} {p pos : Pos} {e : Expr} {es : List Expr} {t : TA}
theorem pe_callSt (F : DL.FnSt X.prog X.w X.K X.mg X.base CX k f sp) (hgd : X.A.guards = some []) (room : Room k X.A) (gl : Gl X x) (hm : X.mg x = some (.ref f)) (kp : PySem.W.keepIn X.K (.ref f) = true) (ps' : ∀ σ, PassesAt CX X σ (E σ))
    (ha : PA X (e :: es) t) (hdb : (x == ("__debug__" : Str)) = false := by decide) (he : starEach (e :: es) X.env = (false, eval e X.env) :: starEach es X.env := by rfl) (hpl : (backTo pos (starEach es X.env)).any (·.1) = false := by rfl) : PE X (.Call (.Name x p) (e :: es) [] pos) (tCallS sp E t) :=
  ⟨fun pins s σ H Q I h => wpAny_Call_Name_kw (ld_glob I gl hm (PySem.W.callWith_K (h₀ := X.base) I.ok.mod.kin kp
    (thn (ha.run pos pins s σ H _ I h) fun us s1 ⟨vs, H1, I1, r, q⟩ => ⟨I1.kIn, DL.goSt F hgd room (ps' σ) I1 r q⟩) he hpl) hdb)⟩
end
end L2
namespace DL
open PySem PySem.Spec PyProof.Rows L2
variable [TabCtx]
/-! ### a def with a rest, by its name -/
structure CalS (P : Program) (w : World) (K : KB) (mg : Str → Option Value) (base : Heap) (k : Nat) (x : Str) (dsp : DSp) : Prop where
  ex : ∃ f : Addr, FnSt P w K mg base (L2.CX P w) k f (spOf K dsp) ∧ mg x = some (.ref f) ∧ PySem.W.keepIn K (.ref f) = true
section
variable {X : CxF} {k j : Nat} {x : Str} {dsp : DSp} {Wd : DWX} {p pos : Pos} {e : Expr} {es : List Expr} {t : DTA}
theorem de_cS (c : CalS X.prog X.w X.K.F X.mg X.base k x dsp) (gd : X.A.guards = some []) (hr : Room j X.A) (hk : k ≤ j) (tk : TakesD X Wd) (hg : Gl X x) (ha : DA X (e :: es) t) (hdb : (x == ("__debug__" : Str)) = false := by decide)
    (he : starEach (e :: es) X.env = (false, eval e X.env) :: starEach es X.env := by rfl) (hpl : (backTo pos (starEach es X.env)).any (·.1) = false := by rfl) : DE X (.Call (.Name x p) (e :: es) [] pos) (dCallX dsp Wd t) := by
  obtain ⟨f, F, hm, kp⟩ := c.ex
  obtain ⟨W, tk, lw⟩ := tk
  obtain ⟨t0, a1, a2⟩ := ha
  exact ⟨_, pe_callSt F gd (hr.mono hk) hg hm kp (fun σ => passAt tk σ) a1 hdb he hpl, LE.callX a2 lw⟩
end
/-! ### sorted of data that ascends -/
/-! ### a dict display that may change -/
def dDispR (trs : List (DTE × DTE)) : DTE := fun s R Q => dPairs trs s R fun ps R1 => ∃ kvs : List (Key × D), ps = kvs.map (fun p => (keyD p.1, p.2)) ∧ kvs.length ≤ 15 ∧ (kvs.map (·.1)).Nodup ∧ ∀ p, R1 p = none → Q (.ref p) (put R1 p (.dK kvs))
theorem de_dispR {X : CxF} {pos : Pos} {keys : List (Option Expr)} {values : List Expr} {trs : List (DTE × DTE)} (h : DPs X pos keys values trs) (hall : keys.all (·.isSome) = true := by rfl) (hl : keys.length = values.length := by rfl) (h0 : keys ≠ [] := by decide) (h15 : keys.length ≤ 15 := by decide) : DE X (.Dict keys values pos) (dDispR trs) := by
  obtain ⟨ts, a1, a2⟩ := dps_pps h
  refine ⟨_, pe_disp a1 hall hl h0 h15, fun G sd s R H Qd Q sv rh q k => fun p hp => ?_⟩
  have rp := rh.free hp
  have gp := rh.gfree hp
  have S0 : Stp G R H G R (upd H p (.dK [])) := (Stp.refl _ _ _).wr hp
  have rh0 := rh.hide (o := .dK []) rp gp (X.K.Φ.st S0 rh.φ) (X.K.F.B.st S0 rh.b)
  refine a2 G sd s R _ _ _ sv rh0 q fun G1 R1 H1 ps xs ys e1 rh1 dx dy q1 => ?_
  obtain ⟨kvs, rfl, hk15, hn, q2⟩ := q1
  have hd : Hid G1 R1 H1 p (.dK []) := Hid.st ⟨upd_same, rp, gp⟩ e1
  rw [List.map_map] at dx dy
  obtain ⟨ws, m1, m2⟩ := merge_dv (acc := []) (us := []) .nil (show DVs X.K G1 (kvs.map (·.2)) ys from dy)
  have em := mergeKD_nodup kvs [] (by simpa using hn)
  rw [List.nil_append] at em
  rw [em] at m1 m2
  have m1' : mergeK [] ((kvs.map (·.1)).zip ys) = (kvs.map (·.1)).zip ws := m1
  refine ⟨hd.1, (kvs.map (·.1)).zip ys, keys_zip (show DVs X.K G1 (kvs.map fun p => keyD p.1) xs from dx) (show DVs X.K G1 (kvs.map (·.2)) ys from dy), Nat.le_trans (by rw [List.length_zip, List.length_map]; exact Nat.min_le_left _ _) hk15, ?_⟩
  rw [m1']
  have e0 : Stp G R H G1 R1 H1 := S0.trans e1
  have S1 : Stp G R H G1 R1 (upd H1 p (.dK ((kvs.map (·.1)).zip ws))) := e0.wr hp
  have rh2 := rh1.hide (o := .dK ((kvs.map (·.1)).zip ws)) hd.2.1 hd.2.2 (X.K.Φ.st S1 rh.φ) (X.K.F.B.st S1 rh.b)
  have hd2 : Hid G1 R1 (upd H1 p (.dK ((kvs.map (·.1)).zip ws))) p (.dK ((kvs.map (·.1)).zip ws)) := ⟨upd_same, hd.2.1, hd.2.2⟩
  have S2 := S1.tellR (ro := .dK kvs) hp
  have rh3 := rh2.tellR (ro := .dK kvs) hd2 ⟨ws, rfl, m2⟩ (X.K.Φ.st S2 rh.φ) (X.K.F.B.st S2 rh.b)
  exact k _ _ _ _ _ S2 rh3 (.ref p) (q2 p hd.2.1)
/-! ### [.. for a, b in d.items() if .. for y in .. if ..], the dict locked meanwhile -/
def dLc2It (to : DTE) (g : DTG) (tt : DTT) (wd1 : DTI) (g1 : DTG) (tt1 : DTT) (te : DTE) (vs vs1 : List Nat) : DTE := fun s R Q => ∃ (d : Addr) (kvs : List (Key × D)), R d = some (.dK kvs) ∧ ∀ u : HO, to s (put R d (.raw u)) fun x R1 => x = .ref d ∧ R1 d = some (.raw u) ∧
  ∃ Pv : Nat → List D → Rs → Prop, Pv 0 [] R1 ∧ (∀ i acc R, i ≤ kvs.length → Pv i acc R → R d = some (.raw u)) ∧
  (∀ (i : Nat) k v acc R, kvs[i]? = some (k, v) → Pv i acc R → g (.tup [keyD k, v]) (dwipe s vs) R fun s2 R2 => tt s2 R2 fun b R3 =>
    if b = true then wd1 s2 R3 fun ys ok1 R4 => ∃ Pv1 : Nat → List D → Rs → Prop, Pv1 0 acc R4 ∧ (∀ j acc R, j ≤ ys.length → Pv1 j acc R → ok1 R ∧ acc.length < 100000) ∧
      (∀ (j : Nat) y acc R, ys[j]? = some y → Pv1 j acc R → g1 y (dwipe s2 vs1) R fun s3 R5 => tt1 s3 R5 fun b R6 => if b = true then te s3 R6 fun z R7 => Pv1 (j + 1) (acc ++ [z]) R7 else Pv1 (j + 1) acc R6) ∧
      ∀ acc R, Pv1 ys.length acc R → Pv (i + 1) acc R
    else Pv (i + 1) acc R3) ∧
  ∀ acc R, Pv kvs.length acc R → Q (.lst acc) (put R d (.dK kvs))
theorem keyD_dv {K : PySem.W.Frag} {G : Hp} (k : Key) : DV K G (keyD k) (kV k) := by cases k <;> constructor
theorem LE.lc2It {K : KF} {vs vs1 : List Nat} {wi1 : TI} {to0 : TE} {g0 g10 : TG} {tt0 tt10 : TT} {te0 : TE} {to : DTE} {wd1 : DTI} {g g1 : DTG} {tt tt1 : DTT} {te : DTE} (ho : LE K to0 to) (hg : LGw K vs g0 g) (ht : LT K tt0 tt) (hi1 : LI K wi1 wd1) (hg1 : LGw K vs1 g10 g1) (ht1 : LT K tt10 tt1) (he : LE K te0 te) :
    LE K (tLockE (tLc2 (iItems to0) g0 tt0 wi1 g10 tt10 te0 vs vs1)) (dLc2It to g tt wd1 g1 tt1 te vs vs1) := fun G sd s R H Qd Q sv rh q k => by
  obtain ⟨d, kvs, hd, q⟩ := q
  obtain ⟨hGd, u, hHd, us, rfl, dvs0⟩ := rh.r d _ hd
  refine ⟨d, _, hHd, trivial, fun od => ?_⟩
  generalize hkv : (kvs.map (·.1)).zip us = kus
  have hul : us.length = kvs.length := by rw [← dvs0.length, List.length_map]
  have hkl : kus.length = kvs.length := by rw [← hkv, List.length_zip, List.length_map, hul, Nat.min_self]
  obtain ⟨S, rhL⟩ := rh.chg (p := d) (o := .frz od (.dK kus)) (ro := .raw (.frz od (.dK kus))) hd rfl
  refine ho G sd s _ _ _ _ (sv.st S) rhL (q _) fun G1 R1 H1 x v e1 rh1 dv1 q1 => ?_
  obtain ⟨ex, hR1, Pv, p0, pok, step, fin⟩ := q1
  subst ex
  cases dv1
  have frz : ∀ {G2 R2 H2}, RepH K G2 R2 H2 → R2 d = some (.raw (.frz od (.dK kus))) → H2 d = some (.frz od (.dK kus)) := fun {G2 R2 H2} rh e => by
    obtain ⟨_, o, h1, h2⟩ := rh.r d _ e
    rw [h1, show o = .frz od (.dK kus) from h2]
  refine ⟨d, od, kus, rfl, frz rh1 hR1, fun p hp => ?_⟩
  have r1p := rh1.free hp
  have g1p := rh1.gfree hp
  have sv1 := (sv.st S).st e1
  refine ⟨fun i m H2 => ∃ G2 R2 acc ys, Stp G1 R1 H1 G2 R2 H2 ∧ RepH K G2 R2 H2 ∧ Hid G2 R2 H2 p (.lst ys) ∧ DVs K G2 acc ys ∧ i ≤ kvs.length ∧ m = kvs.length - i ∧ Pv i acc R2,
    ⟨_, G1, R1, [], [], (Stp.refl _ _ _).wr hp, rh1.hide r1p g1p (K.Φ.st ((Stp.refl _ _ _).wr hp) rh1.φ) (K.F.B.st ((Stp.refl _ _ _).wr hp) rh1.b), ⟨upd_same, r1p, g1p⟩, .nil, Nat.zero_le _, rfl, p0⟩, ?_⟩
  rintro i m H2 ⟨G2, R2, acc, ys, e2, rh2, hd2, dv2, hi', rfl, p2⟩
  have hR2 := pok i acc R2 hi' p2
  have hf2 := frz rh2 hR2
  by_cases hlt : i < kvs.length
  · refine .inr ⟨⟨hf2, by omega⟩, fun H3 => ∃ G3 R3 acc ys, Stp G1 R1 H1 G3 R3 H3 ∧ RepH K G3 R3 H3 ∧ Hid G3 R3 H3 p (.lst ys) ∧ DVs K G3 acc ys ∧ Pv (i + 1) acc R3, ?_, fun x H' y => ?_⟩
    · rintro H3 ⟨G3, R3, acc3, ys3, e3, rh3, hd3, dv3, p3⟩
      exact ⟨kvs.length - (i + 1), by omega, G3, R3, acc3, ys3, e3, rh3, hd3, dv3, hlt, rfl, p3⟩
    · obtain ⟨T, ky, vv, hkvi, rfl, hT, rfl⟩ := y
      obtain ⟨⟨kk, vd⟩, hkd⟩ : ∃ q, kvs[i]? = some q := ⟨_, List.getElem?_eq_getElem hlt⟩
      obtain ⟨uv, hu1, hu2⟩ := DVs.get (i := i) (d := vd) dvs0 (by rw [List.getElem?_map, hkd]; rfl)
      have hpair : kus[i]? = some (kk, uv) := by
        rw [← hkv, List.getElem?_zip_eq_some]
        exact ⟨by rw [List.getElem?_map, hkd]; rfl, hu1⟩
      rw [hpair] at hkvi
      obtain ⟨rfl, rfl⟩ : kk = ky ∧ uv = vv := by cases hkvi; exact ⟨rfl, rfl⟩
      obtain ⟨S3, rh3⟩ := rh2.imm (o := .tup [kV kk, uv]) hT
      have e3 := S3
      have dv3 : DV K (upd G2 T (.tup [kV kk, uv])) (.tup [keyD kk, vd]) (.ref T) := .tup (.inl (.inl upd_same)) (.cons (keyD_dv kk) (.cons ((((hu2.st S).st e1).st e2).st S3) .nil))
      have sv3 : SV K _ (dwipe sd vs) (wipe s vs) := ((sv1.st e2).st e3).wipe vs
      refine hg _ _ _ R2 _ _ _ _ _ sv3 rh3 dv3 (step i kk vd acc R2 hkd p2) fun G4 sd4 s4 R4 H4 e4 sv4 rh4 q4 w4 => ?_
      refine ⟨w4.trans (wipe_wipe vs), ?_⟩
      refine ht G4 sd4 s4 R4 H4 _ _ sv4 rh4 q4 fun G5 R5 H5 b e5 rh5 q5 => ?_
      cases b with
      | false =>
        have e25 := e3.trans (e4.trans e5)
        exact ⟨G5, R5, acc, ys, e2.trans e25, rh5, hd2.st e25, dv2.st e25, q5⟩
      | true =>
        refine hi1 G5 sd4 s4 R5 H5 _ _ (sv4.st e5) rh5 q5 fun G6 R6 H6 J1 us ok1 e6 rh6 sim1 q6 => ?_
        obtain ⟨Pv1, p10, pok1, step1, fin1⟩ := q6
        have e26 := e3.trans (e4.trans (e5.trans e6))
        have sv6 := (sv4.st e5).st e6
        refine ⟨fun j m H7 => ∃ G7 R7 acc ys, Stp G1 R1 H1 G7 R7 H7 ∧ Same G6 G7 ∧ RepH K G7 R7 H7 ∧ Hid G7 R7 H7 p (.lst ys) ∧ DVs K G7 acc ys ∧ j ≤ us.length ∧ m = us.length - j ∧ Pv1 j acc R7, ⟨_, G6, R6, acc, ys, e2.trans e26, Same.refl _, rh6, hd2.st e26, dv2.st e26, Nat.zero_le _, rfl, p10⟩, ?_⟩
        rintro j m H7 ⟨G7, R7, acc7, ys7, e7, g67, rh7, hd7, dv7, hj, rfl, p7⟩
        obtain ⟨hok1, hlen⟩ := pok1 j acc7 R7 hj p7
        obtain ⟨goi, stopi⟩ := sim1 G7 R7 H7 g67 rh7 hok1
        by_cases hjt : j < us.length
        · obtain ⟨goi1, goi2⟩ := goi j us[j] (List.getElem?_eq_getElem hjt)
          refine .inr ⟨goi1, fun H8 => ∃ G8 R8 acc ys, Stp G1 R1 H1 G8 R8 H8 ∧ Same G6 G8 ∧ RepH K G8 R8 H8 ∧ Hid G8 R8 H8 p (.lst ys) ∧ DVs K G8 acc ys ∧ Pv1 (j + 1) acc R8, ?_, fun x H' y => ?_⟩
          · rintro H8 ⟨G8, R8, acc8, ys8, e8, g68, rh8, hd8, dv8, p8⟩
            exact ⟨us.length - (j + 1), by omega, G8, R8, acc8, ys8, e8, g68, rh8, hd8, dv8, hjt, rfl, p8⟩
          · obtain ⟨G8, e8, rh8, dv8⟩ := goi2 x H' y
            have sv8 : SV K G8 (dwipe sd4 vs1) (wipe s4 vs1) := ((sv6.mono g67).st e8).wipe vs1
            refine hg1 G8 _ _ R7 H' _ _ _ _ sv8 rh8 dv8 (step1 j us[j] acc7 R7 (List.getElem?_eq_getElem hjt) p7) fun G9 sd9 s9 R9 H9 e9 sv9 rh9 q9 w9 => ?_
            refine ⟨w9.trans (wipe_wipe vs1), ?_⟩
            refine ht1 G9 sd9 s9 R9 H9 _ _ sv9 rh9 q9 fun Ga Ra Ha b ea rha qa => ?_
            cases b with
            | false =>
              have e7a := e8.trans (e9.trans ea)
              exact ⟨Ga, Ra, acc7, ys7, e7.trans e7a, g67.trans e7a.g, rha, hd7.st e7a, dv7.st e7a, qa⟩
            | true =>
              refine he Ga sd9 s9 Ra Ha _ _ (sv9.st ea) rha qa fun Gd Rd_ Hd dz vz ed rhd dvd qd => ?_
              have e7d := e8.trans (e9.trans (ea.trans ed))
              obtain ⟨h1, h2, h3⟩ := hd7.st e7d
              have dv9 := dv7.st e7d
              refine ⟨ys7, h1, ?_, Gd, Rd_, acc7 ++ [dz], ys7 ++ [vz], (e7.trans e7d).wr hp, g67.trans e7d.g, rhd.hide h2 h3 (K.Φ.st ((e7.trans e7d).wr hp) rh1.φ) (K.F.B.st ((e7.trans e7d).wr hp) rh1.b), ⟨upd_same, h2, h3⟩, dv9.append (.cons dvd .nil), qd⟩
              rw [← dv7.length]
              exact Nat.lt_trans hlen (by decide)
        · have e : j = us.length := by omega
          subst e
          exact .inl ⟨stopi _ (Nat.le_refl _), G7, R7, acc7, ys7, e7, rh7, hd7, dv7, fin1 acc7 R7 p7⟩
  · have e : i = kvs.length := by omega
    subst e
    refine .inl ⟨⟨hf2, by omega⟩, hf2, ?_⟩
    have e01 := S.trans e1
    have S2 := e01.trans (e2.tellG hp hd2.2.2 (o := .lst ys))
    obtain ⟨s1, rh3⟩ := rh2.tell hd2 (K.Φ.st S2 rh.φ) (K.F.B.st S2 rh.b)
    have dvF : DVs K (upd G2 p (.lst ys)) (kvs.map (·.2)) us := dvs0.mono S2.g
    obtain ⟨S4, rh4⟩ := rh3.chg (p := d) (o := .dK kus) (ro := .dK kvs) hR2 ⟨us, by rw [hkv], dvF⟩
    exact k _ _ _ _ _ (S2.trans S4) rh4 (.lst upd_same (dv2.mono s1)) (fin acc R2 p2)
section
variable {X : CxF} {elt dx tg1 iter1 : Expr} {elts : List Expr} {kk : Nat} {tpos apos cpos : Pos} {ifs ifs1 : List Expr} {scope : Scope} {own : List (Str × Nat)} {vs1 : List Nat} {pos : Pos} {to : DTE} {wd1 : DTI} {g g1 : DTG} {tt tt1 : DTT} {te : DTE}
theorem de_lc2It (hc : X.calm = true) (hN : X.N.Nodup) (ho : DE X dx to) (ok : BlkOk X.N X.env.scope scope own) (hv : ∀ i ∈ vs1, i ∈ own.map (·.2)) (hg : AllD X scope fun Y => DGw Y (own.map (·.2)) (.Tuple elts kk tpos) g) (ht : AllD X scope fun Y => DTs Y ifs tt)
    (hi1 : AllD X scope fun Y => DI Y tg1 iter1 wd1) (hg1 : AllD X scope fun Y => DGw Y vs1 tg1 g1) (ht1 : AllD X scope fun Y => DTs Y ifs1 tt1) (he : AllD X scope fun Y => DE Y elt te)
    (hbase : attributeBase dx "items" X.env (eval dx X.env) = eval dx X.env := by rfl) (hline : (apos.endLine == cpos.line) = true := by rfl)
    (hs : ∀ x, foldedSetIterable (.Call (.Attribute dx "items" apos) [] [] cpos) X.env x = pure x := by intro _; rfl) (hs1 : ∀ env x, foldedSetIterable iter1 env x = pure x := by intro _ _; rfl) :
    DE X (.ListComp elt [⟨.Tuple elts kk tpos, .Call (.Attribute dx "items" apos) [] [] cpos, ifs, 0⟩, ⟨tg1, iter1, ifs1, 0⟩] scope pos) (dLc2It to g tt wd1 g1 tt1 te (own.map (·.2)) vs1) := by
  obtain ⟨to0, o1, o2⟩ := ho
  exact ⟨_, pe_lock (pe_lc2 hc hN (pi_items o1 hbase hline) ok hv (fun s H C cl fp => (hg s H C cl fp).pg) (fun s H C cl fp => (ht s H C cl fp).pts) (fun s H C cl fp => (hi1 s H C cl fp).pi) (fun s H C cl fp => (hg1 s H C cl fp).pg) (fun s H C cl fp => (ht1 s H C cl fp).pts) (fun s H C cl fp => (he s H C cl fp).pe) hs hs1),
    LE.lc2It o2 LGw.c LT.c LI.c LGw.c LT.c LE.c⟩
end
end DL
end
section
set_option Elab.async false
set_option maxRecDepth 100000
set_option maxHeartbeats 2000000
set_option linter.all false
set_option autoImplicit false
/-! DLK17: sets of things of any kind that is compared and hashed without being seen -/
namespace L2
open PySem PySem.Spec PyProof.Rows
/-- a kind of elements -/
structure EK (P : Program) (w : World) (α : Type) [DecidableEq α] where
  is : Heap → α → Value → Prop
  hash : α → Int
  toks : α → Nat
  mv : ∀ {h h' : Heap} {k : α} {v : Value} {a : Addr} {o : Obj} {es : Array (Int × Value)} {ep : Nat} {t : SetTable}, is h k v → h.get? a = some o → o.data = .set es ep t → Heap.SameBut a h h' → is h' k v
  ext : ∀ {h h' : Heap} {k : α} {v : Value}, is h k v → (∀ c o, h.get? c = some o → h'.get? c = some o) → is h' k v
  hs : ∀ {A : Around} {E : Value → Shared → Prop} {s : Shared} {k : α} {v : Value} {Q : Int → Shared → Prop}, A.units < cLine → is s.heap k v → Q (hash k) { s with toks := s.toks + toks k } → wpAny (model P w) A (pyHash v) Q E s
  eq : ∀ {A : Around} {E : Value → Shared → Prop} {s : Shared} {j k : α} {u v : Value} {Q : Bool → Shared → Prop}, A.units < cLine → is s.heap j u → is s.heap k v → Q (decide (j = k)) s → wpAny (model P w) A (eqBool u v) Q E s
  seen : ∀ {A : Around} {E : Value → Shared → Prop} {s : Shared} {k : α} {v : Value} {ys : List Value} {Q : Bool → Shared → Prop}, is s.heap k v → (∀ y ∈ ys, ∃ j, is s.heap j y) → Q false s → wpAny (model P w) A (searchCouldBeSeen v ys) Q E s
  byv : ∀ {A : Around} {E : Value → Shared → Prop} {s : Shared} {k : α} {v : Value} {Q : Bool → Shared → Prop}, is s.heap k v → (∀ b, Q b s) → wpAny (model P w) A (hashByValue 8 v) Q E s
  self : ∀ {A : Around} {E : Value → Shared → Prop} {s : Shared} {k : α} {v : Value} {Q : Bool → Shared → Prop}, is s.heap k v → Q true s → wpAny (model P w) A (isSame v v) Q E s
section
variable {P : Program} {w : World} {α : Type} [DecidableEq α] (κ : EK P w α)
def ekRows (L : List (Value × α)) : List (Int × Value) := L.map fun p => (κ.hash p.2, p.1)
def ekHs (L : List (Value × α)) : List Int := L.map fun p => κ.hash p.2
/-- the set at a with the elements L -/
structure EkSet (h : Heap) (a : Addr) (L : List (Value × α)) (es : Array (Int × Value)) (ep : Nat) (t : SetTable) : Prop where
  at_ : ∃ o, h.get? a = some o ∧ o.ExactSet ∧ o.data = .set es ep t
  rows : es.toList = ekRows κ L
  tab : TabOk t (ekHs κ L)
  uniq : (L.map (·.2)).Nodup
  els : ∀ p ∈ L, κ.is h p.2 p.1
  led : w.params.followText "set-order" = true ∨ t.led = true
  room : L.length * 5 < t.mask * 3
  few : L.length < 64
variable {κ} {A : Around} {E : Value → Shared → Prop} {s : Shared} {a : Addr} {L : List (Value × α)} {es : Array (Int × Value)} {ep : Nat} {t : SetTable}
theorem EkSet.size {h : Heap} (R : EkSet κ h a L es ep t) : es.size = L.length := by
  have e := congrArg List.length R.rows
  simpa [ekRows] using e
theorem EkSet.hlen : (ekHs κ L).length = L.length := List.length_map ..
theorem EkSet.fits {h : Heap} (R : EkSet κ h a L es ep t) : t.fits es.size = true := by
  have z := R.tab.sz
  rw [EkSet.hlen] at z
  have z2 := R.size
  have z3 := R.room
  simp only [SetTable.fits, SetTable.fill, R.tab.dm, Bool.and_eq_true, beq_iff_eq, decide_eq_true_eq, Array.size_empty]
  omega
theorem EkSet.row {h : Heap} (R : EkSet κ h a L es ep t) {i : Nat} {p : Value × α} (e : L[i]? = some p) : es[i]? = some (κ.hash p.2, p.1) := by
  rw [← Array.getElem?_toList, R.rows]
  simp [ekRows, e]
theorem EkSet.stays {h : Heap} (R : EkSet κ h a L es ep t) : ¬ t.gaveWay = true := by
  simp [SetTable.gaveWay, mask_odd R.tab.mok]
/-- the way of a hash -/
abbrev stAt (t : SetTable) (x : Int) (c : Nat) : SetTable.Probe := nth t.mask (runAt t.mask (SetTable.bits x % (t.mask + 1)) (SetTable.bits x)) c
theorem stAt_dummy (t : SetTable) (x : Int) (c : Nat) : (stAt t x c).dummy = none := by
  have go : ∀ (n : Nat) (p : SetTable.Probe), p.dummy = none → (nth t.mask p n).dummy = none := by
    intro n
    induction n with
    | zero => exact fun p h => h
    | succ n ih => exact fun p h => ih (adv t.mask p) (by unfold adv; split <;> exact h)
  exact go c _ rfl
/-! ### adding -/
theorem ekRows_put (p : Nat) (v : Value) (k : α) : ekRows κ (L.take p ++ (v, k) :: L.drop p) = (ekRows κ L).take p ++ (κ.hash k, v) :: (ekRows κ L).drop p := by simp [ekRows, List.map_take, List.map_drop]
theorem ekHs_put (p : Nat) (v : Value) (k : α) : ekHs κ (L.take p ++ (v, k) :: L.drop p) = (ekHs κ L).take p ++ κ.hash k :: (ekHs κ L).drop p := by simp [ekHs, List.map_take, List.map_drop]
theorem range_all : ∀ n, n ≤ L.length → (List.range n).filterMap (fun i => L[i]?) = L.take n
  | 0, _ => rfl
  | n + 1, h => by
    rw [List.range_succ, List.filterMap_append, range_all n (by omega), List.take_add_one]
    obtain ⟨x, hx⟩ : ∃ x, L[n]? = some x := ⟨_, List.getElem?_eq_getElem (by omega)⟩
    simp [hx]
end
end L2
end
section
set_option Elab.async false
set_option maxRecDepth 100000
set_option maxHeartbeats 2000000
set_option linter.all false
set_option autoImplicit false
/-! DLK18: None and tuples of whole numbers and texts as elements of sets -/
namespace L2
open PySem PySem.Spec PyProof.Rows
abbrev HKey := Option (List Key)
/-- what an element is -/
def hkIs (P : Program) (w : World) (h : Heap) : HKey → Value → Prop
  | none, v => v = .none
  | some ks, v => ∃ a, v = .ref a ∧ IsTupleKey (mixKind P w) h ks a
def hkHash (P : Program) (w : World) : HKey → Int
  | none => reduceHash 0xFCA86420
  | some ks => tupleKeyHash (mixKind P w) ks
section
variable {P : Program} {w : World} {A : Around} {E : Value → Shared → Prop} {s : Shared}
theorem mix_plain {ks : List Key} {vs : List Value} (h : ItemsAre (mixKind P w) ks vs) : ∀ v ∈ vs, (∃ i t, v = Value.int i t) ∨ ∃ x t, v = Value.str x t := by
  induction h with
  | nil => intro v hv; cases hv
  | @cons k u ks vs h1 _ ih =>
    intro v hv
    rcases List.mem_cons.mp hv with rfl | hv
    · rcases keyIs_shape h1 with ⟨i, t, _, e⟩ | ⟨x, t, _, e⟩
      · exact .inl ⟨i, t, e⟩
      · exact .inr ⟨x, t, e⟩
    · exact ih v hv
theorem hk_class {ks : List Key} {a : Addr} {Q : Bool → Shared → Prop} (hk : IsTupleKey (mixKind P w) s.heap ks a) (q : Q false s) : wpAny (model P w) A (ofAClassStatement 8 (.ref a)) Q E s := by
  have hT := hk.typeIs
  obtain ⟨o, items, n, ho, _, hd, hi⟩ := hk
  have pl := mix_plain hi
  unfold ofAClassStatement
  refine wpAny_bind (wpAny_typeOf hT ?_)
  dsimp only
  have e : (("tuple" : String) == "tuple") = true := by decide
  simp only [e, if_true, Bool.not_true, Bool.false_eq_true, if_false]
  try refine wpAny_bind (wpAny_pure ?_)
  try simp only [Bool.not_true, Bool.false_eq_true, if_false]
  show wpAny _ _ (seqItems? (.ref a) >>= _) _ _ s
  refine wpAny_bind (wpAny_seqItems ho hd ?_)
  dsimp only
  refine wpAny_bind ?_
  show wpAny _ _ (forIn items _ _) _ _ s
  rw [← Array.forIn_toList]
  refine wpAny_forIn_list _ (fun l r s' => (r.1 = none ∧ s' = s) ∧ ∀ v ∈ l, (∃ i t, v = Value.int i t) ∨ ∃ x t, v = Value.str x t) _ ?_ ?_ _ _ ⟨⟨rfl, rfl⟩, pl⟩
  · rintro v l r s' ⟨⟨hr, rfl⟩, all⟩
    have all' : ∀ u ∈ l, (∃ i t, u = Value.int i t) ∨ ∃ x t, u = Value.str x t := fun u hu => all u (List.mem_cons_of_mem _ hu)
    rcases all v List.mem_cons_self with ⟨i, t, rfl⟩ | ⟨x, t, rfl⟩
    · exact wpAny_bind (wpAny_of_eq (a := false) rfl (by simp only [Bool.false_eq_true, if_false]; exact wpAny_pure ⟨⟨rfl, rfl⟩, all'⟩))
    · exact wpAny_bind (wpAny_of_eq (a := false) rfl (by simp only [Bool.false_eq_true, if_false]; exact wpAny_pure ⟨⟨rfl, rfl⟩, all'⟩))
  · rintro ⟨r1, r2⟩ s' ⟨⟨hr, rfl⟩, _⟩
    simp only at hr
    subst hr
    exact wpAny_pure q
theorem hk_byv {ks : List Key} {a : Addr} {Q : Bool → Shared → Prop} (hk : IsTupleKey (mixKind P w) s.heap ks a) (q : ∀ b, Q b s) : wpAny (model P w) A (hashByValue 8 (.ref a)) Q E s := by
  have hT := hk.typeIs
  obtain ⟨o, items, n, ho, _, hd, hi⟩ := hk
  have pl := mix_plain hi
  unfold hashByValue
  refine wpAny_bind (wpAny_specialOf hT F.slot_tuple_hash.lookup (wpAny_bind (wpAny_seqItems ho hd (wpAny_bind ?_))))
  show wpAny _ _ (forIn items _ _) _ _ s
  rw [← Array.forIn_toList]
  refine wpAny_forIn_list _ (fun l r s' => (r.1 = none ∧ s' = s) ∧ ∀ v ∈ l, (∃ i t, v = Value.int i t) ∨ ∃ x t, v = Value.str x t) _ ?_ ?_ _ _ ⟨⟨rfl, rfl⟩, pl⟩
  · rintro v l r s' ⟨⟨hr, rfl⟩, all⟩
    rcases all v List.mem_cons_self with ⟨i, t, rfl⟩ | ⟨x, t, rfl⟩
    · refine wpAny_bind (wpAny_of_eq (a := true) rfl ?_)
      simp only [Bool.not_true, Bool.false_eq_true, if_false]
      exact wpAny_pure ⟨⟨rfl, rfl⟩, fun u hu => all u (List.mem_cons_of_mem _ hu)⟩
    · refine wpAny_bind (wpAny_of_eq (a := false) rfl ?_)
      simp only [Bool.not_false, if_true]
      exact wpAny_pure (wpAny_pure (q false))
  · rintro ⟨r1, r2⟩ s' ⟨⟨hr, rfl⟩, _⟩
    simp only at hr
    subst hr
    exact wpAny_pure (q true)
theorem hk_quiet {k : HKey} {v : Value} {Q : Bool → Shared → Prop} (hk : hkIs P w s.heap k v) (q : Q true s) : wpAny (model P w) A (eqIsQuiet 8 v) Q E s := by
  cases k with
  | none => cases hk; exact wpAny_of_eq (a := true) rfl q
  | some ks => obtain ⟨a, rfl, hk⟩ := hk; exact wpAny_eqIsQuiet_tuple hk q
theorem hk_cls {k : HKey} {v : Value} {Q : Bool → Shared → Prop} (hk : hkIs P w s.heap k v) (q : Q false s) : wpAny (model P w) A (ofAClassStatement 8 v) Q E s := by
  cases k with
  | none => cases hk; exact wpAny_of_eq (a := false) rfl q
  | some ks => obtain ⟨a, rfl, hk⟩ := hk; exact hk_class hk q
theorem hk_seen {k : HKey} {v : Value} {ys : List Value} {Q : Bool → Shared → Prop} (hk : hkIs P w s.heap k v) (hy : ∀ y ∈ ys, ∃ j, hkIs P w s.heap j y) (q : Q false s) : wpAny (model P w) A (searchCouldBeSeen v ys) Q E s := by
  unfold searchCouldBeSeen
  refine wpAny_bind ?_
  refine wpAny_forIn_list _ (fun l r s' => (r.1 = none ∧ s' = s) ∧ ∀ y ∈ l, ∃ j, hkIs P w s.heap j y) _ ?_ ?_ _ _ ⟨⟨rfl, rfl⟩, hy⟩
  · rintro y l r s' ⟨⟨hr, rfl⟩, all⟩
    have all' : ∀ y ∈ l, ∃ j, hkIs P w s'.heap j y := fun u hu => all u (List.mem_cons_of_mem _ hu)
    obtain ⟨j, hj⟩ := all y List.mem_cons_self
    dsimp only
    refine wpAny_ite_split (fun _ => wpAny_pure ⟨⟨rfl, rfl⟩, all'⟩) fun _ => ?_
    refine wpAny_bind (hk_quiet hk ?_)
    simp only [Bool.not_true, Bool.false_eq_true, if_false]
    refine wpAny_bind (hk_quiet hj ?_)
    simp only [Bool.not_true, Bool.false_eq_true, if_false]
    refine wpAny_bind (hk_cls hk ?_)
    simp only [Bool.false_eq_true, if_false]
    refine wpAny_bind (hk_cls hj ?_)
    simp only [Bool.false_eq_true, if_false]
    exact wpAny_pure ⟨⟨rfl, rfl⟩, all'⟩
  · rintro ⟨r1, r2⟩ s' ⟨⟨hr, rfl⟩, _⟩
    simp only at hr
    subst hr
    exact wpAny_pure q
end
theorem tk_tuple {P : Program} {w : World} {h : Heap} {ks : List Key} {a : Addr} (hk : IsTupleKey (mixKind P w) h ks a) : ∃ items, h.IsTuple a items := by
  obtain ⟨o, items, n, ho, hc, hd, _⟩ := hk
  exact ⟨items, o, ho, hc, n, hd⟩
/-- None, tuples of whole numbers and texts -/
def hkE (P : Program) (w : World) : EK P w HKey where
  is := hkIs P w
  hash := hkHash P w
  toks := fun k => match k with | none => 1 | some ks => ks.length + 1
  mv := fun {h h' k v a o es ep t} hk ho hd sb => by
    cases k with
    | none => exact hk
    | some ks =>
      obtain ⟨b, rfl, ob, items, n, hb, r⟩ := hk
      refine ⟨b, rfl, ob, items, n, (sb.2 b fun z => ?_).trans hb, r⟩
      subst z
      rw [ho] at hb
      cases hb
      have := r.2.1
      rw [hd] at this
      cases this
  ext := fun {h h' k v} hk ex => by
    cases k with
    | none => exact hk
    | some ks =>
      obtain ⟨b, rfl, ob, items, n, hb, r⟩ := hk
      exact ⟨b, rfl, ob, items, n, ex b ob hb, r⟩
  hs := fun {A E s k v Q} hu hk q => by
    cases k with
    | none =>
      cases hk
      exact PySem.W.pyHash_slot (T := "NoneType") rfl F.slot_NoneType_hash F.entry_NoneType_hash (F.args_NoneType_hash_1 _) (beq_builtin_none _) (.inr hu) (wpAny_bind (wpAny_pure (wpAny_bind (wpAny_mkInt (wpAny_pure ⟨_, _, rfl, q⟩)))))
    | some ks => obtain ⟨a, rfl, hk⟩ := hk; exact wpAny_pyHash_tuple hu hk q
  eq := fun {A E s j k u v Q} hu hj hk q => by
    cases j with
    | none =>
      cases hj
      cases k with
      | none => cases hk; exact SeqAt.EqAt.same _ _ _ _ _ (by simpa using q)
      | some ks => obtain ⟨a, rfl, hk⟩ := hk; obtain ⟨it, ht⟩ := tk_tuple hk; exact SeqAt.EqAt.none_tuple ht hu _ _ _ _ (by simpa using q)
    | some js =>
      obtain ⟨b, rfl, hj⟩ := hj
      cases k with
      | none => cases hk; obtain ⟨it, ht⟩ := tk_tuple hj; exact SeqAt.EqAt.tuple_none ht hu _ _ _ _ (by simpa using q)
      | some ks =>
        obtain ⟨a, rfl, hk⟩ := hk
        refine wpAny_eqBool_tuple hu hj hk ?_
        rw [show decide (js = ks) = decide (some js = some ks) from decide_eq_decide.mpr ⟨fun e => by rw [e], Option.some.inj⟩]
        exact q
  seen := hk_seen
  byv := fun {A E s k v Q} hk q => by
    cases k with
    | none => cases hk; exact wpAny_of_eq (a := true) rfl (q true)
    | some ks => obtain ⟨a, rfl, hk⟩ := hk; exact hk_byv hk q
  self := fun {A E s k v Q} hk q => by
    cases k with
    | none => cases hk; exact wpAny_of_eq (a := true) rfl q
    | some ks => obtain ⟨a, rfl, hk⟩ := hk; exact wpAny_isSame_ref_self q
end L2
end
section
set_option Elab.async false
set_option maxRecDepth 100000
set_option maxHeartbeats 2000000
set_option linter.all false
set_option autoImplicit false
/-! DLK19: set.add of None and of tuples -/
namespace L2
open PySem PySem.Spec PyProof.Rows
section
variable {P : Program} {w : World} {A : Around} {E : Value → Shared → Prop} {s : Shared} {a : Addr} {L : List (Value × HKey)} {es : Array (Int × Value)} {ep : Nat} {t : SetTable}
abbrev hN (P : Program) (w : World) : Int := (hkE P w).hash none
/-- what the set has got of the first i elements -/
structure HkGot (ks : List (Value × HKey)) (i : Nat) (L : List (Value × HKey)) : Prop where
  sub : ∀ p ∈ L, p ∈ ks.take i
  all : ∀ p ∈ ks.take i, p.2 ∈ L.map (·.2)
theorem HkGot.zero (ks : List (Value × HKey)) : HkGot ks 0 [] := ⟨(fun p h => by cases h), (fun p h => by simp at h)⟩
theorem HkGot.step {ks M : List (Value × HKey)} {i : Nat} {x : Value × HKey} {L : List (Value × HKey)} (g : HkGot ks i L) (h : ks[i]? = some x) (c1 : x.2 ∈ L.map (·.2) → M = L) (c2 : x.2 ∉ L.map (·.2) → M.Perm (x :: L)) : HkGot ks (i + 1) M := by
  have e : ks.take (i + 1) = ks.take i ++ [x] := by rw [List.take_add_one, h]; rfl
  by_cases m : x.2 ∈ L.map (·.2)
  · rw [c1 m]
    refine ⟨fun p hp => by rw [e]; exact List.mem_append_left _ (g.sub p hp), fun p hp => ?_⟩
    rw [e] at hp
    rcases List.mem_append.mp hp with z | z
    · exact g.all p z
    · rw [List.mem_singleton.mp z]; exact m
  · have pm := c2 m
    refine ⟨fun p hp => ?_, fun p hp => ?_⟩
    · rw [e]
      rcases List.mem_cons.mp (pm.mem_iff.mp hp) with rfl | z
      · exact List.mem_append_right _ (by simp)
      · exact List.mem_append_left _ (g.sub p z)
    · rw [(pm.map (·.2)).mem_iff, List.map_cons]
      rw [e] at hp
      rcases List.mem_append.mp hp with z | z
      · exact List.mem_cons_of_mem _ (g.all p z)
      · rw [List.mem_singleton.mp z]; exact List.mem_cons_self
theorem nodup_le {β : Type} [DecidableEq β] : ∀ {l D : List β}, l.Nodup → (∀ k ∈ l, k ∈ D) → l.length ≤ D.length
  | [], D, _, _ => Nat.zero_le _
  | x :: l, D, nd, h => by
    obtain ⟨n1, n2⟩ := List.nodup_cons.mp nd
    have := nodup_le (l := l) (D := D.erase x) n2 fun k hk => (List.mem_erase_of_ne (fun e => n1 (by rw [← e]; exact hk))).mpr (h k (by simp [hk]))
    rw [List.length_erase_of_mem (h x (by simp))] at this
    have := List.length_pos_of_mem (h x (by simp))
    rw [List.length_cons]; omega
/-- few in number by the keys that may come -/
theorem HkGot.few {ks L : List (Value × HKey)} {i : Nat} {D : List HKey} (g : HkGot ks i L) (nd : (L.map (·.2)).Nodup) (hD : ∀ p ∈ ks, p.2 ∈ D) : L.length ≤ D.length := by
  have : (L.map (·.2)).length ≤ D.length := by
    have sub : ∀ k ∈ L.map (·.2), k ∈ D := fun k hk => by
      obtain ⟨p, hp, rfl⟩ := List.mem_map.mp hk
      exact hD p (List.mem_of_mem_take (g.sub p hp))
    exact nodup_le nd sub
  rw [List.length_map] at this
  exact this
end
end L2
end
section
set_option Elab.async false
set_option maxRecDepth 100000
set_option maxHeartbeats 3200000
set_option linter.all false
set_option autoImplicit false
/-! DLK20: set(xs) of a list of None and tuples -/
namespace L2
open PySem PySem.Spec PyProof.Rows
section
variable {P : Program} {w : World} {A : Around} {E : Value → Shared → Prop} {s : Shared}
theorem EkSet.later {α : Type} [DecidableEq α] {κ : EK P w α} {h h' : Heap} {a : Addr} {L : List (Value × α)} {es : Array (Int × Value)} {ep : Nat} {t : SetTable} (R : EkSet κ h a L es ep t) (ha : ∀ o, h.get? a = some o → h'.get? a = some o) (he : ∀ p ∈ L, κ.is h' p.2 p.1) : EkSet κ h' a L es ep t := by
  obtain ⟨o, ho, r⟩ := R.at_
  exact ⟨⟨o, ha o ho, r⟩, R.rows, R.tab, R.uniq, he, R.led, R.room, R.few⟩
end
end L2
end
section
set_option Elab.async false
set_option maxRecDepth 100000
set_option maxHeartbeats 6400000
set_option linter.all false
set_option autoImplicit false
/-! DLK21: len(set(xs)) of a list of None and tuples -/
namespace L2
open PySem PySem.Spec PyProof.Rows
section
variable {P : Program} {w : World} {A : Around} {E : Value → Shared → Prop} {s : Shared}
theorem none_young {h : Heap} {b : Addr} (hb : h.objs.size ≤ b) : h.get? b = none := by
  cases e : h.get? b with
  | none => rfl
  | some o => exact absurd (Nat.lt_of_lt_of_le (Heap.lt_size e) hb) (Nat.lt_irrefl _)
end
end L2
end
section
set_option Elab.async false
set_option maxRecDepth 100000
set_option maxHeartbeats 6400000
set_option linter.all false
set_option autoImplicit false
/-! DLK22: len(set(xs)) of a list of None and tuples, in the layer -/
namespace L2
open PySem PySem.Spec PyProof.Rows
/-- an element, as the walk sees it -/
def hkV (K : PySem.W.Frag) (H : Hp) : HKey → V → Prop
  | none, v => v = .non
  | some ks, v => ∃ c, v = .ref c ∧ SqT K H c (ks.map kV)
section
variable {X : Cx} {pins : List (Addr × Obj)} {σ : St} {H : Hp} {s : Shared}
theorem mix_items {P : Program} {w : World} : ∀ {ks : List Key} {us : List Value}, Vals (ks.map kV) us → ItemsAre (mixKind P w) ks us
  | [], _, .nil => .nil
  | k :: ks, _, .cons r t => .cons (kV_is r) (mix_items t)
theorem Inv.hk (I : Inv X pins σ H s) {k : HKey} {v : V} {u : Value} (h : hkV X.K H k v) (r : RelV v u) : hkIs X.prog X.w s.heap k u := by
  cases k with
  | none => obtain rfl : v = .non := h; exact r
  | some ks =>
    obtain ⟨c, rfl, h⟩ := h
    obtain ⟨its, rv, ⟨o, ho, hc, n, hd⟩, _⟩ := I.tuple h
    exact ⟨c, r, o, its.toArray, n, ho, hc, hd, mix_items rv⟩
/-- len(set(xs)): how many unlike ones a list of None and tuples has -/
def tLenSetH (K : PySem.W.Frag) (ta : TE) : TE := fun σ H Q => ta σ H fun x H1 => ∃ (l : Addr) (ks : List (V × HKey)) (D : List HKey), x = V.ref l ∧ SqL K H1 l (ks.map (·.1)) ∧ (∀ p ∈ ks, hkV K H1 p.2 p.1) ∧ (∀ p ∈ ks, p.2 ∈ D) ∧ D.length < 63 ∧
  ∀ L : List HKey, L.Nodup → (∀ k, k ∈ L ↔ k ∈ ks.map (·.2)) → Q (.int L.length) H1
end
end L2
namespace DL
open PySem PySem.Spec PyProof.Rows L2
variable [TabCtx]
def hkD : HKey → D
  | none => .non
  | some ks => .tup (ks.map keyD)
theorem keysOf_D : ∀ ks : List Key, keysOf (ks.map keyD) = some ks
  | [] => rfl
  | k :: ks => by
    show (match keyOf (keyD k), keysOf (ks.map keyD) with | some k, some ks => some (k :: ks) | _, _ => none) = _
    rw [keyD_of k, keysOf_D ks]
theorem hk_dv {K : PySem.W.Frag} {G : Hp} {k : HKey} {v : V} (dv : DV K G (hkD k) v) : hkV K G k v := by
  cases k with
  | none => cases dv; rfl
  | some ks =>
    cases dv with
    | tup h1 h2 => exact ⟨_, rfl, by rw [← keys_dv (keysOf_D ks) h2]; exact h1⟩
theorem hks_dv {K : PySem.W.Frag} {G : Hp} : ∀ {ks : List HKey} {vs : List V}, DVs K G (ks.map hkD) vs → ∃ ps : List (V × HKey), vs = ps.map (·.1) ∧ ps.map (·.2) = ks ∧ ∀ p ∈ ps, hkV K G p.2 p.1
  | [], _, .nil => ⟨[], rfl, rfl, fun p hp => by cases hp⟩
  | k :: ks, _, .cons (v := v) h t => by
    obtain ⟨ps, e1, e2, e3⟩ := hks_dv t
    refine ⟨(v, k) :: ps, by rw [List.map_cons, ← e1], by rw [List.map_cons, e2], fun p hp => ?_⟩
    rcases List.mem_cons.mp hp with rfl | hp
    · exact hk_dv h
    · exact e3 p hp
theorem hkV_same {K : PySem.W.Frag} {G G' : Hp} (e : Same G G') {k : HKey} {v : V} (h : hkV K G k v) : hkV K G' k v := by
  cases k with
  | none => exact h
  | some ks => obtain ⟨c, rfl, h⟩ := h; exact ⟨c, rfl, DL.SqT.same e h⟩
/-- len(set(xs)): xs has None and tuples; D: those that may be there -/
def dLenSetH (t : DTE) : DTE := fun s R Q => t s R fun d R1 => ∃ (ks D : List HKey), lstOf R1 d = some (ks.map hkD) ∧ (∀ k ∈ ks, k ∈ D) ∧ D.length < 63 ∧ ∀ L : List HKey, L.Nodup → (∀ k, k ∈ L ↔ k ∈ ks) → Q (.int L.length) R1
section
variable {X : CxF} {a : Expr} {t : DTE} {p p2 q pos : Pos}
end
end DL
end
section
set_option Elab.async false
set_option maxRecDepth 100000
set_option maxHeartbeats 2000000
set_option linter.all false
set_option autoImplicit false
/-! DLK23: {z for x in .. if .. for y in .. if ..}, a set of any kind -/
namespace L2
open PySem PySem.Spec PyProof.Rows
section
variable {X : Cx}
/-- what a new set is taken for -/
def NewSet (X : Cx) (S0 : Addr → HO) : Prop := ∀ (H : Hp) (h : Heap) (D : Addr), h.get? D = some (objS X.w) → ObjOk X.prog X.w H h D (S0 D)
/-- set.add does what Ad tells -/
def AddOk (X : Cx) (Ad : Addr → V → Hp → (Hp → Prop) → Prop) : Prop := ∀ (Y : Cx), Y.prog = X.prog → Y.w = X.w → Y.K = X.K → Y.A = X.A → ∀ {pins : List (Addr × Obj)} {σ : St} {H : Hp} {s : Shared} {D : Addr} {y : V} {v : Value} {Nx : Hp → Prop} {Q : Value → Shared → Prop} {E : Value → Shared → Prop},
  Inv Y pins σ H s → RelV y v → Ad D y H Nx → (∀ s' H', Inv Y pins σ H' s' → Nx H' → Q .none s') → wpAny (model X.prog X.w) X.A (call (.builtin "set.add") [.ref D, v]) Q E s
/-- {y for tg in iter if .. for tg1 in iter1 if ..} into a set of any kind -/
def tScG (S0 : Addr → HO) (Ad : Addr → V → Hp → (Hp → Prop) → Prop) (wi : TI) (g : TG) (tt : TT) (wi1 : TI) (g1 : TG) (tt1 : TT) (te : TE) (vs vs1 : List Nat) : TE := fun σ H Q => wi σ H fun J H1 => ∀ D, H1 D = none → ∃ W : Nat → Nat → Hp → Prop, (∃ m, W 0 m (upd H1 D (S0 D))) ∧ ∀ i m H, W i m H →
  (J.stop i H ∧ Q (.ref D) H) ∨ (J.go i H ∧ ∃ Nx : Hp → Prop, (∀ H', Nx H' → ∃ m', m' < m ∧ W (i + 1) m' H') ∧ ∀ x H', J.yld i H x H' → g x (wipe σ vs) H' fun σ2 H2 => wipe σ2 vs = wipe σ vs ∧ tt σ2 H2 fun b H3 =>
    if b = true then wi1 σ2 H3 fun J1 H4 => ∃ W1 : Nat → Nat → Hp → Prop, (∃ m, W1 0 m H4) ∧ ∀ j k H, W1 j k H →
      (J1.stop j H ∧ Nx H) ∨ (J1.go j H ∧ ∃ Nx1 : Hp → Prop, (∀ H', Nx1 H' → ∃ k', k' < k ∧ W1 (j + 1) k' H') ∧ ∀ x H', J1.yld j H x H' → g1 x (wipe σ2 vs1) H' fun σ3 H5 => wipe σ3 vs1 = wipe σ2 vs1 ∧ tt1 σ3 H5 fun b H6 =>
        if b = true then te σ3 H6 fun y H7 => Ad D y H7 Nx1 else Nx1 H6)
    else Nx H3)
end
end L2
end
section
set_option Elab.async false
set_option maxRecDepth 100000
set_option maxHeartbeats 6400000
set_option linter.all false
set_option autoImplicit false
/-! DLK24: sorted({..}) of pairs (text, whole number) -/
namespace L2
open PySem PySem.Spec PyProof.Rows
theorem perm_unmap {α β : Type} {f : α → β} : ∀ {L : List α} {vs : List β}, vs.Perm (L.map f) → ∃ L1 : List α, vs = L1.map f ∧ L1.Perm L
  | [], vs, h => by rw [List.map_nil] at h; rw [h.eq_nil]; exact ⟨[], rfl, .nil⟩
  | x :: L, vs, h => by
    rw [List.map_cons] at h
    obtain ⟨l, r, rfl⟩ := List.append_of_mem (h.mem_iff.mpr List.mem_cons_self)
    obtain ⟨M, e, pm⟩ := perm_unmap (f := f) (L := L) (vs := l ++ r) ((List.perm_middle.symm.trans h).cons_inv)
    obtain ⟨M1, M2, rfl, e1, e2⟩ := List.map_eq_append_iff.mp e.symm
    exact ⟨M1 ++ x :: M2, by rw [List.map_append, List.map_cons, e1, e2], List.perm_middle.trans (pm.cons x)⟩
/-- a value that has no token -/
def bk : V → Value
  | .ref a => .ref a
  | _ => .none
def bkp (p : V × HKey) : Value × HKey := (bk p.1, p.2)
section
variable {P : Program} {w : World} {A : Around} {E : Value → Shared → Prop} {s : Shared} {a : Addr} {L : List (Value × HKey)} {es : Array (Int × Value)} {ep : Nat} {t : SetTable}
end
/-- the set at a with these elements, the elements' own objects left out -/
def SetH0 (P : Program) (w : World) (h : Heap) (a : Addr) (L : List (Value × HKey)) : Prop := ∃ (es : Array (Int × Value)) (ep : Nat) (t : SetTable), (∃ o, h.get? a = some o ∧ o.ExactSet ∧ o.data = .set es ep t) ∧ es.toList = ekRows (hkE P w) L ∧
  TabOk t (ekHs (hkE P w) L) ∧ (L.map (·.2)).Nodup ∧ (w.params.followText "set-order" = true ∨ t.led = true) ∧ L.length * 5 < t.mask * 3 ∧ L.length < 64
def SetHO (P : Program) (w : World) (a : Addr) (L : List (V × HKey)) : HO := .ext fun h => SetH0 P w h a (L.map bkp)
section
variable {P : Program} {w : World} {h : Heap} {a : Addr} {L : List (Value × HKey)} {es : Array (Int × Value)} {ep : Nat} {t : SetTable}
theorem EkSet.h0 (R : EkSet (hkE P w) h a L es ep t) : SetH0 P w h a L := ⟨es, ep, t, R.at_, R.rows, R.tab, R.uniq, R.led, R.room, R.few⟩
theorem SetH0.full (R : SetH0 P w h a L) (els : ∀ p ∈ L, hkIs P w h p.2 p.1) : ∃ es ep t, EkSet (hkE P w) h a L es ep t := by
  obtain ⟨es, ep, t, r1, r2, r3, r4, r5, r6, r7⟩ := R
  exact ⟨es, ep, t, r1, r2, r3, r4, els, r5, r6, r7⟩
end
section
variable {X : Cx} {pins : List (Addr × Obj)} {σ : St} {H : Hp} {s : Shared}
/-- adding one to the set at D -/
def AdH (P : Program) (w : World) (K : PySem.W.Frag) (D : Addr) (y : V) (H : Hp) (Nx : Hp → Prop) : Prop := ∃ (L : List (V × HKey)) (k : HKey), H D = some (SetHO P w D L) ∧ (∀ p ∈ L, hkV K H p.2 p.1) ∧ hkV K H k y ∧ L.length + 1 < 64 ∧
  ∀ L' : List (V × HKey), (k ∈ L.map (·.2) → L' = L) → (k ∉ L.map (·.2) → L'.Perm ((y, k) :: L)) → Nx (upd H D (SetHO P w D L'))
end
/-! ### sorted -/
def keyP : Key → PyData
  | .inl i => .int i
  | .inr x => .str x
def hkP : HKey → PyData
  | none => .none
  | some ks => .tuple (ks.map keyP)
section
variable {P : Program} {w : World} {h : Heap}
theorem mix_reads : ∀ {ks : List Key} {us : List Value}, ItemsAre (mixKind P w) ks us → ReadsAll h us (ks.map keyP) []
  | _, _, .nil => .nil
  | _, _, .cons (k := k) h1 t => by
    rcases keyIs_shape h1 with ⟨i, tk, rfl, rfl⟩ | ⟨x, tk, rfl, rfl⟩
    · exact .cons (.int i tk) (mix_reads t)
    · exact .cons (.str x tk) (mix_reads t)
theorem hk_reads {k : HKey} {v : Value} (hk : hkIs P w h k v) : Reads h v (hkP k) [] := by
  cases k with
  | none => cases hk; exact .none
  | some ks =>
    obtain ⟨b, rfl, o, items, n, ho, hc, hd, hi⟩ := hk
    exact .tuple ho hc hd (mix_reads hi)
end
/-- a pair of a text and a whole number -/
def IsTN (k : HKey) : Prop := ∃ x i, k = some [.inr x, .inl i]
theorem each_same {α : Type} {f : α → Value} : ∀ {bs : List α} {vs : List Value}, PySem.W.EachIs (fun v b => v = f b) vs bs → vs = bs.map f
  | _, _, .nil => rfl
  | _, _, .cons h t => by rw [List.map_cons, h, each_same t]
theorem same_each {α : Type} {f : α → Value} {R : Value → α → Prop} : ∀ (bs : List α), (∀ b ∈ bs, R (f b) b) → PySem.W.EachIs R (bs.map f) bs
  | [], _ => .nil
  | b :: bs, h => .cons (h b List.mem_cons_self) (same_each bs fun c hc => h c (List.mem_cons_of_mem _ hc))
section
variable {P : Program} {w : World} {A : Around} {E : Value → Shared → Prop} {s : Shared} {a : Addr} {L : List (Value × HKey)} {es : Array (Int × Value)} {ep : Nat} {t : SetTable}
end
section
variable {X : Cx}
def rSortedH (P : Program) (w : World) (K : PySem.W.Frag) : List V → Hp → VK → Prop := fun vs H Q => ∃ (a : Addr) (L : List (V × HKey)), vs = [V.ref a] ∧ H a = some (SetHO P w a L) ∧ (∀ p ∈ L, hkV K H p.2 p.1) ∧ (∀ p ∈ L, IsTN p.2) ∧
  ∀ (L' : List (V × HKey)) (p : Addr), L'.Perm L → (L'.map (·.2)).Nodup → H p = none → Q (.ref p) (upd H p (.lst (L'.map (·.1))))
end
end L2
end
section
set_option Elab.async false
set_option maxRecDepth 100000
set_option maxHeartbeats 2000000
set_option linter.all false
set_option autoImplicit false
/-! DLK25: sorted({..}) of pairs (text, whole number), in the layer -/
namespace DL
open PySem PySem.Spec PyProof.Rows L2
variable [TabCtx]
def tnD (p : Str × Int) : D := .tup [.str p.1, .int p.2]
def tnK (p : Str × Int) : HKey := some [.inr p.1, .inl p.2]
/-- what a set has when p is put in -/
def insP (acc : List (Str × Int)) (p : Str × Int) : List (Str × Int) := if p ∈ acc then acc else acc ++ [p]
/-- the set at p, hidden, has what acc tells -/
def SHid (P : Program) (w : World) (K : KF) (G : Hp) (R : Rs) (H : Hp) (p : Addr) (acc : List (Str × Int)) : Prop := ∃ L : List (V × HKey), Hid G R H p (SetHO P w p L) ∧ (∀ q ∈ L, hkV K.F G q.2 q.1) ∧ L.length ≤ acc.length ∧ ∀ k, k ∈ L.map (·.2) ↔ ∃ q ∈ acc, k = tnK q
theorem SHid.st {P : Program} {w : World} {K : KF} {G : Hp} {R : Rs} {H : Hp} {p : Addr} {acc : List (Str × Int)} (h : SHid P w K G R H p acc) {G' : Hp} {R' : Rs} {H' : Hp} (e : Stp G R H G' R' H') : SHid P w K G' R' H' p acc := by
  obtain ⟨L, h1, h2, h3, h4⟩ := h
  exact ⟨L, h1.st e, fun q hq => hkV_same e.g (h2 q hq), h3, h4⟩
/-- sorted({z for x in .. if .. for y in .. if ..}) of pairs (text, whole number) -/
def dSortScH (wd : DTI) (g : DTG) (tt : DTT) (wd1 : DTI) (g1 : DTG) (tt1 : DTT) (te : DTE) (vs vs1 : List Nat) : DTE := fun s R Q => wd s R fun xs ok R1 => ∃ Pv : Nat → List (Str × Int) → Rs → Prop, Pv 0 [] R1 ∧ (∀ i acc R, i ≤ xs.length → Pv i acc R → ok R) ∧
  (∀ (i : Nat) x acc R, xs[i]? = some x → Pv i acc R → g x (dwipe s vs) R fun s2 R2 => tt s2 R2 fun b R3 =>
    if b = true then wd1 s2 R3 fun ys ok1 R4 => ∃ Pv1 : Nat → List (Str × Int) → Rs → Prop, Pv1 0 acc R4 ∧ (∀ j acc R, j ≤ ys.length → Pv1 j acc R → ok1 R ∧ acc.length < 63) ∧
      (∀ (j : Nat) y acc R, ys[j]? = some y → Pv1 j acc R → g1 y (dwipe s2 vs1) R fun s3 R5 => tt1 s3 R5 fun b R6 => if b = true then te s3 R6 fun z R7 => ∃ x i, z = .tup [.str x, .int i] ∧ Pv1 (j + 1) (insP acc (x, i)) R7 else Pv1 (j + 1) acc R6) ∧
      ∀ acc R, Pv1 ys.length acc R → Pv (i + 1) acc R
    else Pv (i + 1) acc R3) ∧
  ∀ acc R, Pv xs.length acc R → ∀ ps : List (Str × Int), ps.Nodup → (∀ p, p ∈ ps ↔ p ∈ acc) → Q (.lst (ps.map tnD)) R
section
variable {X : CxF} {ex tg iter tg1 iter1 : Expr} {ifs ifs1 : List Expr} {scope : Scope} {own : List (Str × Nat)} {vs1 : List Nat} {pos p q : Pos} {wd wd1 : DTI} {g g1 : DTG} {tt tt1 : DTT} {te : DTE}
end
end DL
end
section
set_option Elab.async false
set_option maxRecDepth 100000
set_option maxHeartbeats 2000000
set_option linter.all false
set_option autoImplicit false
/-! DLK26: zip(xs, ys, strict=True) over two lists of one length -/
namespace L2
open PySem PySem.Spec PyProof.Rows
/-- a strict zip -/
abbrev ZsAt (h : Heap) (q ti to : Addr) (c : Value) (b : Bool) : Prop := h.get? q = some { cls := .type "zip", dict := none, data := .fields #[c, .bool b, .bool true, .ref ti, .ref to], slots := #[] }
section
variable {P : Program} {w : World} {A : Around} {E : Value → Shared → Prop} {s : Shared}
variable {q ti to i j l m : Addr} {n : Nat} {xs ys : Array Value} {x y u v : Value}
/-! ### next(zip) -/
end
end L2
end
section
set_option Elab.async false
set_option maxRecDepth 100000
set_option maxHeartbeats 2000000
set_option linter.all false
set_option autoImplicit false
/-! DLK27: for a, b in zip(xs, ys, strict=True) -/
namespace L2
open PySem PySem.Spec PyProof.Rows
abbrev strictW : Str := Str.ofString "strict"
/-- the objects of a new strict zip -/
abbrev itO (l : Addr) : Obj := { cls := .type "list_iterator", data := .fields #[.ref l, .int 0 0] }
abbrev zs1 (h : Heap) (l : Addr) : Heap := h.push (itO l)
abbrev zs2 (h : Heap) (l m : Addr) : Heap := (zs1 h l).push (itO m)
abbrev zs3 (h : Heap) (l m : Addr) : Heap := (zs2 h l m).push { cls := .type "tuple", data := .seq #[.ref h.objs.size, .ref (zs1 h l).objs.size] }
abbrev zs4 (h : Heap) (l m : Addr) : Heap := (zs3 h l m).push { cls := .type "tuple", data := .seq #[.none, .none] }
abbrev zs5 (h : Heap) (l m : Addr) : Heap := (zs4 h l m).push { cls := .type "zip", data := .fields #[.none, .bool false, .bool true, .ref (zs2 h l m).objs.size, .ref (zs3 h l m).objs.size] }
section
variable {P : Program} {w : World} {A : Around} {E : Value → Shared → Prop} {s : Shared}
end
/-- the lists at a and b, of one length -/
def ItzS (K : PySem.W.Frag) (a b : Addr) : It :=
  ⟨(Itz K a b).go, (Itz K a b).yld, fun i H => ∃ xs ys : List V, SqL K H a xs ∧ SqL K H b ys ∧ xs.length ≤ i ∧ ys.length ≤ i⟩
def iZipS (K : PySem.W.Frag) (ta tk : TA) : TI := fun σ H R => ta σ H fun vs H1 => tk σ H1 fun zs H2 => ∃ a b xs ys, vs = [.ref a, .ref b] ∧ zs = [.bl true] ∧ SqL K H2 a xs ∧ SqL K H2 b ys ∧ R (ItzS K a b) H2
end L2
namespace DL
open PySem PySem.Spec PyProof.Rows L2
variable [TabCtx]
/-- two lists of one length, walked as one -/
def dIZipS (ta tb : DTE) (tk : DTA) : DTI := fun s R Kd => ta s R fun d R1 => tb s R1 fun e R2 => tk s R2 fun ks R3 => ks = [.bl true] ∧ ∃ xs ys, lstOf R3 d = some xs ∧ lstOf R3 e = some ys ∧ xs.length = ys.length ∧ Kd (zipD xs ys) (fun R' => lstOf R' d = some xs ∧ lstOf R' e = some ys) R3
section
variable {X : CxF} {e e2 : Expr} {ta tb : DTE} {p pos tpos kp kp2 : Pos} {jj kk : Nat} {elts : List Expr}
end
end DL
end
section
set_option Elab.async false
set_option maxRecDepth 100000
set_option maxHeartbeats 2000000
set_option linter.all false
set_option autoImplicit false
/-! DLK28: dict(zip(xs, ys, strict=True)), the keys tuples; d[k] of such a dict -/
namespace L2
open PySem PySem.Spec PyProof.Rows
section
variable {P : Program} {w : World}
abbrev mK (P : Program) (w : World) := tupleKind (mixKind P w)
/-- the dict at a, the keys' own objects left out -/
def NmO (P : Program) (w : World) (a : Addr) (xs : List (List Key × Addr × Value)) : HO := .ext fun h => ∃ o es ep, h.get? a = some o ∧ o.ExactDict ∧ o.data = .dict es ep ∧ es.toList = xs.map (entryOfKey (mK P w)) ∧ (xs.map (·.1)).Nodup
end
section
variable {X : Cx}
/-- the keys' objects, the values -/
def NmRel (K : PySem.W.Frag) (H : Hp) (kvs : List (List Key × V)) (xs : List (List Key × Addr × Value)) : Prop := Paired (fun (p : List Key × V) (q : List Key × Addr × Value) => p.1 = q.1 ∧ SqT K H q.2.1 (p.1.map kV) ∧ RelV p.2 q.2.2) kvs xs
theorem NmRel.mem {K : PySem.W.Frag} {H : Hp} : ∀ {kvs : List (List Key × V)} {xs : List (List Key × Addr × Value)}, NmRel K H kvs xs → ∀ x ∈ xs, SqT K H x.2.1 (x.1.map kV)
  | _, _, .nil, x, hx => by cases hx
  | _, _, .cons r t, x, hx => by
    rcases List.mem_cons.mp hx with rfl | hx
    · rw [← r.1]; exact r.2.1
    · exact NmRel.mem t x hx
theorem NmRel.get {K : PySem.W.Frag} {H : Hp} {k : List Key} {v : V} : ∀ {kvs : List (List Key × V)} {xs : List (List Key × Addr × Value)}, NmRel K H kvs xs → valV kvs k = some v → ∃ p, atKey xs k = some p ∧ RelV v p.2
  | _, _, .nil, h => by cases h
  | p :: kvs, x :: xs, .cons r t, h => by
    unfold valV at h
    unfold atKey
    rw [List.find?_cons] at h ⊢
    by_cases e : p.1 = k
    · rw [show decide (p.1 = k) = true from decide_eq_true e] at h
      rw [show decide (x.1 = k) = true from decide_eq_true (r.1 ▸ e)]
      simp at h
      exact ⟨x.2, rfl, h ▸ r.2.2⟩
    · rw [show decide (p.1 = k) = false from decide_eq_false e] at h
      rw [show decide (x.1 = k) = false from decide_eq_false (fun z => e (r.1.trans z))]
      exact NmRel.get t h
theorem Inv.key {pins : List (Addr × Obj)} {σ : St} {H : Hp} {s : Shared} {b : Addr} {k : List Key} (I : Inv X pins σ H s) (h : SqT X.K H b (k.map kV)) : (mK X.prog X.w).is s.heap k b := by
  obtain ⟨c, e, h⟩ := I.hk (k := some k) (v := .ref b) (u := .ref b) ⟨b, rfl, h⟩ rfl
  cases e
  exact h
theorem Inv.names {pins : List (Addr × Obj)} {σ : St} {H : Hp} {s : Shared} {a : Addr} {kvs : List (List Key × V)} {xs : List (List Key × Addr × Value)} (I : Inv X pins σ H s) (ha : H a = some (NmO X.prog X.w a xs)) (r : NmRel X.K H kvs xs) : s.heap.DictOfH (mK X.prog X.w) a xs := by
  obtain ⟨o, es, ep, h1, h2, h3, h4, h5⟩ : ∃ o es ep, s.heap.get? a = some o ∧ o.ExactDict ∧ o.data = .dict es ep ∧ es.toList = xs.map (entryOfKey (mK X.prog X.w)) ∧ (xs.map (·.1)).Nodup := (I.hok a _ ha).1
  exact ⟨o, es, ep, h1, h2, h3, h4, fun x hx => I.key (r.mem x hx), h5⟩
/-- d[k] -/
def tNmGet (P : Program) (w : World) (K : PySem.W.Frag) (td ti : TE) : TE := fun σ H Q => td σ H fun x H1 => ti σ H1 fun y H2 => ∃ a kvs xs b k v, x = .ref a ∧ H2 a = some (NmO P w a xs) ∧ NmRel K H2 kvs xs ∧ y = .ref b ∧ SqT K H2 b (k.map kV) ∧ valV kvs k = some v ∧ Q v H2
/-- dict(zip(xs, ys, strict=True)) -/
def tDictZs (P : Program) (w : World) (K : PySem.W.Frag) (ta tk : TA) : TE := fun σ H Q => ta σ H fun vs H1 => tk σ H1 fun zs H2 => ∃ a b, vs = [.ref a, .ref b] ∧ zs = [.bl true] ∧ ∃ (ps : List (List Key × Addr)) (ws : List V), SqL K H2 a (ps.map fun p => .ref p.2) ∧ SqL K H2 b ws ∧ ps.length = ws.length ∧
  (∀ p ∈ ps, SqT K H2 p.2 (p.1.map kV)) ∧ (ps.map (·.1)).Nodup ∧ ∀ d us, H2 d = none → Vals ws us → Q (.ref d) (upd H2 d (NmO P w d ((ps.zip us).map fun z => (z.1.1, z.1.2, z.2))))
end
end L2
end
section
set_option Elab.async false
set_option maxRecDepth 100000
set_option maxHeartbeats 2000000
set_option linter.all false
set_option autoImplicit false
/-! DLK29: dict(zip(xs, ys, strict=True)) and d[k] in the layer -/
namespace DL
open PySem PySem.Spec PyProof.Rows L2
variable [TabCtx]
/-- a dict whose keys are tuples that were made before -/
def NmX (P : Program) (w : World) (a : Addr) (kvs : List (List Key × D)) : PySem.W.Frag → Hp → HO → Prop := fun K G o => ∃ (vs : List V) (xs : List (List Key × Addr × Value)), DVs K G (kvs.map (·.2)) vs ∧ NmRel K G ((kvs.map (·.1)).zip vs) xs ∧ o = NmO P w a xs
theorem NmRel.same {K : PySem.W.Frag} {G G' : Hp} (e : Same G G') : ∀ {kvs : List (List Key × V)} {xs : List (List Key × Addr × Value)}, NmRel K G kvs xs → NmRel K G' kvs xs
  | _, _, .nil => .nil
  | _, _, .cons r t => .cons ⟨r.1, SqT.same e r.2.1, r.2.2⟩ (NmRel.same e t)
/-- the dict at a of R -/
def NmD (P : Program) (w : World) (R : Rs) (a : Addr) (kvs : List (List Key × D)) : Prop := R a = some (.gx (NmX P w a kvs))
def tupD (k : List Key) : D := .tup (k.map keyD)
def dDictZs (P : Program) (w : World) (ta tb : DTE) (tk : DTA) : DTE := fun s R Q => ta s R fun d R1 => tb s R1 fun e R2 => tk s R2 fun ks R3 => ks = [.bl true] ∧ ∃ (kk : List (List Key)) (ys : List D), lstOf R3 d = some (kk.map tupD) ∧ lstOf R3 e = some ys ∧ kk.length = ys.length ∧ kk.Nodup ∧
  ∀ a, R3 a = none → Q (.ref a) (put R3 a (.gx (NmX P w a (kk.zip ys))))
def dNmGet (P : Program) (w : World) (td ti : DTE) : DTE := fun s R Q => td s R fun o R1 => ti s R1 fun i R2 => ∃ a kvs ds k v, o = .ref a ∧ NmD P w R2 a kvs ∧ i = .tup ds ∧ keysOf ds = some k ∧ valD kvs k = some v ∧ Q v R2
section
variable {X : CxF} {o i e e2 : Expr} {ta tb td ti : DTE} {tk : DTA} {p p2 pos pos2 : Pos} {kws : List Keyword}
end
end DL
end
section
set_option Elab.async false
set_option maxRecDepth 100000
set_option maxHeartbeats 2000000
set_option linter.all false
set_option autoImplicit false
/-! DLK30: C.m(..), m a static method of the class C -/
namespace L2
open PySem PySem.Spec PyProof.Rows
/-- C.m is a static method: its record at p, its def at g -/
structure SMet (K : PySem.W.Frag) (C : Addr) (mc : Value) (m : Str) (p g : Addr) : Prop where
  at_ : PySem.W.findCls K (.ref C) mc m = some (.get (.builtin "staticmethod.__get__") (.ref p) .none (.ref C))
  rc : ∃ rest, PySem.W.recIn K p "staticmethod" = some (.ref g :: rest)
  kp : PySem.W.keepIn K (.ref g) = true
section
variable {X : Cx} {CX : CXT} {E : L2.St → XK} {k : Nat} {C p g : Addr} {mc : Value} {fd : FuncData} {ps : List Str} {sp : Sp} {o e : Expr} {es : List Expr} {m : Str} {pos apos : Pos} {ta : TE} {t : TA} {pl : Sem Bool}
def tSMeth (C : Addr) (sp : Sp) (E : L2.St → XK) (ta : TE) (t : TA) : TE := fun σ H Q => ta σ H fun x H1 => x = .ref C ∧ t σ H1 fun vs H2 => sp vs H2 Q (E σ)
end
end L2
namespace DL
open PySem PySem.Spec PyProof.Rows L2
variable [TabCtx]
structure SMetX (P : Program) (w : World) (K : KB) (mg : Str → Option Value) (base : Heap) (k : Nat) (C : Addr) (m : Str) (dsp : DSp) : Prop where
  ex : ∃ (p g : Addr) (mc : Value) (fd : FuncData) (ps : List Str), FnG P w K mg base (L2.CX P w) k g fd ps (spOf K dsp) ∧ ClX.CRead K C mc ∧ SMet K C mc m p g ∧ Binds K fd ps []
def dSMeth (C : Addr) (dsp : DSp) (Wd : DWX) (to : DTE) (t : DTA) : DTE := fun s R Q => to s R fun x R1 => x = .ref C ∧ t s R1 fun ds R2 => dsp ds R2 Q (fun cls fs R' => Wd cls fs s R')
section
variable {X : CxF} {Wd : DWX} {k j : Nat} {C : Addr} {dsp : DSp} {o e : Expr} {es : List Expr} {m : Str} {pos apos : Pos} {to : DTE} {t : DTA} {pl : Sem Bool}
end
end DL
namespace DL
open PySem L2
theorem hu64 {k : Nat} {A : Around} (r : Room k A) : A.units + 64 < cLine := by have := r.un; omega
end DL
end
section
set_option Elab.async false
set_option maxRecDepth 100000
set_option maxHeartbeats 2000000
set_option linter.all false
set_option autoImplicit false
/-! DLK31: y = [.. for .. for ..] -/
namespace DL
open PySem PySem.Spec PyProof.Rows L2
variable [TabCtx]
section
variable {X : CxF} {elt tg iter tg1 iter1 : Expr} {ifs ifs1 : List Expr} {scope : Scope} {own : List (Str × Nat)} {vs1 : List Nat} {pos : Pos} {wd wd1 : DTI} {g g1 : DTG} {tt tt1 : DTT} {te : DTE}
end
end DL
end
section
set_option Elab.async false
set_option maxRecDepth 100000
set_option maxHeartbeats 2000000
set_option linter.all false
set_option autoImplicit false
/-! DLK32: len(set(texts)) -/
namespace DL
open PySem PySem.Spec PyProof.Rows L2 PySem.Froz
variable [TabCtx]
/-- len(set(xs)): how many unlike texts a list has -/
def tLenSetS (K : PySem.W.Frag) (ta : TE) : TE := fun σ H Q => ta σ H fun x H1 => ∃ (l : Addr) (xs : List Str), x = V.ref l ∧ SqL K H1 l (xs.map V.str) ∧ xs.length < 64 ∧
  ∀ L : List Str, L.Nodup → (∀ k, k ∈ L ↔ k ∈ xs) → Q (.int L.length) H1
section
variable {X : Cx}
end
def dLenSetS (t : DTE) : DTE := fun s R Q => t s R fun d R1 => ∃ xs : List Str, lstOf R1 d = some (xs.map D.str) ∧ xs.length < 64 ∧ ∀ L : List Str, L.Nodup → (∀ k, k ∈ L ↔ k ∈ xs) → Q (.int L.length) R1
section
variable {X : CxF} {a : Expr} {t : DTE} {p p2 q pos : Pos}
end
end DL
end
section
set_option Elab.async false
set_option maxRecDepth 100000
set_option maxHeartbeats 2000000
set_option linter.all false
set_option autoImplicit false
/-! DLK33: f(..), f a local name that holds a def -/
namespace DL
open PySem PySem.Spec PyProof.Rows L2
variable [TabCtx]
/-- the def at f, told by dsp -/
def CalV (P : Program) (w : World) (K : KB) (mg : Str → Option Value) (base : Heap) (k : Nat) (f : Addr) (dsp : DSp) : Prop := ∃ (fd : FuncData) (ps : List Str), FnG P w K mg base (L2.CX P w) k f fd ps (spOf K dsp) ∧ PySem.W.keepIn K.F (.ref f) = true ∧ Binds K.F fd ps []
section
variable {X : Cx} {CX : CXT} {k i : Nat} {E : L2.St → XK} {x : Str} {p pos : Pos} {e : Expr} {es : List Expr} {t : TA}
def tCallV (CX : CXT) (P : Program) (w : World) (K : PySem.W.Frag) (mg : Str → Option Value) (base : Heap) (k i : Nat) (E : L2.St → XK) (t : TA) : TE := fun σ H Q => ∃ (f : Addr) (fd : FuncData) (ps : List Str) (sp : Sp), σ[i]? = some (some (V.ref f)) ∧ FnG P w K mg base CX k f fd ps sp ∧ PySem.W.keepIn K (.ref f) = true ∧ Binds K fd ps [] ∧ t σ H fun vs H2 => sp vs H2 Q (E σ)
end
def dCallV (P : Program) (w : World) (K : KB) (mg : Str → Option Value) (base : Heap) (k i : Nat) (Wd : DWX) (t : DTA) : DTE := fun s R Q => ∃ (f : Addr) (dsp : DSp), s[i]? = some (some (.ref f)) ∧ CalV P w K mg base k f dsp ∧ t s R fun ds R2 => dsp ds R2 Q (fun cls fs R' => Wd cls fs s R')
section
variable {X : CxF} {K : KB} {k i j : Nat} {x : Str} {Wd : DWX} {p pos : Pos} {e : Expr} {es : List Expr} {t : DTA} {P : Program} {w : World} {mg : Str → Option Value} {base : Heap}
end
end DL
end
section
set_option Elab.async false
set_option maxRecDepth 100000
set_option maxHeartbeats 2000000
set_option linter.all false
set_option autoImplicit false
/-! DLK34: isalpha, islower of texts -/
namespace DL
open PySem PySem.Spec PyProof.Rows L2
variable [TabCtx]
section
variable {X : CxF}
end
end DL
end
section
set_option Elab.async false
set_option maxRecDepth 100000
set_option maxHeartbeats 2000000
set_option linter.all false
set_option autoImplicit false
/-! DLK35: f(..), f a local name that holds a def that raises nothing -/
namespace DL
open PySem PySem.Spec PyProof.Rows L2
variable [TabCtx]
/-- the def at f, told by dsp; it raises nothing -/
def CalV0 (P : Program) (w : World) (K : KB) (mg : Str → Option Value) (base : Heap) (k : Nat) (f : Addr) (dsp : DSp) : Prop := ∃ (fd : FuncData) (ps : List Str), FnG P w K mg base CX0 k f fd ps (spOf K dsp) ∧ PySem.W.keepIn K.F (.ref f) = true ∧ Binds K.F fd ps []
def dCallV0 (P : Program) (w : World) (K : KB) (mg : Str → Option Value) (base : Heap) (k i : Nat) (t : DTA) : DTE := fun s R Q => ∃ (f : Addr) (dsp : DSp), s[i]? = some (some (.ref f)) ∧ CalV0 P w K mg base k f dsp ∧ t s R fun ds R2 => dsp ds R2 Q Ed0
section
variable {X : CxF} {K : KB} {k i j : Nat} {x : Str} {p pos : Pos} {e : Expr} {es : List Expr} {t : DTA} {P : Program} {w : World} {mg : Str → Option Value} {base : Heap}
end
end DL
end
section
set_option Elab.async false
set_option maxRecDepth 100000
set_option maxHeartbeats 2000000
set_option linter.all false
set_option autoImplicit false
/-! DLK36: text.index(text), list(range(n)) -/
namespace DL
open PySem PySem.Spec PyProof.Rows L2
variable [TabCtx]
section
variable {X : CxF}
end
/-- list(range(n)), not changed later -/
def dListRgF (t : DTE) : DTE := fun s R Q => t s R fun d R1 => ∃ n : Nat, d = .int n ∧ n ≤ 1000000 ∧ Q (.lst ((List.range n).map fun i => .int (i : Nat))) R1
section
variable {X : CxF} {a : Expr} {t : DTE} {p p2 q pos : Pos}
end
end DL
end
section
set_option Elab.async false
set_option maxRecDepth 100000
set_option maxHeartbeats 2000000
set_option linter.all false
set_option autoImplicit false
/-! DLK37: tables of sets of up to 306 members (masks 7, 31, 127, 511) -/
namespace L2
open PySem PySem.Spec PyProof.Rows
/-- where a slot stands in the round from 0, mask 511 -/
def rndT : List Nat := [0, 1, 326, 495, 412, 365, 2, 379, 376, 281, 254, 327, 404, 261, 58, 339, 496, 305, 438, 415, 140, 413, 370, 43, 360, 73, 366, 247, 132, 309, 426, 3, 480, 97, 38, 335, 380, 461, 226, 219, 344, 377, 478, 167, 372, 357, 282, 179, 464, 401, 150, 255, 108, 509, 82, 395, 328, 169, 78, 87, 100, 405, 138, 355, 448, 193, 262, 175, 348, 45, 450, 59, 312, 473, 190, 7, 340, 453, 506, 19, 432, 497, 374, 95, 76, 93, 306, 235, 296, 265, 302, 439, 68, 501, 362, 195, 416, 289, 486, 15, 316, 141, 162, 411, 280, 57, 414, 359, 308, 37, 218, 371, 400, 81, 86, 447, 44, 189, 18, 75, 264, 361, 14, 279, 36, 85, 74, 35, 384, 385, 198, 367, 284, 237, 386, 251, 248, 153, 126, 199, 276, 133, 442, 211, 368, 177, 310, 287, 12, 285, 242, 427, 232, 457, 238, 119, 4, 181, 298, 387, 352, 481, 422, 207, 252, 333, 98, 91, 216, 249, 350, 39, 244, 229, 154, 51, 336, 273, 22, 127, 492, 381, 466, 267, 200, 41, 462, 471, 484, 277, 10, 227, 320, 65, 134, 47, 220, 429, 322, 443, 184, 345, 62, 391, 212, 325, 378, 403, 304, 369, 246, 479, 460, 477, 178, 107, 168, 137, 174, 311, 452, 373, 234, 67, 288, 161, 358, 399, 188, 13, 34, 283, 152, 441, 286, 231, 180, 421, 90, 243, 272, 465, 470, 319, 428, 61, 402, 459, 136, 233, 398, 151, 420, 469, 458, 419, 256, 257, 70, 239, 156, 109, 258, 123, 120, 25, 510, 71, 148, 5, 314, 83, 240, 49, 182, 159, 396, 157, 114, 299, 104, 329, 110, 503, 388, 53, 170, 259, 224, 353, 294, 79, 124, 205, 482, 475, 88, 121, 222, 423, 116, 101, 26, 435, 208, 145, 406, 511, 364, 253, 338, 139, 72, 425, 334, 343, 356, 149, 394, 99, 192, 449, 6, 431, 92, 301, 194, 315, 56, 217, 446, 263, 84, 197, 250, 275, 176, 241, 118, 351, 332, 349, 50, 491, 40, 9, 46, 183, 324, 245, 106, 451, 160, 33, 230, 271, 60, 397, 418, 155, 24, 313, 158, 103, 52, 293, 474, 115, 144, 337, 342, 191, 300, 445, 274, 331, 8, 105, 270, 23, 292, 341, 330, 291, 128, 129, 454, 111, 28, 493, 130, 507, 504, 409, 382, 455, 20, 389, 186, 467, 112, 433, 54, 31, 268, 29, 498, 171, 488, 201, 494, 375, 260, 437, 42, 131, 96, 225, 166, 463, 508, 77, 354, 347, 472, 505, 94, 295, 500, 485, 410, 307, 80, 17, 278, 383, 236, 125, 210, 11, 456, 297, 206, 215, 228, 21, 266, 483, 64, 321, 390, 303, 476, 173, 66, 187, 440, 89, 318, 135, 468, 69, 122, 147, 48, 113, 502, 223, 204, 221, 434, 363, 424, 393, 430, 55, 196, 117, 490, 323, 32, 417, 102, 143, 444, 269, 290, 27, 408, 185, 30, 487, 436, 165, 346, 499, 16, 209, 214, 63, 172, 317, 146, 203, 392, 489, 142, 407, 164, 213, 202, 163]
theorem rndT_ok : (rndT.zipIdx.all fun p => decide (p.1 ≤ 511) && lcgN 511 p.1 == p.2) = true := by decide +kernel
theorem rndT_len : rndT.length = 512 := by decide +kernel
theorem rnd_all {j : Nat} (hj : j ≤ 511) : ∃ b, b ≤ 511 ∧ lcgN 511 b = j := by
  have hl : j < rndT.length := by rw [rndT_len]; omega
  have := List.all_eq_true.mp rndT_ok (rndT[j], j) (List.mem_zipIdx_iff_getElem?.mpr (List.getElem?_eq_getElem hl))
  simp only [Bool.and_eq_true, decide_eq_true_eq, beq_iff_eq] at this
  exact ⟨_, this.1, this.2⟩
theorem rnd_back : lcgN 511 512 = 0 := by decide +kernel
theorem rnd_mod : ∀ k, lcgN 511 (512 + k) = lcgN 511 k
  | 0 => rnd_back
  | k + 1 => by
    show (lcgN 511 (512 + k) * 5 + 1) % 512 = (lcgN 511 k * 5 + 1) % 512
    rw [rnd_mod k]
/-- masks of sets of up to 306 members -/
def MaskW (m : Nat) : Prop := MaskOk m ∨ m = 511
theorem MaskW.round {m : Nat} (hm : MaskW m) {i j : Nat} (hi : i ≤ m) (hj : j ≤ m) : ∃ k, k ≤ m ∧ lcgI m i k = j := by
  rcases hm with hm | rfl
  · exact lcgI_all hm hi hj
  obtain ⟨a, ha, rfl⟩ := rnd_all hi
  obtain ⟨b, hb, rfl⟩ := rnd_all hj
  by_cases h : a ≤ b
  · exact ⟨b - a, by omega, by rw [lcgN_add]; congr 1; omega⟩
  · exact ⟨512 + b - a, by omega, by rw [lcgN_add, show a + (512 + b - a) = 512 + b by omega, rnd_mod]⟩
theorem MaskW.meets {m : Nat} (hm : MaskW m) (h : Int) {j : Nat} (hj : j ≤ m) : ∃ n, n ≤ m + 12 ∧ runI m (SetTable.bits h) n = j := by
  obtain ⟨k, hk, e⟩ := hm.round (runI_le m (SetTable.bits h) 12) hj
  exact ⟨12 + k, by omega, (runI_tail (bits_lt h) k).trans e⟩
theorem MaskW.way {m : Nat} (hm : MaskW m) (h : Int) {j : Nat} (hj : j ≤ m) : ∃ k, k < 10 * SetTable.turns m ∧ L2.way m h k = j := by
  obtain ⟨n, hn, rfl⟩ := hm.meets h hj
  obtain ⟨k, hk, e⟩ := run_nth m (SetTable.bits h) n
  exact ⟨k, by show k < 10 * (m + 15); omega, by show (nth m _ k).j = _; rw [e]; rfl⟩
theorem MaskW.odd {m : Nat} (hm : MaskW m) : m % 2 = 1 := by
  rcases hm with h | rfl
  · exact mask_odd h
  · rfl
theorem MaskW.le {m : Nat} (hm : MaskW m) : m ≤ 511 := by rcases hm with (h | h | h) | h <;> omega
theorem way_leW {m : Nat} {h : Int} {k : Nat} : way m h k ≤ m := by
  have hi : SetTable.bits h % (m + 1) ≤ m := Nat.le_of_lt_succ (Nat.mod_lt _ (Nat.succ_pos m))
  have r := runEnd_bd hi
  have := nth_in (m := m) k (runAt m (SetTable.bits h % (m + 1)) (SetTable.bits h)) (by show SetTable.bits h % (m + 1) + (SetTable.runEnd m (SetTable.bits h % (m + 1)) - SetTable.bits h % (m + 1)) ≤ m; omega)
  show (nth m _ k).j ≤ m
  omega
/-- a table in which each member is met on its hash's way before any gap -/
structure TabW (t : SetTable) (hs : List Int) : Prop where
  ris : Ris t.place.toList
  dm : t.dummies = #[]
  sz : t.place.size = hs.length
  mok : MaskW t.mask
  bd : ∀ x ∈ t.place.toList, x ≤ t.mask
  reach : ∀ (i : Nat) (h : Int) (j : Nat), hs[i]? = some h → t.place.toList[i]? = some j → ∃ k, way t.mask h k = j ∧ ∀ k', k' < k → way t.mask h k' ∈ t.place.toList
section
variable {t : SetTable} {hs : List Int}
theorem TabOk.w (T : TabOk t hs) : TabW t hs := ⟨T.ris, T.dm, T.sz, .inl T.mok, T.bd, T.reach⟩
theorem TabW.plen (T : TabW t hs) : t.place.toList.length = hs.length := by rw [Array.length_toList]; exact T.sz
theorem TabW.gap (T : TabW t hs) (hl : hs.length ≤ t.mask) (h : Int) : ∃ K, K < 10 * SetTable.turns t.mask ∧ way t.mask h K ∉ t.place.toList ∧ ∀ k, k < K → way t.mask h k ∈ t.place.toList := by
  obtain ⟨j, hj, hn⟩ := st_missing t.place.toList (t.mask + 1) (by have := T.plen; omega)
  obtain ⟨k, hk, rfl⟩ := T.mok.way h (j := j) (by omega)
  obtain ⟨K, h1, h2, h3⟩ := st_least (p := fun k => way t.mask h k ∉ t.place.toList) k hn
  exact ⟨K, by omega, h2, fun k' hk' => Classical.not_not.mp (h3 k' hk')⟩
theorem TabW.ahead (T : TabW t hs) {h : Int} {K i j : Nat} (hK : way t.mask h K ∉ t.place.toList) (hi : hs[i]? = some h) (hj : t.place.toList[i]? = some j) : ∃ k, k < K ∧ way t.mask h k = j := by
  obtain ⟨k, e, hb⟩ := T.reach i h j hi hj
  refine ⟨k, ?_, e⟩
  by_cases c : k < K
  · exact c
  · exfalso
    by_cases d : K = k
    · subst d
      rw [e] at hK
      exact hK (List.mem_of_getElem? hj)
    · exact hK (hb K (by omega))
/-- a member more, at the first gap of its way -/
theorem TabW.add (T : TabW t hs) {h : Int} {K p : Nat} (hp : p = SetTable.below t.place (way t.mask h K)) (hK : way t.mask h K ∉ t.place.toList) (hb : ∀ k, k < K → way t.mask h k ∈ t.place.toList) :
    (t.put (way t.mask h K)).2 = p ∧ p ≤ hs.length ∧ TabW (t.put (way t.mask h K)).1 (hs.take p ++ h :: hs.drop p) ∧ (t.put (way t.mask h K)).1.mask = t.mask ∧ (t.put (way t.mask h K)).1.led = t.led ∧ (t.put (way t.mask h K)).1.fill = hs.length + 1 := by
  have hc := (below_cut T.ris (way t.mask h K)).1
  have hpl : p ≤ t.place.toList.length := by rw [hp, Array.length_toList]; exact hc
  have hph : p ≤ hs.length := by rw [← T.plen]; exact hpl
  have hpp : (t.put (way t.mask h K)).1.place.toList = t.place.toList.take p ++ way t.mask h K :: t.place.toList.drop p := by rw [hp]; exact put_place t _
  have hnew : t.place[SetTable.below t.place (way t.mask h K)]? ≠ some (way t.mask h K) := fun e => hK (List.mem_of_getElem? (by rw [Array.getElem?_toList]; exact e))
  have hsz : (t.put (way t.mask h K)).1.place.size = hs.length + 1 := by rw [← Array.length_toList, hpp, len_ins _ hpl, T.plen]
  have up : ∀ {x : Nat}, x ∈ t.place.toList → x ∈ (t.put (way t.mask h K)).1.place.toList := fun hx => by rw [hpp]; exact mem_ins.mpr (.inr hx)
  have hdm := put_dm T.dm (way t.mask h K)
  refine ⟨hp.symm, hph, ⟨ris_insert T.ris hnew, hdm, by rw [len_ins _ hph]; exact hsz, T.mok, fun x hx => ?_, fun i g j h1 h2 => ?_⟩, rfl, rfl, by show _ + _ = _; rw [hsz, hdm]; rfl⟩
  · rw [hpp] at hx
    rcases mem_ins.mp hx with rfl | hx
    · exact way_leW
    · exact T.bd x hx
  · rw [tins_get _ hph] at h1
    rw [hpp, tins_get _ hpl] at h2
    have old : ∀ n, hs[n]? = some g → t.place.toList[n]? = some j → ∃ k, way t.mask g k = j ∧ ∀ k', k' < k → way t.mask g k' ∈ (t.put (way t.mask h K)).1.place.toList := fun n q1 q2 => by
      obtain ⟨k, e, z⟩ := T.reach n g j q1 q2
      exact ⟨k, e, fun k' hk' => up (z k' hk')⟩
    show ∃ k, way t.mask g k = j ∧ ∀ k', k' < k → way t.mask g k' ∈ (t.put (way t.mask h K)).1.place.toList
    split at h1
    · rename_i c
      rw [if_pos c] at h2
      exact old i h1 h2
    · rename_i c
      rw [if_neg c] at h2
      split at h1
      · rename_i d
        rw [if_pos d] at h2
        cases h1
        cases h2
        exact ⟨K, rfl, fun k' hk' => up (hb k' hk')⟩
      · rename_i d
        rw [if_neg d] at h2
        exact old (i - 1) h1 h2
end
/-! ### laying anew -/
section
variable {m : Nat} {done : List Int} {ow : Array (Option Nat)}
abbrev freeM (m : Nat) (ow : Array (Option Nat)) (h : Int) : Option Nat := SetTable.layClean.free m ow (SetTable.turns m) (SetTable.bits h % (m + 1)) (SetTable.bits h)
theorem freeW (hm : MaskW m) (h : Int) {j : Nat} (hj : j ≤ m) (hf : oAt ow j = none) : ∃ K, freeM m ow h = some (way m h K) ∧ oAt ow (way m h K) = none ∧ ∀ k, k < K → oAt ow (way m h k) ≠ none := by
  obtain ⟨n, hn, rfl⟩ := hm.meets h hj
  have e0 : way m h (off m (SetTable.bits h % (m + 1)) (SetTable.bits h) n) = runI m (SetTable.bits h) n := by
    show (nth m _ _).j = _
    rw [nth_off, itL_run]
    rfl
  obtain ⟨K, k1, k2, k3⟩ := st_least (p := fun k => oAt ow (way m h k) = none) (off m (SetTable.bits h % (m + 1)) (SetTable.bits h) n) (e0 ▸ hf)
  refine ⟨K, free_spec m ow _ n _ _ K (by show n < m + 15; omega) k1 (fun k hk => ?_) (by rw [show oAt ow (nth m (runAt m _ _) K).j = none from k2]; rfl), k2, k3⟩
  have := k3 k hk
  revert this
  show oAt ow (nth m _ k).j ≠ none → _
  cases oAt ow (nth m (runAt m (SetTable.bits h % (m + 1)) (SetTable.bits h)) k).j with
  | none => exact fun z => absurd rfl z
  | some y => exact fun _ => rfl
theorem Own.more (hm : MaskW m) (W : Own m done ow) (hl : done.length ≤ m) (h : Int) : ∃ j, freeM m ow h = some j ∧ Own m (done ++ [h]) (ow.setIfInBounds j (some done.length)) := by
  obtain ⟨ps, hps, hin⟩ := W.ps
  obtain ⟨j0, h0, hn0⟩ := st_missing ps (m + 1) (by omega)
  obtain ⟨K, e1, e2, e3⟩ := freeW hm h (j := j0) (by omega) (Classical.not_not.mp fun z => hn0 (hin j0 (by omega) z))
  obtain ⟨j, hj⟩ : ∃ j, j = way m h K := ⟨_, rfl⟩
  have hjm : j ≤ m := by rw [hj]; exact way_leW
  rw [← hj] at e1 e2
  have hself := oAt_set_self (owner := ow) (j := j) (some done.length) (by rw [W.sz]; omega)
  have hoth : ∀ {i : Nat}, i ≠ j → oAt (ow.setIfInBounds j (some done.length)) i = oAt ow i := fun hi => oAt_set_ne _ hi
  have hup : ∀ {i : Nat}, oAt ow i ≠ none → oAt (ow.setIfInBounds j (some done.length)) i ≠ none := fun {i} hi => by
    by_cases c : i = j
    · subst c; rw [hself]; simp
    · rw [hoth c]; exact hi
  refine ⟨j, e1, by rw [Array.size_setIfInBounds]; exact W.sz, fun i k hi e => ?_, fun k hk => ?_, j :: ps, by simp [hps], fun i hi e => ?_⟩
  · by_cases c : i = j
    · subst c
      rw [hself] at e
      cases e
      exact ⟨h, K, by simp, hj.symm, fun k' hk' => hup (e3 k' hk')⟩
    · rw [hoth c] at e
      obtain ⟨h', K', a1, a2, a3⟩ := W.at_ i k hi e
      have hk := (List.getElem?_eq_some_iff.mp a1).1
      exact ⟨h', K', by rw [List.getElem?_append_left hk]; exact a1, a2, fun k' hk' => hup (a3 k' hk')⟩
  · rw [List.length_append, List.length_singleton] at hk
    by_cases c : k < done.length
    · obtain ⟨i, hi, e⟩ := W.all k c
      exact ⟨i, hi, by rw [hoth (fun z => by rw [z, e2] at e; cases e)]; exact e⟩
    · exact ⟨j, hjm, by rw [hself, show k = done.length by omega]⟩
  · by_cases c : i = j
    · subst c; simp
    · rw [hoth c] at e
      exact List.mem_cons_of_mem _ (hin i hi e)
theorem Own.folds (hm : MaskW m) : ∀ (rest : List Int) {done : List Int} {ow : Array (Option Nat)}, Own m done ow → done.length + rest.length ≤ m → ∃ ow', rest.foldl (stepF m) (some (ow, done.length)) = some (ow', (done ++ rest).length) ∧ Own m (done ++ rest) ow'
  | [], done, ow, W, _ => ⟨ow, by simp, by simpa using W⟩
  | h :: rest, done, ow, W, hl => by
    rw [List.length_cons] at hl
    obtain ⟨j, e, W2⟩ := W.more hm (by omega) h
    obtain ⟨ow', f, W3⟩ := Own.folds hm rest W2 (by simp; omega)
    refine ⟨ow', ?_, by simpa using W3⟩
    rw [List.foldl_cons, stepF_some e, ← show (done ++ [h]).length = done.length + 1 by simp, f]
    simp
theorem layW (hm : MaskW m) {hs : Array Int} (hn : hs.size ≤ m) : ∃ ow, SetTable.layClean m hs = some ow ∧ Own m hs.toList ow := by
  obtain ⟨ow, f, W⟩ := Own.folds hm hs.toList (Own.init m) (by rw [List.length_nil, Array.length_toList]; omega)
  refine ⟨ow, ?_, by simpa using W⟩
  rw [layClean_eq]
  have f2 : hs.toList.foldl (stepF m) (some (Array.replicate (m + 1) none, 0)) = _ := f
  rw [f2]
  rfl
end
theorem live_len {m : Nat} {done : List Int} {ow : Array (Option Nat)} (W : Own m done ow) (nd : ((liveOf m ow).map (·.1)).Nodup) : (liveOf m ow).length = done.length := by
  obtain ⟨ps, p1, p2⟩ := W.ps
  have a := nat_nodup_len ((liveOf m ow).map (·.1)) ps nd fun x hx => by
    obtain ⟨⟨y, k⟩, hq, rfl⟩ := List.mem_map.mp hx
    obtain ⟨b1, b2⟩ := (mem_live W.sz).mp hq
    exact p2 y b1 (by rw [b2]; simp)
  have b := nat_nodup_len (List.range done.length) ((liveOf m ow).map (·.2)) List.nodup_range fun k hk => by
    obtain ⟨j, b1, b2⟩ := W.all k (List.mem_range.mp hk)
    exact List.mem_map.mpr ⟨(j, k), (mem_live W.sz).mpr ⟨b1, b2⟩, rfl⟩
  rw [List.length_map] at a b
  rw [List.length_range] at b
  omega
theorem relaidW (t : SetTable) {hs : Array Int} {wanted M : Nat} (hw : SetTable.sizeAbove wanted - 1 = M) (hM : MaskW M) (hn : hs.size ≤ M) :
    ∃ t' order, t.relaid hs wanted = some (t', order) ∧ order.toList.Perm (List.range hs.size) ∧ TabW t' (order.toList.map fun i => hs.getD i 0) ∧ t'.mask = M ∧ t'.led = t.led := by
  obtain ⟨ow, e, W⟩ := layW hM hn
  obtain ⟨r1, r2⟩ := ris_live (fun j => ow.getD j none) (List.range (M + 1)) (by unfold Ris; exact List.pairwise_lt_range)
  have r1 : Ris ((liveOf M ow).map (·.1)) := r1
  have r2 : ∀ x ∈ (liveOf M ow).map (·.1), x ∈ List.range (M + 1) := r2
  have hlen : (liveOf M ow).length = hs.size := (live_len W (List.Pairwise.imp (fun h => Nat.ne_of_lt h) r1)).trans (by simp)
  refine ⟨tabOf t M ow, ((liveOf M ow).map (·.2)).toArray, by rw [relaid_eq, hw, e]; rfl, ?_, ⟨r1, rfl, ?_, hM, fun x hx => ?_, fun i h j h1 h2 => ?_⟩, rfl, rfl⟩
  · refine perm_range _ _ (by show ((liveOf M ow).map (·.2)).length = _; rw [List.length_map, hlen]) fun k hk => ?_
    obtain ⟨j, b1, b2⟩ := W.all k (by rw [Array.length_toList]; exact hk)
    exact List.mem_map.mpr ⟨(j, k), (mem_live W.sz).mpr ⟨b1, b2⟩, rfl⟩
  · show ((liveOf M ow).map (·.1)).toArray.size = (((liveOf M ow).map (·.2)).map fun i => hs.getD i 0).length
    simp
  · have := List.mem_range.mp (r2 x hx)
    show x ≤ M
    omega
  · have h1 : (((liveOf M ow).map (·.2)).map fun i => hs.getD i 0)[i]? = some h := h1
    have h2 : ((liveOf M ow).map (·.1))[i]? = some j := h2
    rw [List.map_map, List.getElem?_map] at h1
    rw [List.getElem?_map] at h2
    obtain ⟨⟨y, k⟩, hq, rfl⟩ := Option.map_eq_some_iff.mp h2
    rw [hq] at h1
    have eh : hs.getD k 0 = h := Option.some.inj h1
    obtain ⟨b1, b2⟩ := (mem_live W.sz).mp (List.mem_of_getElem? hq)
    obtain ⟨h0, K, a1, a2, a3⟩ := W.at_ y k b1 b2
    have e0 : hs.getD k 0 = h0 := by rw [Array.getD_eq_getD_getElem?, ← Array.getElem?_toList, a1]; rfl
    have : h0 = h := e0.symm.trans eh
    subst this
    refine ⟨K, a2, fun k' hk' => ?_⟩
    show way M h0 k' ∈ (liveOf M ow).map (·.1)
    obtain ⟨k2, z⟩ := Option.ne_none_iff_exists'.mp (a3 k' hk')
    exact List.mem_map.mpr ⟨(way M h0 k', k2), (mem_live W.sz).mpr ⟨way_leW, z⟩, rfl⟩
theorem size_306 : SetTable.sizeAbove (SetTable.grown 77) = 512 := by decide +kernel
end L2
end
section
set_option Elab.async false
set_option maxRecDepth 100000
set_option maxHeartbeats 4000000
set_option linter.all false
set_option autoImplicit false
/-! DLK38: sets of up to 299 members of any kind (DLK17 over DLK37's tables) -/
namespace L2
open PySem PySem.Spec PyProof.Rows
theorem MaskW.ge {m : Nat} (hm : MaskW m) : 7 ≤ m := by rcases hm with (h | h | h) | h <;> omega
section
variable {P : Program} {w : World} {α : Type} [DecidableEq α] (κ : EK P w α)
/-- the set at a with the elements L -/
structure EwSet (h : Heap) (a : Addr) (L : List (Value × α)) (es : Array (Int × Value)) (ep : Nat) (t : SetTable) : Prop where
  at_ : ∃ o, h.get? a = some o ∧ o.ExactSet ∧ o.data = .set es ep t
  rows : es.toList = ekRows κ L
  tab : TabW t (ekHs κ L)
  uniq : (L.map (·.2)).Nodup
  els : ∀ p ∈ L, κ.is h p.2 p.1
  led : w.params.followText "set-order" = true ∨ t.led = true
  room : L.length * 5 < t.mask * 3
  few : L.length < 300
variable {κ} {A : Around} {E : Value → Shared → Prop} {s : Shared} {a : Addr} {L : List (Value × α)} {es : Array (Int × Value)} {ep : Nat} {t : SetTable}
theorem EwSet.size {h : Heap} (R : EwSet κ h a L es ep t) : es.size = L.length := by
  have e := congrArg List.length R.rows
  simpa [ekRows] using e
theorem EwSet.hlen : (ekHs κ L).length = L.length := List.length_map ..
theorem EwSet.fits {h : Heap} (R : EwSet κ h a L es ep t) : t.fits es.size = true := by
  have z := R.tab.sz
  rw [EwSet.hlen] at z
  have z2 := R.size
  have z3 := R.room
  simp only [SetTable.fits, SetTable.fill, R.tab.dm, Bool.and_eq_true, beq_iff_eq, decide_eq_true_eq, Array.size_empty]
  omega
theorem EwSet.row {h : Heap} (R : EwSet κ h a L es ep t) {i : Nat} {p : Value × α} (e : L[i]? = some p) : es[i]? = some (κ.hash p.2, p.1) := by
  rw [← Array.getElem?_toList, R.rows]
  simp [ekRows, e]
theorem EwSet.stays {h : Heap} (R : EwSet κ h a L es ep t) : ¬ t.gaveWay = true := by
  simp [SetTable.gaveWay, R.tab.mok.odd]
theorem ew_search_from (R : EwSet κ s.heap a L es ep t) {v : Value} {k : α} (hx : κ.is s.heap k v) (hu : A.units < cLine) {N : Nat} (hN1 : N < 10 * SetTable.turns t.mask)
    (hN2 : way t.mask (κ.hash k) N ∉ t.place.toList) (hN3 : ∀ c, c < N → way t.mask (κ.hash k) c ∈ t.place.toList) {Q : SetFound → Shared → Prop}
    (yes : k ∈ L.map (·.2) → Q (.there none) s) (no : k ∉ L.map (·.2) → Q (.free (way t.mask (κ.hash k) N) false) s) :
    ∀ (fuel c : Nat) (st : Option SetTable.Probe), st.getD (t.probeStart (κ.hash k)) = stAt t (κ.hash k) c → c ≤ N → N - c < fuel →
      (∀ (i : Nat) p, L[i]? = some p → p.2 = k → ∃ c', c ≤ c' ∧ c' < N ∧ t.place.toList[i]? = some (way t.mask (κ.hash k) c')) →
      wpAny (model P w) A (setSearchFrom a v (κ.hash k) true fuel st) Q E s
  | 0, c, st, _, _, hf, _ => by omega
  | fuel + 1, c, st, hst, hc, hf, ahead => by
    obtain ⟨o, ho, hex, hd⟩ := R.at_
    have shift : ∀ q, nth t.mask (stAt t (κ.hash k) c) q = stAt t (κ.hash k) (c + q) := fun q => (nth_add t.mask c _ q).symm
    have jAt : ∀ q, (nth t.mask (stAt t (κ.hash k) c) q).j = way t.mask (κ.hash k) (c + q) := fun q => congrArg SetTable.Probe.j (shift q)
    have hashOf : ∀ (i : Nat) p, L[i]? = some p → (es[i]?.map (·.1)).getD 0 = κ.hash p.2 := fun i p hp => by rw [R.row hp]; rfl
    have what := go_spec t R.tab.ris R.tab.dm (fun i => (es[i]?.map (·.1)).getD 0) (κ.hash k) (10 * SetTable.turns t.mask) (N - c) _ (stAt_dummy t (κ.hash k) c) (by omega)
      (fun q hq => by rw [jAt]; exact hN3 (c + q) (by omega)) (by rw [jAt, Nat.add_sub_cancel' hc]; exact hN2)
    rw [setSearchFrom_succ]
    refine wpAny_bind (wpAny_setState_of ho hd R.fits ?_)
    dsimp only
    refine wp_if_neg R.stays ?_
    try refine wpAny_bind (wpAny_pure ?_)
    rcases what with ⟨q, i, hq, hi, hh, skip, probe⟩ | ⟨skip, probe⟩
    · have probe2 : t.probe (fun i => (es[i]?.map (·.1)).getD 0) (κ.hash k) (st.getD (t.probeStart (κ.hash k))) = some (.candidate (way t.mask (κ.hash k) (c + q)) i (stAt t (κ.hash k) (c + (q + 1)))) := by
        rw [hst, ← jAt, ← shift]; exact probe
      rw [probe2]
      dsimp only
      rw [jAt] at hi
      have hil : i < L.length := by
        have z := (List.getElem?_eq_some_iff.mp hi).1
        have z2 := R.tab.sz
        rw [EwSet.hlen] at z2
        rw [Array.length_toList] at z
        omega
      obtain ⟨p, hp⟩ : ∃ p, L[i]? = some p := ⟨_, List.getElem?_eq_getElem hil⟩
      have pm : p ∈ L := List.mem_of_getElem? hp
      have pis := R.els p pm
      have live : t.slot (way t.mask (κ.hash k) (c + q)) = .live i := slot_live R.tab.ris hi
      have tail : wpAny (model P w) A (searchRest a v (κ.hash k) true fuel es t (way t.mask (κ.hash k) (c + q)) i (stAt t (κ.hash k) (c + (q + 1)))) Q E s := by
        unfold searchRest
        rw [R.row hp]
        dsimp only
        refine wpAny_bind (wpAny_holding (κ.eq hu pis hx (wpAny_bind (wpAny_setState_of ho hd R.fits ?_))))
        dsimp only
        by_cases same : p.2 = k
        · refine wp_if_pos (by simp [same]) (wpAny_pure (yes (List.mem_map.mpr ⟨p, pm, same⟩)))
        · refine wp_if_neg (by simp [same]) ?_
          try refine wpAny_bind (wpAny_pure ?_)
          rw [sameMem]
          dsimp only
          simp only [if_true, live, R.row hp]
          refine wpAny_bind (κ.self pis (wpAny_bind (wpAny_pure ?_)))
          simp only [if_true]
          refine wp_if_neg (by simp [same]) ?_
          refine ew_search_from R hx hu hN1 hN2 hN3 yes no fuel (c + (q + 1)) _ rfl (by omega) (by omega) fun i0 p0 h0 k0 => ?_
          obtain ⟨c', l1, l2, l3⟩ := ahead i0 p0 h0 k0
          refine ⟨c', ?_, l2, l3⟩
          have ne : ∀ d, d < q → c' ≠ c + d := fun d hd z => by
            refine skip d i0 hd (by rw [jAt, ← z]; exact l3) ?_
            rw [hashOf i0 p0 h0, k0]
          have ne2 : c' ≠ c + q := fun z => by
            rw [z] at l3
            have s0 := slot_live R.tab.ris l3
            rw [live] at s0
            injection s0 with s0
            subst s0
            rw [hp] at h0
            cases h0
            exact same k0
          refine Classical.byContradiction fun z => ?_
          by_cases z2 : c' < c + q
          · exact ne (c' - c) (by omega) (by omega)
          · exact ne2 (by omega)
      by_cases hl : t.led = true
      · refine wp_if_neg (by simp [hl]) ?_
        try refine wpAny_bind (wpAny_pure ?_)
        exact tail
      · refine wp_if_pos (by simp [hl]) (wpAny_bind (κ.seen hx (fun y hy => ?_) (wp_if_neg (by decide) ?_)))
        · obtain ⟨e, he, rfl⟩ := List.mem_map.mp hy
          have he2 : e ∈ es.toList := by
            have : e ∈ es ∧ e.1 = κ.hash k := by simpa using he
            simpa using this.1
          rw [R.rows] at he2
          obtain ⟨p2, hp2, rfl⟩ := List.mem_map.mp he2
          exact ⟨p2.2, R.els p2 hp2⟩
        · try refine wpAny_bind (wpAny_pure ?_)
          exact tail
    · have probe2 : t.probe (fun i => (es[i]?.map (·.1)).getD 0) (κ.hash k) (st.getD (t.probeStart (κ.hash k))) = some (.empty (way t.mask (κ.hash k) N) none) := by
        have z : way t.mask (κ.hash k) N = (nth t.mask (stAt t (κ.hash k) c) (N - c)).j := by rw [jAt, Nat.add_sub_cancel' hc]
        rw [hst, z]; exact probe
      rw [probe2]
      dsimp only
      refine wpAny_pure (no fun hm => ?_)
      obtain ⟨p0, m0, k0⟩ := List.mem_map.mp hm
      obtain ⟨i0, h0⟩ := List.getElem?_of_mem m0
      obtain ⟨c', l1, l2, l3⟩ := ahead i0 p0 h0 k0
      refine skip (c' - c) i0 (by omega) (by rw [jAt, Nat.add_sub_cancel' l1]; exact l3) ?_
      show (es[i0]?.map (·.1)).getD 0 = _
      rw [hashOf i0 p0 h0, k0]
theorem ew_search (R : EwSet κ s.heap a L es ep t) {v : Value} {k : α} (hx : κ.is s.heap k v) (hu : A.units < cLine) {Q : SetFound → Shared → Prop}
    (yes : k ∈ L.map (·.2) → Q (.there none) s)
    (no : ∀ N, k ∉ L.map (·.2) → way t.mask (κ.hash k) N ∉ t.place.toList → (∀ c, c < N → way t.mask (κ.hash k) c ∈ t.place.toList) → Q (.free (way t.mask (κ.hash k) N) false) s) :
    wpAny (model P w) A (setSearch a v (κ.hash k) true) Q E s := by
  have z3 := R.room
  obtain ⟨N, hN1, hN2, hN3⟩ := R.tab.gap (by rw [EwSet.hlen]; omega) (κ.hash k)
  have big : N < 100000 := by
    have : 10 * SetTable.turns t.mask ≤ 5260 := by
      have := R.tab.mok.le
      unfold SetTable.turns; omega
    omega
  unfold setSearch
  refine ew_search_from R hx hu hN1 hN2 hN3 yes (fun n => no N n hN2 hN3) 100000 0 none rfl (Nat.zero_le _) (by omega) fun i p hp hk => ?_
  have hi : (ekHs κ L)[i]? = some (κ.hash k) := by simp [ekHs, hp, hk]
  have hil : i < t.place.toList.length := by
    have z := (List.getElem?_eq_some_iff.mp hp).1
    have z2 := R.tab.sz
    rw [EwSet.hlen] at z2
    rw [Array.length_toList]; omega
  obtain ⟨c, hc, e⟩ := R.tab.ahead hN2 hi (List.getElem?_eq_getElem hil)
  exact ⟨c, Nat.zero_le _, hc, by rw [List.getElem?_eq_getElem hil, e]⟩
/-! ### adding -/
/-- the rows in another order -/
theorem ew_order (es : Array (Int × Value)) (order : Array Nat) (hr : es.toList = ekRows κ L) (hp : order.toList.Perm (List.range L.length)) :
    ∃ M, (order.filterMap (es[·]?)).toList = ekRows κ M ∧ M.Perm L ∧ ekHs κ M = order.toList.map fun i => (es.map (·.1)).getD i 0 := by
  have row : ∀ {i : Nat} {p : Value × α}, L[i]? = some p → es[i]? = some (κ.hash p.2, p.1) := fun {i p} e => by
    rw [← Array.getElem?_toList, hr]
    simp [ekRows, e]
  have walk : ∀ l : List Nat, (∀ i ∈ l, i < L.length) → l.filterMap (fun i => es[i]?) = ekRows κ (l.filterMap fun i => L[i]?) ∧ ekHs κ (l.filterMap fun i => L[i]?) = l.map fun i => (es.map (·.1)).getD i 0 := by
    intro l
    induction l with
    | nil => exact fun _ => ⟨rfl, rfl⟩
    | cons i l ih =>
      intro hl
      obtain ⟨e1, e2⟩ := ih fun j hj => hl j (List.mem_cons_of_mem _ hj)
      obtain ⟨p, hpp⟩ : ∃ p, L[i]? = some p := ⟨_, List.getElem?_eq_getElem (hl i (by simp))⟩
      have e3 := row hpp
      have e4 : (es.map (·.1)).getD i 0 = κ.hash p.2 := by
        have : (es.map (·.1))[i]? = some (κ.hash p.2) := by rw [Array.getElem?_map, e3]; rfl
        simp [Array.getD_eq_getD_getElem?, this]
      rw [List.filterMap_cons_some e3, List.filterMap_cons_some hpp, e1]
      refine ⟨rfl, ?_⟩
      rw [List.map_cons, e4, ← e2]
      rfl
  obtain ⟨e1, e2⟩ := walk order.toList fun i hi => List.mem_range.mp (hp.mem_iff.mp hi)
  refine ⟨_, by first | (rw [Array.toList_filterMap]; exact e1) | simpa using e1, ?_, e2⟩
  have z := hp.filterMap fun i => L[i]?
  rw [range_all _ (Nat.le_refl _), List.take_length] at z
  exact z
theorem ew_relay {o : Obj} (ho : s.heap.get? a = some o) (hex : o.ExactSet) (hd : o.data = .set es ep t) (hr : es.toList = ekRows κ L) (T : TabW t (ekHs κ L)) (hfl : es.size ≤ t.mask)
    (nd : (L.map (·.2)).Nodup) (els : ∀ p ∈ L, κ.is s.heap p.2 p.1) (led : w.params.followText "set-order" = true ∨ t.led = true) (few : L.length < 300) {wanted M : Nat}
    (hw : SetTable.sizeAbove wanted - 1 = M) (hM : MaskW M) (hw2 : SetTable.sizeAbove wanted ≤ 512) (hroom : L.length * 5 < M * 3) {Q : Unit → Shared → Prop}
    (q : ∀ h' L' es' ep' t', Heap.SameBut a s.heap h' → EwSet κ h' a L' es' ep' t' → L'.Perm L → Q () { s with heap := h' }) : wpAny (model P w) A (setRelay a wanted) Q E s := by
  have hsz : es.size = L.length := by
    have e := congrArg List.length hr
    simpa [ekRows] using e
  have z := T.sz
  rw [EwSet.hlen] at z
  have fits : t.fits es.size = true := by
    simp only [SetTable.fits, SetTable.fill, T.dm, Bool.and_eq_true, beq_iff_eq, decide_eq_true_eq, Array.size_empty]
    omega
  obtain ⟨t', order, e, hp, T', em, el⟩ := relaidW t (hs := es.map (·.1)) (wanted := wanted) hw hM (by rw [Array.size_map, hsz]; omega)
  rw [Array.size_map, hsz] at hp
  obtain ⟨L', r1, r2, r3⟩ := ew_order es order hr hp
  rw [← r3] at T'
  have sz2 : (order.filterMap (es[·]?)).size = es.size := by
    have e := congrArg List.length r1
    have e2 : (ekRows κ L').length = L'.length := List.length_map ..
    rw [e2, Array.length_toList] at e
    rw [hsz, ← r2.length_eq]
    exact e
  rw [setRelay_eq]
  refine wpAny_bind (wpAny_setState_of ho hd fits ?_)
  dsimp only
  refine wp_if_neg (by rw [sizeLine_eq]; omega) ?_
  try refine wpAny_bind (wpAny_pure ?_)
  rw [e]
  dsimp only
  refine wpAny_bind (wp_if_neg (by rw [sz2]; simp) ?_)
  try refine wpAny_bind (wpAny_pure ?_)
  refine wpAny_pure ?_
  dsimp only
  refine wpAny_storeSet_of ho hd ?_ (by rw [sz2, hsz, sizeLine_eq]; omega)
  have sb : Heap.SameBut a s.heap (s.heap.update a (Obj.putSet (order.filterMap (es[·]?)) t')) := Heap.SameBut.update ..
  exact q _ L' _ (ep + 1) t' sb ⟨⟨_, store_at ho hd, ⟨hex.1, hex.2.1, hex.2.2⟩, rfl⟩, r1, T', (r2.map (·.2)).nodup_iff.mpr nd, fun p hpm => κ.mv (els p (r2.mem_iff.mp hpm)) ho hd sb, by rw [el]; exact led, by rw [r2.length_eq, em]; exact hroom, by rw [r2.length_eq]; exact few⟩ r2
theorem tabW_flag {t : SetTable} {hs : List Int} (T : TabW t hs) (b : Bool) : TabW { t with plain := b } hs := ⟨T.ris, T.dm, T.sz, T.mok, T.bd, T.reach⟩
/-- setAddHashed, where the search is needed -/
theorem ew_add (R : EwSet κ s.heap a L es ep t) {v : Value} {k : α} (hx : κ.is s.heap k v) (hu : A.units < cLine) (hb : byScan v es = false) (hfew : L.length + 1 < 300) {Q : Bool → Shared → Prop}
    (q : ∀ b h' L' es' ep' t', Heap.SameBut a s.heap h' → EwSet κ h' a L' es' ep' t' → (k ∈ L.map (·.2) → L' = L) → (k ∉ L.map (·.2) → L'.Perm ((v, k) :: L)) → Q b { s with heap := h' }) :
    wpAny (model P w) A (setAddHashed a v (κ.hash k)) Q E s := by
  obtain ⟨o, ho, hex, hd⟩ := R.at_
  have hsz := R.size
  have hroom := R.room
  unfold setAddHashed
  refine wpAny_holding ?_
  rw [show (100000 : Nat) = 99999 + 1 from rfl, setAddHashedIn_succ]
  refine wpAny_bind (wpAny_setState_of ho hd R.fits ?_)
  dsimp only
  refine wp_if_neg (by rw [hb]; decide) ?_
  try refine wpAny_bind (wpAny_pure ?_)
  refine wpAny_bind (ew_search R hx hu (fun hm => wpAny_pure (q false s.heap L es ep t (Heap.SameBut.refl a s.heap) R (fun _ => rfl) fun z => absurd hm z)) fun N hm hN hNb => ?_)
  dsimp only
  refine wpAny_bind (wpAny_setState_of ho hd R.fits ?_)
  dsimp only
  obtain ⟨q1, q2, q3, q4, q5, q9⟩ := R.tab.add rfl hN hNb
  generalize hpt : t.put (way t.mask (κ.hash k) N) = pt at q1 q3 q4 q5 q9 ⊢
  obtain ⟨t1, p⟩ := pt
  dsimp only at q1 q3 q4 q5 q9 ⊢
  subst q1
  generalize SetTable.below t.place (way t.mask (κ.hash k) N) = p at q2 q3 ⊢
  rw [← ekHs_put p v k] at q3
  have pm : (L.take p ++ (v, k) :: L.drop p).Perm ((v, k) :: L) := by
    have z : (L.take p ++ (v, k) :: L.drop p).Perm ((v, k) :: (L.take p ++ L.drop p)) := List.perm_middle
    rw [List.take_append_drop] at z
    exact z
  have hin : (SetTable.insertAt es p (κ.hash k, v)).toList = ekRows κ (L.take p ++ (v, k) :: L.drop p) := by rw [SetTable.toList_insertAt, ekRows_put, R.rows]
  generalize L.take p ++ (v, k) :: L.drop p = L1 at pm hin q3
  generalize SetTable.insertAt es p (κ.hash k, v) = es1 at hin ⊢
  have l1 : L1.length = L.length + 1 := pm.length_eq
  have z1 : es1.size = L.length + 1 := by
    have e := congrArg List.length hin
    have e2 : (ekRows κ L1).length = L1.length := List.length_map ..
    rw [e2, l1, Array.length_toList] at e
    exact e
  have nd1 : (L1.map (·.2)).Nodup := (pm.map (·.2)).nodup_iff.mpr (by rw [List.map_cons]; exact List.nodup_cons.mpr ⟨hm, R.uniq⟩)
  have core : ∀ t2 : SetTable, TabW t2 (ekHs κ L1) → t2.mask = t.mask → t2.led = t.led → t2.fill = (ekHs κ L).length + 1 →
      wpAny (model P w) A (storeSet a es1 t2 >>= fun _ => if (!false && t2.tooFull) = true then (do setRelay a (SetTable.grown (es.size + 1)); pure true) else pure true) Q E s := by
    intro t2 T2 m2 d2 f2
    rw [EwSet.hlen] at f2
    refine wpAny_bind (wpAny_storeSet_of ho hd ?_ (by rw [z1, sizeLine_eq]; omega))
    have sb : Heap.SameBut a s.heap (s.heap.update a (Obj.putSet es1 t2)) := Heap.SameBut.update ..
    have ho1 := store_at (es' := es1) (t' := t2) ho hd
    generalize s.heap.update a (Obj.putSet es1 t2) = h1 at sb ho1 ⊢
    have els1 : ∀ p ∈ L1, κ.is h1 p.2 p.1 := fun p hp => by
      rcases List.mem_cons.mp (pm.mem_iff.mp hp) with rfl | hp
      · exact κ.mv hx ho hd sb
      · exact κ.mv (R.els p hp) ho hd sb
    by_cases full : t2.tooFull = true
    · refine wp_if_pos (by simp [full]) (wpAny_bind ?_)
      have fl : (L.length + 1) * 5 ≥ t2.mask * 3 := by
        have z := full
        unfold SetTable.tooFull at z
        rw [decide_eq_true_eq, f2] at z
        exact z
      have grow : ∀ M, SetTable.sizeAbove (SetTable.grown (L.length + 1)) - 1 = M → MaskW M → SetTable.sizeAbove (SetTable.grown (L.length + 1)) ≤ 512 → (L.length + 1) * 5 < M * 3 →
          wpAny (model P w) A (setRelay a (SetTable.grown (es.size + 1))) (fun _ s' => wpAny (model P w) A (pure true) Q E s') E { s with heap := h1 } := fun M e1 e2 e3 e4 => by
        rw [hsz]
        refine ew_relay (s := { s with heap := h1 }) (κ := κ) (L := L1) ho1 ⟨hex.1, hex.2.1, hex.2.2⟩ rfl hin T2 (by rw [z1, m2]; omega) nd1 els1 (by rw [d2]; exact R.led) (by omega) e1 e2 e3 (by rw [l1]; exact e4) ?_
        exact fun h2 L2 es2 ep2 t3 sb2 R2 pm2 => wpAny_pure (q true h2 L2 es2 ep2 t3 (sb.trans sb2) R2 (fun z => absurd z hm) fun _ => pm2.trans pm)
      rcases R.tab.mok with (e | e | e) | e
      · have e5 : L.length = 4 := by rw [m2, e] at fl; rw [e] at hroom; omega
        exact grow 31 (by rw [e5, size_20]) (.inl (.inr (.inl rfl))) (by rw [e5, size_20]; decide) (by omega)
      · have e5 : L.length = 18 := by rw [m2, e] at fl; rw [e] at hroom; omega
        exact grow 127 (by rw [e5, size_76]) (.inl (.inr (.inr rfl))) (by rw [e5, size_76]; decide) (by omega)
      · have e5 : L.length = 76 := by rw [m2, e] at fl; rw [e] at hroom; omega
        exact grow 511 (by rw [e5, size_306]) (.inr rfl) (by rw [e5, size_306]; decide) (by omega)
      · rw [m2, e] at fl; omega
    · refine wp_if_neg (by simp [full]) (wpAny_pure (q true h1 L1 es1 (ep + 1) t2 sb ⟨⟨_, ho1, ⟨hex.1, hex.2.1, hex.2.2⟩, rfl⟩, hin, T2, nd1, els1, by rw [d2]; exact R.led, ?_, by omega⟩ (fun z => absurd z hm) fun _ => pm))
      have z := full
      unfold SetTable.tooFull at z
      rw [decide_eq_true_eq, f2] at z
      rw [l1]
      omega
  have c1 := core t1 q3 q4 q5 q9
  have c2 := core { t1 with plain := false } (tabW_flag q3 false) q4 q5 q9
  by_cases hpl : t1.plain = true
  · refine wp_if_pos hpl (wpAny_bind (κ.byv hx fun b => ?_))
    cases b with
    | true => exact c1
    | false => exact c2
  · refine wp_if_neg hpl (wpAny_bind (wpAny_pure ?_))
    exact c1
end
end L2
end
section
set_option Elab.async false
set_option maxRecDepth 100000
set_option maxHeartbeats 6400000
set_option linter.all false
set_option autoImplicit false
/-! DLK39: set(xs) of a list of None and tuples, up to 298 unlike ones (DLK19..DLK21 over DLK38) -/
namespace L2
open PySem PySem.Spec PyProof.Rows
section
variable {P : Program} {w : World} {A : Around} {E : Value → Shared → Prop} {s : Shared} {a : Addr} {L : List (Value × HKey)} {es : Array (Int × Value)} {ep : Nat} {t : SetTable}
/-- None, where None stands alone -/
theorem addN_sameW (R : EwSet (hkE P w) s.heap a [(.none, none)] es ep t) {Q : Bool → Shared → Prop} (q : Q false s) : wpAny (model P w) A (setAddHashed a .none (hN P w)) Q E s := by
  obtain ⟨o, ho, hex, hd⟩ := R.at_
  have hr : es.toList = [(hN P w, Value.none)] := R.rows
  have hall : es.all (fun e => e.2.scannable) = true := by rw [← Array.all_toList, hr]; rfl
  have hsz : es.size = 1 := R.size
  unfold setAddHashed
  refine wpAny_holding ?_
  rw [show (100000 : Nat) = 99999 + 1 from rfl, setAddHashedIn_succ]
  refine wpAny_bind (wpAny_setState_of ho hd R.fits ?_)
  dsimp only
  refine wp_if_pos (by unfold byScan; rw [hall, hsz]; rfl) ?_
  refine wpAny_bind ?_
  unfold setAddByScan
  refine wpAny_bind (wpAny_rule (wpAny_bind ?_))
  show wpAny _ _ (setScanFrom a .none (hN P w) true es.toList 0) _ _ s
  rw [hr]
  unfold setScanFrom
  rw [if_pos (by simp)]
  refine wpAny_bind (wpAny_setEpoch_of ho hd R.fits ?_)
  refine wpAny_bind (SeqAt.EqAt.same _ _ _ _ _ ?_)
  refine wp_if_pos rfl (wpAny_pure ?_)
  exact wpAny_pure (wpAny_pure q)
/-- the table of the first element -/
theorem lay_firstW {t : SetTable} (T : TabW t []) (h : Int) (v : Value) : ∃ t1, layNew t #[] h v = (#[(h, v)], t1, false, false) ∧ TabW t1 [h] ∧ t1.mask = t.mask ∧ t1.led = t.led ∧ t1.fill = 1 := by
  have z : t.place.toList = [] := by
    have := T.sz
    cases e : t.place.toList with
    | nil => rfl
    | cons x l =>
      have : t.place.toList.length = 0 := by rw [Array.length_toList]; exact this
      rw [e] at this
      cases this
  have hN : way t.mask h 0 ∉ t.place.toList := by rw [z]; exact List.not_mem_nil
  have tr : 0 < 10 * SetTable.turns t.mask := by
    unfold SetTable.turns; omega
  have fs : t.freeSlot h = some (way t.mask h 0, false) := by
    unfold SetTable.freeSlot
    rcases go_spec t T.ris T.dm (fun _ => h + 1) h (10 * SetTable.turns t.mask) 0 (stAt t h 0) (stAt_dummy t h 0) tr (fun k hk => by omega) hN with ⟨k, _, hk, _⟩ | ⟨_, g⟩
    · omega
    · have g2 : t.probe (fun _ => h + 1) h (t.probeStart h) = some (.empty (way t.mask h 0) none) := g
      rw [g2]
      rfl
  obtain ⟨q1, q2, q3, q4, q5, q9⟩ := T.add rfl hN (fun k hk => by omega)
  have hb : SetTable.below t.place (way t.mask h 0) = 0 := by
    have := q2
    simpa using this
  rw [hb] at q1 q3
  refine ⟨(t.put (way t.mask h 0)).1, ?_, by simpa using q3, q4, q5, by simpa using q9⟩
  have sz := q3.sz
  have fit : (t.put (way t.mask h 0)).1.fits 1 = true := by
    have q9 : (t.put (way t.mask h 0)).1.fill = 0 + 1 := q9
    simp only [SetTable.fits, Bool.and_eq_true, beq_iff_eq, decide_eq_true_eq]
    refine ⟨by simpa using sz, ?_⟩
    rw [q9, q4]
    have := T.mok.ge
    omega
  unfold layNew
  rw [fs]
  dsimp only
  have ei : SetTable.insertAt (#[] : Array (Int × Value)) (t.put (way t.mask h 0)).2 (h, v) = #[(h, v)] := by
    rw [q1]
    have : (SetTable.insertAt (#[] : Array (Int × Value)) 0 (h, v)).toList = [(h, v)] := by rw [SetTable.toList_insertAt]; rfl
    cases e : SetTable.insertAt (#[] : Array (Int × Value)) 0 (h, v) with
    | mk l => rw [e] at this; rw [← this]
  rw [ei]
  show (_, SetTable.orStandIn _ 1, false, !(SetTable.fits _ 1)) = _
  unfold SetTable.orStandIn
  rw [fit]
  rfl
/-- None first -/
theorem addN_firstW (R : EwSet (hkE P w) s.heap a [] es ep t) {Q : Bool → Shared → Prop}
    (q : ∀ b h' es' ep' t', Heap.SameBut a s.heap h' → EwSet (hkE P w) h' a [(.none, none)] es' ep' t' → Q b { s with heap := h' }) : wpAny (model P w) A (setAddHashed a .none (hN P w)) Q E s := by
  obtain ⟨o, ho, hex, hd⟩ := R.at_
  have hr : es.toList = [] := R.rows
  have he : es = #[] := by cases es; simpa using hr
  subst he
  unfold setAddHashed
  refine wpAny_holding ?_
  rw [show (100000 : Nat) = 99999 + 1 from rfl, setAddHashedIn_succ]
  refine wpAny_bind (wpAny_setState_of ho hd R.fits ?_)
  dsimp only
  refine wp_if_pos (by simp [byScan, Value.scannable, scanBound]) ?_
  refine wpAny_bind ?_
  unfold setAddByScan
  refine wpAny_bind (wpAny_rule (wpAny_bind ?_))
  refine wpAny_of_eq (a := ScanMet.absent) rfl ?_
  obtain ⟨t1, hl, T1, m1, d1, f1⟩ := lay_firstW R.tab (hN P w) .none
  rw [hl]
  dsimp only
  have core : ∀ t2 : SetTable, TabW t2 [hN P w] → t2.mask = t.mask → t2.led = t.led → t2.fill = 1 → ∀ (B : Sem (Option Bool)),
      wpAny (model P w) A (storeSet a #[(hN P w, Value.none)] t2 >>= fun _ => if (!false && t2.tooFull) = true then B else pure (some true)) (fun r s' => wpAny (model P w) A (match r with | some added => pure added | none => setAddHashedIn a .none (hN P w) 99999) Q E s') E s := by
    intro t2 T2 m2 d2 f2 B
    refine wpAny_bind (wpAny_storeSet_of ho hd ?_ (by rw [sizeLine_eq]; show 1 ≤ _; omega))
    have nf : ¬ t2.tooFull = true := by
      unfold SetTable.tooFull
      rw [decide_eq_true_eq, f2, m2]
      have := R.tab.mok.ge
      omega
    refine wp_if_neg (by simp [nf]) (wpAny_pure (wpAny_pure (q true _ _ (ep + 1) t2 (Heap.SameBut.update ..) ⟨⟨_, store_at ho hd, ⟨hex.1, hex.2.1, hex.2.2⟩, rfl⟩, rfl, T2, by simp, fun p hp => ?_, by rw [d2]; exact R.led, ?_, by decide⟩)))
    · rw [List.mem_singleton.mp hp]; rfl
    · show 1 * 5 < _
      rw [m2]
      have := R.tab.mok.ge
      omega
  have c1 := core t1 T1 m1 d1 f1
  have c2 := core { t1 with plain := false } (tabW_flag T1 false) m1 d1 f1
  refine wpAny_bind (m := _) (show wpAny _ _ (pure ()) _ _ _ from wpAny_pure ?_)
  by_cases hpl : t1.plain = true
  · refine wp_if_pos hpl (wpAny_bind (wpAny_of_eq (a := true) rfl ?_))
    exact c1 _
  · refine wp_if_neg hpl (wpAny_bind (wpAny_pure ?_))
    exact c1 _
/-- adding, whatever stands there -/
theorem hk_addW (R : EwSet (hkE P w) s.heap a L es ep t) {v : Value} {k : HKey} (hx : hkIs P w s.heap k v) (hu : A.units < cLine) (hfew : L.length + 1 < 300) {Q : Bool → Shared → Prop}
    (q : ∀ b h' L' es' ep' t', Heap.SameBut a s.heap h' → EwSet (hkE P w) h' a L' es' ep' t' → (k ∈ L.map (·.2) → L' = L) → (k ∉ L.map (·.2) → L'.Perm ((v, k) :: L)) → Q b { s with heap := h' }) :
    wpAny (model P w) A (setAddHashed a v ((hkE P w).hash k)) Q E s := by
  by_cases hb : byScan v es = false
  · exact ew_add R hx hu hb hfew q
  have hb : byScan v es = true := by cases e : byScan v es with | true => rfl | false => exact absurd e hb
  unfold byScan at hb
  rw [Bool.and_eq_true, Bool.and_eq_true] at hb
  cases k with
  | some ks =>
    obtain ⟨b, rfl, _⟩ := hx
    cases hb.1.1
  | none =>
    have hv : v = .none := hx
    subst hv
    have all : ∀ p ∈ L, p = (Value.none, none) := fun p hp => by
      have hm : ((hkE P w).hash p.2, p.1) ∈ es.toList := by rw [R.rows]; exact List.mem_map.mpr ⟨p, hp, rfl⟩
      have h3 := hb.2
      rw [← Array.all_toList, List.all_eq_true] at h3
      have sc := h3 _ hm
      obtain ⟨u, j⟩ := p
      have hj : hkIs P w s.heap j u := R.els _ hp
      cases j with
      | none => have hj : u = .none := hj; rw [hj]
      | some js => obtain ⟨c, rfl, _⟩ := hj; cases sc
    match L, R, all, q with
    | [], R, _, q => exact addN_firstW R fun b h' es' ep' t' sb R' => q b h' _ es' ep' t' sb R' (fun z => by cases z) fun _ => List.Perm.refl _
    | [p], R, all, q =>
      have e := all p (by simp)
      subst e
      exact addN_sameW R (q false s.heap _ es ep t (Heap.SameBut.refl a s.heap) R (fun _ => rfl) fun z => absurd (by simp) z)
    | p :: p2 :: L, R, all, q =>
      have e := all p (by simp)
      have e2 := all p2 (by simp)
      subst e; subst e2
      have := R.uniq
      simp at this
end
end L2
namespace L2
open PySem PySem.Spec PyProof.Rows
section
variable {P : Program} {w : World} {A : Around} {E : Value → Shared → Prop} {s : Shared}
theorem EwSet.later {α : Type} [DecidableEq α] {κ : EK P w α} {h h' : Heap} {a : Addr} {L : List (Value × α)} {es : Array (Int × Value)} {ep : Nat} {t : SetTable} (R : EwSet κ h a L es ep t) (ha : ∀ o, h.get? a = some o → h'.get? a = some o) (he : ∀ p ∈ L, κ.is h' p.2 p.1) : EwSet κ h' a L es ep t := by
  obtain ⟨o, ho, r⟩ := R.at_
  exact ⟨⟨o, ha o ho, r⟩, R.rows, R.tab, R.uniq, he, R.led, R.room, R.few⟩
/-- an empty set -/
theorem hk_newW {h : Heap} {a : Addr} (ho : h.get? a = some (objS w)) : EwSet (hkE P w) h a [] #[] 0 (.fresh 0 0 (!w.params.followText "set-order")) := by
  refine ⟨⟨_, ho, ⟨rfl, rfl, rfl⟩, rfl⟩, rfl, ⟨List.Pairwise.nil, rfl, rfl, .inl (.inl rfl), (fun x hx => by cases hx), (fun i h j hi => by simp [ekHs] at hi)⟩, List.nodup_nil, (fun p hp => by cases hp), ?_, (show 0 * 5 < 7 * 3 by decide), by decide⟩
  show _ ∨ (!w.params.followText "set-order") = true
  cases w.params.followText "set-order"
  · exact .inr rfl
  · exact .inl rfl
/-- the loop of set.update -/
theorem hk_loopW {I : Addr} {fp wr : List Addr} {G : Array GenState → Array GenState → Prop} {Pv : Nat → Value → Prop} {St : Nat → Shared → Prop} {R : Result → Shared → Prop} {ks : List (Value × HKey)} {D : List HKey} {S : Addr} {h0 : Heap} {s0 : Shared}
    (W : WalksS P w A.in1 I fp wr G ks.length Pv St) (hS : S ∉ fp) (hD : ∀ p ∈ ks, p.2 ∈ D) (h64 : D.length < 299) (val : ∀ i v, Pv i v → ∃ p, ks[i]? = some p ∧ v = p.1)
    (els : ∀ p ∈ ks, hkIs P w h0 p.2 p.1) (nS : h0.get? S = none) (nw : ∀ b ∈ wr, h0.get? b = none) (hu : A.in1.units < cLine)
    (fin : ∀ s' L es ep t, Moved (S :: wr) G s0 s' → EwSet (hkE P w) s'.heap S L es ep t → HkGot ks ks.length L → (∀ b o, h0.get? b = some o → s'.heap.get? b = some o) → R (.ok (.ret .none)) s') :
    ∀ (r i : Nat) (s : Shared), ks.length - i = r → i ≤ ks.length → St i s → (∀ b o, h0.get? b = some o → s.heap.get? b = some o) → Moved (S :: wr) G s0 s → (∃ L es ep t, EwSet (hkE P w) s.heap S L es ep t ∧ HkGot ks i L) →
      codeAny (model P w) A (.builtin "set.update.loop" ⟨[.ref S, .ref I], []⟩) R s := by
  have Sw : S ∉ wr := fun z => hS (W.sub _ z)
  have up : ∀ {s s'}, Moved wr G s s' → Moved (S :: wr) G s s' := fun m => m.mono fun b hb => List.mem_cons_of_mem _ hb
  have stay : ∀ {s s' : Shared}, Moved wr G s s' → (∀ b o, h0.get? b = some o → s.heap.get? b = some o) → ∀ b o, h0.get? b = some o → s'.heap.get? b = some o := fun m k b o e =>
    m.heap b o (fun z => by rw [nw b z] at e; cases e) (k b o e)
  have elsL : ∀ {L i} {h : Heap}, HkGot ks i L → (∀ b o, h0.get? b = some o → h.get? b = some o) → ∀ p ∈ L, hkIs P w h p.2 p.1 := fun {L i h} g k p hp => (hkE P w).ext (els p (List.mem_of_mem_take (g.sub p hp))) k
  intro r
  induction r with
  | zero =>
    rintro i s hr hi st k0 mv ⟨L, es, ep, t, hs, g⟩
    have hi : i = ks.length := by omega
    subst hi
    refine codeAny_builtin F.entry_set_update_loop ?_
    rw [Around.under_plainId F.plain_set_update_loop _]
    refine wpAny_bind (W.done s _ _ st fun s' m => ?_)
    have k1 := stay m k0
    exact wpAny_pure (fin s' L es ep t (mv.trans W.gtrans (up m)) (hs.later (fun o e => m.heap S o Sw e) (elsL g k1)) g k1)
  | succ r ih =>
    rintro i s hr hi st k0 mv ⟨L, es, ep, t, hs, g⟩
    refine codeAny_builtin F.entry_set_update_loop ?_
    rw [Around.under_plainId F.plain_set_update_loop _]
    refine wpAny_bind (W.item i s _ _ (by omega) st fun v s' hv st' m => ?_)
    obtain ⟨p, hp, rfl⟩ := val i v hv
    have k1 := stay m k0
    have hs1 := hs.later (fun o e => m.heap S o Sw e) (elsL g k1)
    have hx : hkIs P w s'.heap p.2 p.1 := (hkE P w).ext (els p (List.mem_of_getElem? hp)) k1
    have few := g.few hs1.uniq hD
    refine wpAny_bind (wpAny_holding ?_)
    unfold setAdd
    refine wpAny_holding (wpAny_bind ((hkE P w).hs hu hx ?_))
    refine hk_addW (s := { s' with toks := s'.toks + (hkE P w).toks p.2 }) hs1 hx hu (by omega) fun b h' L' es' ep' t' sb hs2 c1 c2 => ?_
    refine wpAny_pure ⟨plainId_quiet F.plain_set_update_loop _, ih (i + 1) _ (by omega) (by omega) (W.frame _ s' _ _ st' (Nat.le_add_right _ _) fun b hb o e => ?_) (fun b o e => ?_) ?_ ⟨L', es', ep', t', hs2, g.step hp c1 c2⟩⟩
    · exact (sb.2 b fun z => hS (z ▸ hb)).trans e
    · exact (sb.2 b fun z => by subst z; rw [nS] at e; cases e).trans (k1 b o e)
    · refine mv.trans W.gtrans ((up m).trans W.gtrans ⟨fun b o hb e => (sb.2 b fun z => hb (by rw [z]; exact List.mem_cons_self)).trans e, W.grefl _, rfl, rfl, Nat.le_add_right _ _⟩)
end
end L2
namespace L2
open PySem PySem.Spec PyProof.Rows
section
variable {P : Program} {w : World} {A : Around} {E : Value → Shared → Prop} {s : Shared}
/-- the set's first step: its elements are put in -/
theorem hk_initW {l : Addr} {items : Array Value} {ks : List (Value × HKey)} {D : List HKey} (hh : A.handled = none) (hl : s.heap.IsList l items) (hit : items.toList = ks.map (·.1)) (els : ∀ p ∈ ks, hkIs P w s.heap p.2 p.1)
    (hD : ∀ p ∈ ks, p.2 ∈ D) (h64 : D.length < 299) (hu : A.units + 3 < cLine) {Q : PySem.Fin → Shared → Prop}
    (q : ∀ (h' : Heap) (tk : Nat) L es ep t, EwSet (hkE P w) h' s.heap.objs.size L es ep t → HkGot ks ks.length L → (∀ b o, s.heap.get? b = some o → h'.get? b = some o) → wpAny (model P w) A.in1 (ret Value.none) Q E { s with heap := h', toks := tk }) :
    wpAny (model P w) A.in1 (Builtin.«set.__init__» ⟨[.ref s.heap.objs.size, .ref l], []⟩) Q E { s with heap := s.heap.push (objS w) } := by
  have hsz : items.size = ks.length := by
    have z := congrArg List.length hit
    rw [Array.length_toList, List.length_map] at z
    exact z
  obtain ⟨ol, hol, hcl, nl, hdl⟩ := hl
  obtain ⟨ocls, odict, odata, oslots⟩ := ol
  simp only at hcl hdl
  subst hcl; subst hdl
  have hol1 : (s.heap.push (objS w)).get? l = some { cls := .type "list", dict := odict, data := .seq items nl, slots := oslots } := Heap.get?_push_of_some _ hol
  have hl1 : (s.heap.push (objS w)).IsList l items := ⟨_, hol1, rfl, nl, rfl⟩
  have hS1 : (s.heap.push (objS w)).get? s.heap.objs.size = some (objS w) := Heap.get?_push_size _ rfl
  have t1 := F.sub_list_set
  have t2 := F.sub_list_frozenset
  have t3 : (Value.type "list" == Value.type "dict") = false := by decide
  have hT : Shared.TypeIs { s with heap := s.heap.push (objS w) } (.ref s.heap.objs.size) "set" := ⟨_, hS1, rfl⟩
  unfold Builtin.«set.__init__» noKeywords Builtin.Frozenset.updateFrom
  generalize hPI : pyIter = PI
  wp_walk
  subst hPI
  refine wpAny_pyIter_list hl1 (wpAny_bind (wpAny_runValue ?_))
  have lt : l < s.heap.objs.size := Heap.lt_size hol
  have sz1 : (s.heap.push (objS w)).objs.size = s.heap.objs.size + 1 := Heap.size_push ..
  have hl2 : l ≠ (s.heap.push (objS w)).objs.size := by rw [sz1]; exact Nat.ne_of_lt (Nat.lt_succ_of_lt lt)
  have nin : s.heap.objs.size ∉ [(s.heap.push (objS w)).objs.size, l] := by
    rw [sz1]
    intro z
    rcases List.mem_cons.mp z with z | z
    · exact Nat.ne_of_lt (Nat.lt_succ_self _) z
    · exact Nat.ne_of_gt lt (List.mem_singleton.mp z)
  have hh2 : A.in1.in1.handled = none := by simp [hh]
  have two : ∀ {b o}, s.heap.get? b = some o → ((s.heap.push (objS w)).push { cls := .type "list_iterator", data := .fields #[.ref l, .int 0 0] }).get? b = some o := fun e => Heap.get?_push_of_some _ (Heap.get?_push_of_some _ e)
  have hS2 : ((s.heap.push (objS w)).push { cls := .type "list_iterator", data := .fields #[.ref l, .int 0 0] }).get? s.heap.objs.size = some (objS w) := Heap.get?_push_of_some _ hS1
  have W := (Walks.list (prog := P) (w := w) (A := A.in1.in1) hh2 _ l hl2 items).toS
  rw [hsz] at W
  refine hk_loopW (A := A.in1) (D := D) (s0 := { s with heap := (s.heap.push (objS w)).push { cls := .type "list_iterator", data := .fields #[.ref l, .int 0 0] } }) (h0 := s.heap) W nin hD h64 (fun i v hv => ?_) els (none_young (Nat.le_refl _)) (fun b hb => ?_) (by simp; omega) (fun s' L es ep t m hs g k => ?_) ks.length 0 _ (by omega) (Nat.zero_le _) ?_ (fun b o e => two e) ?_ ⟨[], #[], 0, _, hk_newW hS2, HkGot.zero ks⟩
  · have hv : items[i]? = some v := hv
    have z : (ks.map (·.1))[i]? = some v := by rw [← hit, Array.getElem?_toList]; exact hv
    rw [List.getElem?_map] at z
    cases e : ks[i]? with
    | none => rw [e] at z; cases z
    | some p => rw [e] at z; exact ⟨p, rfl, (Option.some.inj z).symm⟩
  · refine none_young ?_
    rw [List.mem_singleton.mp hb, sz1]
    exact Nat.le_succ _
  · obtain ⟨h', g', d', tk', os'⟩ := s'
    have eg : g' = s.gens := m.gens
    have ed : d' = s.drawn := m.drawn
    have eo : os' = s.os := m.os
    subst eg; subst ed; subst eo
    exact wpAny_pure (q h' tk' L es ep t hs g k)
  · exact ⟨⟨_, Heap.get?_push_size _ rfl, rfl, rfl⟩, hl1.push _⟩
  · exact ⟨fun _ _ _ e => e, rfl, rfl, rfl, Nat.le_refl _⟩
/-- set(xs) -/
theorem call_setHW {l : Addr} {items : Array Value} {ks : List (Value × HKey)} {D : List HKey} (hh : A.handled = none) (hl : s.heap.IsList l items) (hit : items.toList = ks.map (·.1)) (els : ∀ p ∈ ks, hkIs P w s.heap p.2 p.1)
    (hD : ∀ p ∈ ks, p.2 ∈ D) (h64 : D.length < 299) (hu : A.units + 8 < cLine) {Q : Value → Shared → Prop}
    (q : ∀ (h' : Heap) (tk : Nat) L es ep t, EwSet (hkE P w) h' s.heap.objs.size L es ep t → HkGot ks ks.length L → (∀ b o, s.heap.get? b = some o → h'.get? b = some o) → Q (.ref s.heap.objs.size) { s with heap := h', toks := tk }) :
    wpAny (model P w) A (call (.type "set") [.ref l]) Q E s := by
  obtain ⟨c, tl, mro⟩ := F.called_set.mro
  have made := F.called_set.made
  have subs := F.called_set.sub
  have noT := F.called_set.notType
  have can := F.called_set.canCreate
  have one := F.typeCall_set_1 (.ref l)
  refine wpAny_call (codeAny_of_tree ?_)
  show wpAny _ _ (callAny (.type "set") _) _ _ _
  refine wpAny_pure ⟨Code.quiet_builtin _ (by decide +kernel), codeAny_builtin F.entry_type_call ?_⟩
  rw [Around.under_plain (weight_type_call_type "set" [.ref l] []) rfl]
  repeat (any_goals (first | assumption | wp_step))
  refine codeAny_mono (code_set_led1 (.ref l) (E := E) (Q₁ := fun ob s1 => ob = .ref s.heap.objs.size ∧ s1 = { s with heap := s.heap.push (objS w) }) ⟨rfl, rfl⟩) fun r s1 hr => ?_
  cases r with
  | error e => exact hr
  | ok f =>
    cases f with
    | ret ob =>
      obtain ⟨rfl, rfl⟩ := hr
      have hT : Shared.TypeIs { s with heap := s.heap.push (objS w) } (.ref s.heap.objs.size) "set" := ⟨_, Heap.get?_push_size _ rfl, rfl⟩
      have li := F.called_set.init.lookup
      have bi := F.called_set.init.bind (.ref s.heap.objs.size)
      repeat (any_goals (first | assumption | wp_step))
      refine codeAny_mono (codeAny_call_builtin (R := wants (fun v s2 => v = .none ∧ ∃ h' tk L es ep t, s2 = { s with heap := h', toks := tk } ∧ EwSet (hkE P w) h' s.heap.objs.size L es ep t ∧ HkGot ks ks.length L ∧ ∀ b o, s.heap.get? b = some o → h'.get? b = some o) E)
        F.called_set.init.plain F.entry_set_init (check_set_init_1 hT ?_)) fun r2 s2 hr2 => ?_
      · refine hk_initW (A := A.in1) (s := s) (by simp [hh]) hl hit els hD h64 (by simp; omega) fun h' tk L es ep t a b c => ?_
        exact wpAny_pure ⟨rfl, h', tk, L, es, ep, t, rfl, a, b, c⟩
      · cases r2 with
        | error e => exact hr2
        | ok f2 =>
          cases f2 with
          | ret v =>
            obtain ⟨rfl, h', tk, L, es, ep, t, rfl, a, b, c⟩ := hr2
            repeat (any_goals (first | assumption | wp_step))
            exact q _ _ _ _ _ _ a b c
          | _ => exact hr2.elim
    | _ => exact hr.elim
end
end L2
end
section
set_option Elab.async false
set_option maxRecDepth 100000
set_option maxHeartbeats 6400000
set_option linter.all false
set_option autoImplicit false
/-! DLK40: sorted(set(xs)) of a list of None and tuples (up to 298 unlike ones) or of whole numbers -/
namespace L2
open PySem PySem.Spec PyProof.Rows
section
variable {P : Program} {w : World} {A : Around} {E : Value → Shared → Prop} {s : Shared} {a : Addr} {L : List (Value × HKey)} {es : Array (Int × Value)} {ep : Nat} {t : SetTable}
theorem sorted_setW (R : EwSet (hkE P w) s.heap a L es ep t) (hh : A.handled = none) (al : PySem.W.AllAlike (L.map fun b => hkP b.2)) (so : PySem.W.Sortable (L.map fun b => hkP b.2)) (hdp : ∀ b ∈ L, (hkP b.2).depth ≤ 3) (hu : A.units + 10 < cLine) {Q : Value → Shared → Prop}
    (q : ∀ s' p c (L' : List (Value × HKey)), (∀ b o, s.heap.get? b = some o → s'.heap.get? b = some o) → s'.gens = s.gens → s'.os = s.os → s.heap.objs.size ≤ p → L'.Perm L → L'.Pairwise (fun a b => PySem.W.dataLe false (fun b : Value × HKey => hkP b.2) a b = true) → s'.heap.get? p = some (seqObj "list" (List.toArray (L'.map (·.1))) c) → Q (.ref p) s') :
    wpAny (model P w) A (call (.builtin "sorted") [.ref a]) Q E s := by
  obtain ⟨o, ho, hex, hd⟩ := R.at_
  have hsz := R.size
  have few := R.few
  refine Calls.call_function_entry kind_sorted plain_sorted entry_sorted (args_sorted1 _) ?_
  unfold Builtin.«sorted»
  refine wpAny_bind (m := checkCount "sorted" 1 1 _) (wpAny_pure ?_)
  refine wpAny_bind (collect_set (A := A.in1) hh ⟨o, ho, hex.1, hd⟩ R.fits (by unfold scanBound; omega) R.tab.ris R.led fun s1 vs k1 hz g1 o1 pm => ?_)
  have e1 : es.toList.map (·.2) = L.map (·.1) := by rw [R.rows]; unfold ekRows; rw [List.map_map]; rfl
  rw [e1] at pm
  obtain ⟨M, rfl, pM⟩ := perm_unmap pm
  have lM : M.length = L.length := pM.length_eq
  refine wpAny_bind (wpAny_newList ?_ (by rw [sizeLine_eq, List.length_map]; omega))
  have new : (s1.heap.push (seqObj "list" (M.map (·.1)).toArray 0)).get? s1.heap.objs.size = some (seqObj "list" (M.map (·.1)).toArray 0) := Heap.get?_push_size _ rfl
  have rd : ∀ b ∈ M, Reads (s1.heap.push (seqObj "list" (M.map (·.1)).toArray 0)) b.1 (hkP b.2) [] := fun b hb => hk_reads ((hkE P w).ext (R.els b (pM.mem_iff.mp hb)) fun c u z => Heap.get?_push_of_some _ (k1 c u z))
  have sub : ∀ d ∈ M.map (fun b => hkP b.2), d ∈ L.map (fun b => hkP b.2) := fun d hd => (pM.map _).mem_iff.mp hd
  have al' : PySem.W.AllAlike (M.map fun b => hkP b.2) := fun d hd d' hd' => al d (sub d hd) d' (sub d' hd')
  have so' : PySem.W.Sortable (M.map fun b => hkP b.2) := so.imp (fun h d hd => h d (sub d hd)) fun h d hd => h d (sub d hd)
  refine wpAny_bind (wpAny_holding (PySem.W.list_sort_data (s := { s1 with heap := s1.heap.push (seqObj "list" (M.map (·.1)).toArray 0) }) (bs := M) (enc := fun b => hkP b.2) (R := fun v b => v = b.1) new (same_each M fun b _ => rfl)
    (same_each M fun b hb => ⟨[], rd b hb, List.not_mem_nil⟩) al' so' (by rw [sizeLine_eq]; omega) (fun b hb => ?_) fun out hl eo => ?_))
  · have := hdp b (pM.mem_iff.mp hb)
    show A.in1.units + 1 + (hkP b.2).depth < _
    simp
    omega
  have eo := each_same (f := fun b : Value × HKey => b.1) eo
  have pS := List.mergeSort_perm M (PySem.W.dataLe false fun b => hkP b.2)
  have sS : (M.mergeSort (PySem.W.dataLe false fun b => hkP b.2)).Pairwise (fun a b => PySem.W.dataLe false (fun b : Value × HKey => hkP b.2) a b = true) := PySem.W.sort_pairwise (PySem.W.sortLe_total _ false _) M
  generalize M.mergeSort (PySem.W.dataLe false fun b => hkP b.2) = S at eo pS sS
  subst eo
  obtain ⟨c, hc⟩ := sortedHeap_at (vs := M.map (·.1)) (out := List.toArray (S.map fun b => b.1)) new
  refine wpAny_pure ⟨_, rfl, q _ s1.heap.objs.size c S (fun b u e => ?_) g1 o1 hz (pS.trans pM) sS hc⟩
  have z := k1 b u e
  have hlt := Heap.lt_size z
  show (sortedHeap (s1.heap.push (seqObj "list" (M.map (·.1)).toArray 0)) s1.heap.objs.size (M.map (·.1)) _).get? b = some u
  rw [sortedHeap_old (Nat.ne_of_lt hlt) (by rw [Heap.size_push]; exact Nat.lt_succ_of_lt hlt)]
  exact Heap.get?_push_of_some _ z
end
end L2
namespace L2
open PySem PySem.Spec PyProof.Rows
def vo : Value → V
  | .ref a => .ref a
  | _ => .non
section
variable {X : Cx} {pins : List (Addr × Obj)} {σ : St} {H : Hp} {s : Shared}
theorem vo_hk {K : PySem.W.Frag} {k : HKey} {v : V} {u : Value} (h : hkV K H k v) (r : RelV v u) : vo u = v ∧ RelV (vo u) u := by
  cases k with
  | none =>
    have h : v = .non := h
    subst h
    have r : u = .none := r
    subst r
    exact ⟨rfl, rfl⟩
  | some ks =>
    obtain ⟨c, rfl, _⟩ := h
    have r : u = .ref c := r
    subst r
    exact ⟨rfl, rfl⟩
theorem Inv.hks2 (I : Inv X pins σ H s) : ∀ {ks : List (V × HKey)} {us : List Value}, Vals (ks.map (·.1)) us → (∀ p ∈ ks, hkV X.K H p.2 p.1) →
    ∃ qs : List (Value × HKey), us = qs.map (·.1) ∧ qs.map (·.2) = ks.map (·.2) ∧ (∀ p ∈ qs, hkIs X.prog X.w s.heap p.2 p.1) ∧ ∀ p ∈ qs, (vo p.1, p.2) ∈ ks ∧ RelV (vo p.1) p.1
  | [], _, .nil, _ => ⟨[], rfl, rfl, (fun p hp => by cases hp), fun p hp => by cases hp⟩
  | k :: ks, u :: us, .cons r t, h => by
    obtain ⟨qs, e1, e2, e3, e4⟩ := I.hks2 t fun p hp => h p (List.mem_cons_of_mem _ hp)
    have hk := h k List.mem_cons_self
    obtain ⟨v1, v2⟩ := vo_hk hk r
    refine ⟨(u, k.2) :: qs, by rw [List.map_cons, ← e1], by rw [List.map_cons, List.map_cons, e2], fun p hp => ?_, fun p hp => ?_⟩
    · rcases List.mem_cons.mp hp with rfl | hp
      · exact I.hk hk r
      · exact e3 p hp
    · rcases List.mem_cons.mp hp with rfl | hp
      · refine ⟨?_, v2⟩
        show (vo u, k.2) ∈ _
        rw [v1]
        exact List.mem_cons_self
      · exact ⟨List.mem_cons_of_mem _ (e4 p hp).1, (e4 p hp).2⟩
theorem vo_vals {ks : List (V × HKey)} : ∀ {qs : List (Value × HKey)}, (∀ p ∈ qs, (vo p.1, p.2) ∈ ks ∧ RelV (vo p.1) p.1) → Vals (qs.map fun p => vo p.1) (qs.map (·.1))
  | [], _ => .nil
  | p :: qs, h => .cons (h p List.mem_cons_self).2 (vo_vals fun q hq => h q (List.mem_cons_of_mem _ hq))
theorem inv_listL {s' : Shared} {p : Addr} {xs : List V} {out : Array Value} {c : Nat} (I : Inv X pins σ H s) (k : ∀ b o, s.heap.get? b = some o → s'.heap.get? b = some o) (g : s'.gens = s.gens) (o : s'.os = s.os)
    (hp : s.heap.objs.size ≤ p) (ho : s'.heap.get? p = some (seqObj "list" out c)) (hl : xs.length ≤ sizeLine) (hv : Vals xs out.toList) : Inv X pins σ (upd H p (.lst xs)) s' := by
  have hn : H p = none := I.hok.fresh hp
  have J : Inv X pins σ (upd H p (.lst xs)) { s with heap := s'.heap, gens := s'.gens, drawn := s'.drawn, toks := s'.toks } :=
    I.call (ch := []) (Un.laid k hp hn) (I.hok.laid k hp ⟨hl, out.toList, c, hv, ho⟩) (by rw [g]; exact I.bare) (fun _ z => nomatch z)
  obtain ⟨h1, g1, d1, t1, o1⟩ := s'
  obtain ⟨h2, g2, d2, t2, o2⟩ := s
  dsimp only at o J ⊢
  subst o
  exact J
/-- sorted(set(xs)): xs has None and tuples -/
def tSortSetW (K : PySem.W.Frag) (ta : TE) : TE := fun σ H Q => ta σ H fun x H1 => ∃ (l : Addr) (ks : List (V × HKey)) (D : List HKey), x = V.ref l ∧ SqL K H1 l (ks.map (·.1)) ∧ (∀ p ∈ ks, hkV K H1 p.2 p.1) ∧ (∀ p ∈ ks, p.2 ∈ D) ∧ D.length < 299 ∧
  PySem.W.AllAlike (ks.map fun p => hkP p.2) ∧ PySem.W.Sortable (ks.map fun p => hkP p.2) ∧ (∀ p ∈ ks, (hkP p.2).depth ≤ 3) ∧
  ∀ (L : List (V × HKey)) (p : Addr), (∀ q ∈ L, q ∈ ks) → (L.map (·.2)).Nodup → (∀ k, k ∈ L.map (·.2) ↔ k ∈ ks.map (·.2)) → L.Pairwise (fun a b => PySem.W.dataLt (hkP b.2) (hkP a.2) = false) → H1 p = none → Q (.ref p) (upd H1 p (.lst (L.map (·.1))))
theorem pe_sortSetW [DL.TabCtx] {a : Expr} {ta : TE} {p p2 q pos : Pos} (hc : X.calm = true) (hu : X.A.units + 64 < cLine) (hg : Gl X "sorted") (hm : X.mg "sorted" = none) (hg2 : Gl X "set") (hm2 : X.mg "set" = none) (ha : PE X a ta)
    (na : starEach [a] X.env = (false, eval a X.env) :: starEach [] X.env := by rfl) : PE X (.Call (.Name "sorted" p) [.Call (.Name "set" p2) [a] [] q] [] pos) (tSortSetW X.K ta) := by
  refine ⟨fun pins s σ H Q I h => Call_ (ld_blt I hg hm DL.bt_sorted (PyProof.Rows.callWith_builtin1 (PyProof.Rows.args_cons ?_ rfl) rfl rfl))⟩
  refine Call_ (ld_blt I hg2 hm2 PyProof.Rows.boot_set (PyProof.Rows.callWith_type1 (PyProof.Rows.args_cons (thn (ha.run pins s σ H _ I h) fun v s1 z => PyProof.Rows.args_nil ?_) na) na rfl))
  obtain ⟨x, H1, I1, r1, l, ks, D, rfl, hq, els, hD, h63, al, so, hdp, q1⟩ := z
  obtain rfl : v = Value.ref l := r1
  obtain ⟨its, rv, pl, hz⟩ := I1.list hq
  obtain ⟨qs, e1, e2, e3, e4⟩ := I1.hks2 rv els
  have m2 : ∀ p ∈ qs, p.2 ∈ D := fun p hp => by
    have : p.2 ∈ ks.map (·.2) := e2 ▸ List.mem_map_of_mem hp
    obtain ⟨z, hz, ez⟩ := List.mem_map.mp this
    exact ez ▸ hD z hz
  have ek : qs.map (fun p => hkP p.2) = ks.map fun p => hkP p.2 := by
    have := congrArg (List.map hkP) e2
    rw [List.map_map, List.map_map] at this
    exact this
  refine call_setHW (ks := qs) (D := D) (I1.ok.hd hc) pl.isList e1 e3 m2 h63 (by omega) fun h' tk L es ep t R g hk => PyProof.Rows.args_nil ?_
  have I2 : Inv X pins σ H1 { s1 with heap := h', toks := tk } := I1.kept hk
  have sub : ∀ p ∈ L, p ∈ qs := fun p hp => List.mem_of_mem_take (g.sub p hp)
  have subk : ∀ d ∈ L.map (fun p => hkP p.2), d ∈ ks.map (fun p => hkP p.2) := fun d hd => by
    obtain ⟨p, hp, rfl⟩ := List.mem_map.mp hd
    rw [← ek]
    exact List.mem_map.mpr ⟨p, sub p hp, rfl⟩
  have hdL : ∀ b ∈ L, (hkP b.2).depth ≤ 3 := fun b hb => by
    obtain ⟨p, hp, e⟩ := List.mem_map.mp (subk _ (List.mem_map.mpr ⟨b, hb, rfl⟩))
    rw [← e]
    exact hdp p hp
  refine sorted_setW (s := { s1 with heap := h', toks := tk }) R (I2.ok.hd hc) (fun d hd d' hd' => al d (subk d hd) d' (subk d' hd')) (so.imp (fun h d hd => h d (subk d hd)) fun h d hd => h d (subk d hd)) hdL (by omega) fun s' p c M k g2 o hp pM sM hg => ?_
  have eM : ∀ b ∈ M, (vo b.1, b.2) ∈ ks ∧ RelV (vo b.1) b.1 := fun b hb => e4 b (sub b (pM.mem_iff.mp hb))
  have lenM : (M.map fun b => vo b.1).length ≤ sizeLine := by
    have := R.few
    rw [List.length_map, pM.length_eq, sizeLine_eq]; omega
  have hn : H1 p = none := I2.hok.fresh hp
  have em2 : (M.map fun b => (vo b.1, b.2)).map (·.2) = M.map (·.2) := by rw [List.map_map]; rfl
  have em1 : (M.map fun b => (vo b.1, b.2)).map (·.1) = M.map fun b => vo b.1 := by rw [List.map_map]; rfl
  refine ⟨.ref p, _, inv_listL I2 k g2 o hp hg lenM (by rw [List.toList_toArray]; exact vo_vals eM), rfl, ?_⟩
  have := q1 (M.map fun b => (vo b.1, b.2)) p (fun q hq => ?_) ?_ (fun k => ?_) ?_ hn
  · rw [em1] at this; exact this
  · obtain ⟨b, hb, rfl⟩ := List.mem_map.mp hq
    exact (eM b hb).1
  · rw [em2]; exact ((pM.map (·.2)).nodup_iff).mpr R.uniq
  · rw [em2, (pM.map (·.2)).mem_iff, ← e2]
    constructor
    · intro hk
      obtain ⟨p, hp, rfl⟩ := List.mem_map.mp hk
      exact List.mem_map_of_mem (sub p hp)
    · intro hk
      obtain ⟨p, hp, rfl⟩ := List.mem_map.mp hk
      exact g.all p (by rw [List.take_length]; exact hp)
  · rw [List.pairwise_map]
    refine sM.imp fun {a b} h => ?_
    rw [PySem.W.dataLe_eq] at h
    simpa using h
end
end L2
namespace DL
open PySem PySem.Spec PyProof.Rows L2
variable [TabCtx]
/-- sorted(set(xs)): xs has None and tuples; D: those that may be there -/
def dSortSetW (t : DTE) : DTE := fun s R Q => t s R fun d R1 => ∃ (ks D : List HKey), lstOf R1 d = some (ks.map hkD) ∧ (∀ k ∈ ks, k ∈ D) ∧ D.length < 299 ∧ PySem.W.AllAlike (ks.map hkP) ∧ PySem.W.Sortable (ks.map hkP) ∧ (∀ k ∈ ks, (hkP k).depth ≤ 3) ∧
  ∀ L : List HKey, L.Nodup → (∀ k, k ∈ L ↔ k ∈ ks) → L.Pairwise (fun a b => PySem.W.dataLt (hkP b) (hkP a) = false) → Q (.lst (L.map hkD)) R1
section
variable {X : CxF} {a : Expr} {t : DTE} {p p2 q pos : Pos}
theorem dv_hk {K : PySem.W.Frag} {G : Hp} {k : HKey} {v : V} (h : hkV K G k v) : DV K G (hkD k) v := by
  cases k with
  | none =>
    have h : v = .non := h
    subst h
    exact .non
  | some ks =>
    obtain ⟨c, rfl, h⟩ := h
    refine .tup h ?_
    clear h
    induction ks with
    | nil => exact .nil
    | cons k ks ih => exact .cons (match k with | .inl i => .int i | .inr x => .str x) ih
theorem dvs_hk {K : PySem.W.Frag} {G : Hp} : ∀ {L : List (V × HKey)}, (∀ q ∈ L, hkV K G q.2 q.1) → DVs K G ((L.map (·.2)).map hkD) (L.map (·.1))
  | [], _ => .nil
  | q :: L, h => .cons (dv_hk (h q List.mem_cons_self)) (dvs_hk fun z hz => h z (List.mem_cons_of_mem _ hz))
theorem de_sortSetW (hc : X.calm = true) (hu : X.A.units + 64 < cLine) (hg : Gl X "sorted") (hm : X.mg "sorted" = none) (hg2 : Gl X "set") (hm2 : X.mg "set" = none) (ha : DE X a t)
    (na : starEach [a] X.env = (false, eval a X.env) :: starEach [] X.env := by rfl) : DE X (.Call (.Name "sorted" p) [.Call (.Name "set" p2) [a] [] q] [] pos) (dSortSetW t) := by
  obtain ⟨t0, a1, a2⟩ := ha
  refine ⟨_, pe_sortSetW hc hu hg hm hg2 hm2 a1 na, fun G sd s R H Qd Q sv rh q k => a2 G sd s R H _ _ sv rh q fun G1 R1 H1 d v e1 rh1 dv q1 => ?_⟩
  obtain ⟨ks, D, h1, h2, h3, al, so, hdp, q2⟩ := q1
  obtain ⟨l, vs, rfl, hl, dvs⟩ := lst_dv h1 rh1 dv
  obtain ⟨ps, e2, e3, e4⟩ := hks_dv dvs
  subst e2
  have ek : ps.map (fun p => hkP p.2) = ks.map hkP := by rw [← e3, List.map_map]; rfl
  refine ⟨l, ps, D, rfl, hl, fun p hp => hkV_same (fun _ _ h => rh1.g _ _ h) (e4 p hp), fun p hp => h2 _ (e3 ▸ List.mem_map_of_mem hp), h3, by rw [ek]; exact al, by rw [ek]; exact so, fun p hp => hdp _ (e3 ▸ List.mem_map_of_mem hp), fun L p els nd mem pw hn => ?_⟩
  rw [e3] at mem
  obtain ⟨s1, rh2⟩ := rh1.imm (o := .lst (L.map (·.1))) hn
  refine k _ R1 _ _ _ (e1.trans s1) rh2 (.lst upd_same (dvs_hk fun q hq => hkV_same s1.g (e4 q (els q hq)))) (q2 _ nd mem ?_)
  rw [List.pairwise_map]
  exact pw
end
end DL
namespace L2
open PySem PySem.Spec PyProof.Rows
section
variable {P : Program} {w : World} {A : Around} {E : Value → Shared → Prop} {s : Shared}
theorem setI_init {l : Addr} {items : Array Value} {ns : List Int} (hh : A.handled = none) (hl : s.heap.IsList l items) (hit : IntsAre items.toList ns) (hb : ns.length + 1 < scanBound) {Q : PySem.Fin → Shared → Prop}
    (q : ∀ (h' : Heap) (tk c : Nat), SetR w h' s.heap.objs.size (fun j => decide (j ∈ ns)) c → c ≤ ns.length → (∀ b o, s.heap.get? b = some o → h'.get? b = some o) → wpAny (model P w) A.in1 (ret Value.none) Q E { s with heap := h', toks := tk }) :
    wpAny (model P w) A.in1 (Builtin.«set.__init__» ⟨[.ref s.heap.objs.size, .ref l], []⟩) Q E { s with heap := s.heap.push (objS w) } := by
  have hisz : items.size = ns.length := by
    have q := IntsAre.length hit
    rw [Array.length_toList] at q
    exact q
  obtain ⟨ol, hol, hcl, nl, hdl⟩ := hl
  obtain ⟨ocls, odict, odata, oslots⟩ := ol
  simp only at hcl hdl
  subst hcl; subst hdl
  have hol1 : (s.heap.push (objS w)).get? l = some { cls := .type "list", dict := odict, data := .seq items nl, slots := oslots } := Heap.get?_push_of_some _ hol
  have hl1 : (s.heap.push (objS w)).IsList l items := ⟨_, hol1, rfl, nl, rfl⟩
  have hS1 : (s.heap.push (objS w)).get? s.heap.objs.size = some (objS w) := Heap.get?_push_size _ rfl
  have t1 := F.sub_list_set
  have t2 := F.sub_list_frozenset
  have t3 : (Value.type "list" == Value.type "dict") = false := by decide
  have hT : Shared.TypeIs { s with heap := s.heap.push (objS w) } (.ref s.heap.objs.size) "set" := ⟨_, hS1, rfl⟩
  unfold Builtin.«set.__init__» noKeywords Builtin.Frozenset.updateFrom
  generalize hPI : pyIter = PI
  wp_walk
  subst hPI
  refine wpAny_pyIter_list hl1 (wpAny_bind (wpAny_runValue ?_))
  have lt : l < s.heap.objs.size := Heap.lt_size hol
  have sz1 : (s.heap.push (objS w)).objs.size = s.heap.objs.size + 1 := Heap.size_push ..
  have hl2 : l ≠ (s.heap.push (objS w)).objs.size := by rw [sz1]; exact Nat.ne_of_lt (Nat.lt_succ_of_lt lt)
  have hSf : s.heap.objs.size ∉ [(s.heap.push (objS w)).objs.size, l] := by
    rw [sz1]
    intro z
    rcases List.mem_cons.mp z with z | z
    · exact Nat.ne_of_lt (Nat.lt_succ_self _) z
    · exact Nat.ne_of_gt lt (List.mem_singleton.mp z)
  have hh2 : A.in1.in1.handled = none := by simp [hh]
  have hval : ∀ (i : Nat) (v : Value), items[i]? = some v → ∃ k t, ns[i]? = some k ∧ v = .int k t := fun i v hv => by
    have hi : i < ns.length := by rw [← hisz]; exact (Array.getElem?_eq_some_iff.mp hv).1
    obtain ⟨t, e⟩ := PyProof.Rows.IntsAre.int_at hit i v (by rw [Array.getElem?_toList]; exact hv)
    refine ⟨ns[i], t, List.getElem?_eq_getElem hi, ?_⟩
    rw [e, List.getD_eq_getElem?_getD, List.getElem?_eq_getElem hi] <;> rfl
  have hS2 : ((s.heap.push (objS w)).push { cls := .type "list_iterator", data := .fields #[.ref l, .int 0 0] }).get? s.heap.objs.size = some { cls := .type "set", dict := none, data := .set #[] 0 (.fresh 0 0 (!w.params.followText "set-order")) } := Heap.get?_push_of_some _ hS1
  refine set_update_ints (A := A.in1) ((Walks.list (prog := P) (w := w) hh2 _ l hl2 items).toS) s.heap.objs.size hSf ns hisz hb hval (items.size - 0) 0 { s with heap := (s.heap.push (objS w)).push { cls := .type "list_iterator", data := .fields #[.ref l, .int 0 0] } } (by omega) (Nat.zero_le _)
    ⟨⟨_, Heap.get?_push_size _ rfl, rfl, rfl⟩, hl1.push _⟩ ?hS0 ?hR
  case hS0 => exact ⟨0, Nat.le_refl 0, setR_new_at hS2⟩
  intro s' c' hm hc' hS'
  obtain ⟨h', g2, d', tk', os'⟩ := s'
  have eg : g2 = s.gens := hm.gens
  have ed : d' = s.drawn := hm.drawn
  have eo : os' = s.os := hm.os
  subst eg; subst ed; subst eo
  rw [hisz] at hc'
  refine wpAny_pure (q h' tk' c' hS' hc' fun b o e => ?_)
  have hb0 : b < s.heap.objs.size := Heap.lt_size e
  exact hm.heap b o (by
    rw [sz1]
    simp only [List.mem_cons, List.mem_singleton, List.not_mem_nil, or_false, not_or]
    exact ⟨Nat.ne_of_lt hb0, Nat.ne_of_lt (Nat.lt_succ_of_lt hb0)⟩) (Heap.get?_push_of_some _ (Heap.get?_push_of_some _ e))
/-- set(xs) of whole numbers in a list -/
theorem call_setI {l : Addr} {items : Array Value} {ns : List Int} (hh : A.handled = none) (hl : s.heap.IsList l items) (hit : IntsAre items.toList ns) (hb : ns.length + 1 < scanBound) {Q : Value → Shared → Prop}
    (q : ∀ (h' : Heap) (tk c : Nat), SetR w h' s.heap.objs.size (fun j => decide (j ∈ ns)) c → c ≤ ns.length → (∀ b o, s.heap.get? b = some o → h'.get? b = some o) → Q (.ref s.heap.objs.size) { s with heap := h', toks := tk }) :
    wpAny (model P w) A (call (.type "set") [.ref l]) Q E s := by
  obtain ⟨c, tl, mro⟩ := F.called_set.mro
  have made := F.called_set.made
  have subs := F.called_set.sub
  have noT := F.called_set.notType
  have can := F.called_set.canCreate
  have one := F.typeCall_set_1 (.ref l)
  refine wpAny_call (codeAny_of_tree ?_)
  show wpAny _ _ (callAny (.type "set") _) _ _ _
  refine wpAny_pure ⟨Code.quiet_builtin _ (by decide +kernel), codeAny_builtin F.entry_type_call ?_⟩
  rw [Around.under_plain (weight_type_call_type "set" [.ref l] []) rfl]
  repeat (any_goals (first | assumption | wp_step))
  refine codeAny_mono (code_set_led1 (.ref l) (E := E) (Q₁ := fun ob s1 => ob = .ref s.heap.objs.size ∧ s1 = { s with heap := s.heap.push (objS w) }) ⟨rfl, rfl⟩) fun r s1 hr => ?_
  cases r with
  | error e => exact hr
  | ok f =>
    cases f with
    | ret ob =>
      obtain ⟨rfl, rfl⟩ := hr
      have hT : Shared.TypeIs { s with heap := s.heap.push (objS w) } (.ref s.heap.objs.size) "set" := ⟨_, Heap.get?_push_size _ rfl, rfl⟩
      have li := F.called_set.init.lookup
      have bi := F.called_set.init.bind (.ref s.heap.objs.size)
      repeat (any_goals (first | assumption | wp_step))
      refine codeAny_mono (codeAny_call_builtin (R := wants (fun v s2 => v = .none ∧ ∃ h' tk c, s2 = { s with heap := h', toks := tk } ∧ SetR w h' s.heap.objs.size (fun j => decide (j ∈ ns)) c ∧ c ≤ ns.length ∧ ∀ b o, s.heap.get? b = some o → h'.get? b = some o) E)
        F.called_set.init.plain F.entry_set_init (check_set_init_1 hT ?_)) fun r2 s2 hr2 => ?_
      · refine setI_init (A := A.in1) (s := s) (by simp [hh]) hl hit hb fun h' tk c a b d => ?_
        exact wpAny_pure ⟨rfl, h', tk, c, rfl, a, b, d⟩
      · cases r2 with
        | error e => exact hr2
        | ok f2 =>
          cases f2 with
          | ret v =>
            obtain ⟨rfl, h', tk, c, rfl, a, b, d⟩ := hr2
            repeat (any_goals (first | assumption | wp_step))
            exact q _ _ _ a b d
          | _ => exact hr2.elim
    | _ => exact hr.elim
end
theorem DLK40_vals : ∀ {us : List Value} {ns : List Int}, IntsAre us ns → Vals (ns.map V.int) us
  | _, _, .nil => .nil
  | _, _, .cons n t h => .cons ⟨t, rfl⟩ (DLK40_vals h)
section
variable {X : Cx}
theorem nodup_few : ∀ {ys D : List Int}, ys.Nodup → (∀ k ∈ ys, k ∈ D) → ys.length ≤ D.length
  | [], D, _, _ => Nat.zero_le _
  | y :: ys, D, nd, h => by
    obtain ⟨n1, n2⟩ := List.nodup_cons.mp nd
    have hy := h y List.mem_cons_self
    have := nodup_few (ys := ys) (D := D.erase y) n2 fun k hk => (List.mem_erase_of_ne (by rintro rfl; exact n1 hk)).mpr (h k (List.mem_cons_of_mem _ hk))
    rw [List.length_erase_of_mem hy] at this
    have := List.length_pos_of_mem hy
    rw [List.length_cons]
    omega
/-- sorted(set(xs)) of whole numbers; D: those that may be there -/
def tSortSetI (K : PySem.W.Frag) (ta : TE) : TE := fun σ H Q => ta σ H fun x H1 => ∃ (l : Addr) (ns D : List Int), x = V.ref l ∧ SqL K H1 l (ns.map V.int) ∧ ns.length ≤ 4000 ∧ (∀ k ∈ ns, k ∈ D) ∧ D.length < 64 ∧
  ∀ (ys : List Int) (p : Addr), ys.Pairwise (· < ·) → (∀ k, k ∈ ys ↔ k ∈ ns) → H1 p = none → Q (.ref p) (upd H1 p (.lst (ys.map V.int)))
theorem setR_count {P : Program} {w : World} {h : Heap} {a : Addr} {ns : List Int} {c : Nat} (R : SetR w h a (fun j => decide (j ∈ ns)) c) {D : List Int} (hD : ∀ k ∈ ns, k ∈ D) : c ≤ D.length := by
  obtain ⟨o, es, ep, t, ho, hex, hd, g, nd, hm, hb, hf, hn, hr, hl⟩ := R
  have := nodup_few nd fun k hk => hD k (by have := (hm k).mpr hk; simpa using this)
  rw [List.length_map, Array.length_toList] at this
  omega
theorem pe_sortSetI [DL.TabCtx] {a : Expr} {ta : TE} {p p2 q pos : Pos} (hc : X.calm = true) (hg : Gl X "sorted") (hm : X.mg "sorted" = none) (hg2 : Gl X "set") (hm2 : X.mg "set" = none) (ha : PE X a ta)
    (na : starEach [a] X.env = (false, eval a X.env) :: starEach [] X.env := by rfl) : PE X (.Call (.Name "sorted" p) [.Call (.Name "set" p2) [a] [] q] [] pos) (tSortSetI X.K ta) := by
  refine ⟨fun pins s σ H Q I h => Call_ (ld_blt I hg hm DL.bt_sorted (PyProof.Rows.callWith_builtin1 (PyProof.Rows.args_cons ?_ rfl) rfl rfl))⟩
  refine Call_ (ld_blt I hg2 hm2 PyProof.Rows.boot_set (PyProof.Rows.callWith_type1 (PyProof.Rows.args_cons (thn (ha.run pins s σ H _ I h) fun v s1 z => PyProof.Rows.args_nil ?_) na) na rfl))
  obtain ⟨x, H1, I1, r1, l, ns, D, rfl, hq, few, hD, h63, q1⟩ := z
  obtain rfl : v = Value.ref l := r1
  obtain ⟨its, rv, pl, hz⟩ := I1.list hq
  refine call_setI (ns := ns) (I1.ok.hd hc) pl.isList (by simpa using intsAre_of rv) (by unfold scanBound; omega) fun h' tk c R hc2 hk => PyProof.Rows.args_nil ?_
  have I2 : Inv X pins σ H1 { s1 with heap := h', toks := tk } := I1.kept hk
  have := setR_count (P := X.prog) R hD
  refine sorted_set (s := { s1 with heap := h', toks := tk }) R (I2.ok.hd hc) (by omega) fun s' p out c2 ys k g2 o hp hg hi pw mem hl => ?_
  have hn : H1 p = none := I2.hok.fresh hp
  exact ⟨.ref p, _, inv_listL I2 k g2 o hp hg (by rw [List.length_map, sizeLine_eq]; omega) (DLK40_vals hi), rfl, q1 ys p pw (fun k => by rw [mem k]; simp) hn⟩
end
end L2
namespace DL
open PySem PySem.Spec PyProof.Rows L2
variable [TabCtx]
/-- sorted(set(xs)) of whole numbers -/
def dSortSetI (t : DTE) : DTE := fun s R Q => t s R fun d R1 => ∃ (ns B : List Int), lstOf R1 d = some (ns.map D.int) ∧ ns.length ≤ 4000 ∧ (∀ k ∈ ns, k ∈ B) ∧ B.length < 64 ∧ ∀ ys : List Int, ys.Pairwise (· < ·) → (∀ k, k ∈ ys ↔ k ∈ ns) → Q (.lst (ys.map D.int)) R1
section
variable {X : CxF} {a : Expr} {t : DTE} {p p2 q pos : Pos}
theorem de_sortSetI (hc : X.calm = true) (hg : Gl X "sorted") (hm : X.mg "sorted" = none) (hg2 : Gl X "set") (hm2 : X.mg "set" = none) (ha : DE X a t)
    (na : starEach [a] X.env = (false, eval a X.env) :: starEach [] X.env := by rfl) : DE X (.Call (.Name "sorted" p) [.Call (.Name "set" p2) [a] [] q] [] pos) (dSortSetI t) := by
  obtain ⟨t0, a1, a2⟩ := ha
  refine ⟨_, pe_sortSetI hc hg hm hg2 hm2 a1 na, fun G sd s R H Qd Q sv rh q k => a2 G sd s R H _ _ sv rh q fun G1 R1 H1 d v e1 rh1 dv q1 => ?_⟩
  obtain ⟨ns, B, h1, h2, h3, h4, q2⟩ := q1
  obtain ⟨l, vs, rfl, hl, dvs⟩ := lst_dv h1 rh1 dv
  rw [dvs.ints] at hl
  refine ⟨l, ns, B, rfl, hl, h2, h3, h4, fun ys p pw mem hn => ?_⟩
  obtain ⟨s1, rh2⟩ := rh1.imm (o := .lst (ys.map V.int)) hn
  exact k _ R1 _ _ _ (e1.trans s1) rh2 (.lst upd_same (DVs.ofInts ys)) (q2 ys pw mem)
end
/-! ### sorted: a new list that may change -/
section
variable {X : CxF}
theorem cd_sortAR {k : Nat} (hr : Room k X.A) : CallD X (.builtin "sorted") (rd1 fun d R Q => ∃ xs : List D, lstOf R d = some xs ∧ D.plains xs = true ∧ PySem.W.AllAlike (D.pys xs) ∧ PySem.W.Sortable (D.pys xs) ∧ xs.length ≤ sizeLine ∧ (∀ x ∈ xs, x.py.depth ≤ 60) ∧
    (D.pys xs).Pairwise (fun a b => PySem.W.dataLt b a = false) ∧ ∀ p, R p = none → Q (.ref p) (put R p (.lst xs))) := ⟨_, cr_sortA, LRA.one fun G R H d v Qd Q rh dv ⟨xs, hx, hp, hal, hk, hz, hdp, hpw, q⟩ k => by
  obtain ⟨a, vs, rfl, s1, d1⟩ := lst_dv hx rh dv
  have hl : vs.length = (D.pys xs).length := by rw [pys_map, List.length_map, d1.length]
  refine ⟨a, vs, D.pys xs, rfl, s1, DpAll.same rh.g (d1.dp hp), hl, hal, hk, by rw [pys_map, List.length_map]; exact hz, fun y hy => ?_, hpw, fun p hn => ?_⟩
  · rw [pys_map] at hy
    obtain ⟨x, hx, rfl⟩ := List.mem_map.mp hy
    have := hdp x hx
    have := Room.c65 hr
    have e : X.X.A = X.A := rfl
    rw [e]
    omega
  · obtain ⟨S1, rh2⟩ := rh.new (ro := .lst xs) (o := .lst vs) hn ⟨_, rfl, d1⟩
    exact k _ _ _ _ _ S1 rh2 (.ref _) (q p (rh.free hn))⟩
theorem cd_sortedIR : CallD X (.builtin "sorted") (rd1 fun d R Q => ∃ xs : List Int, lstOf R d = some (xs.map D.int) ∧ xs.length < 64 ∧ ∀ ys : List Int, ys.Perm xs → ys.Pairwise (· ≤ ·) → ∀ p, R p = none → Q (.ref p) (put R p (.lst (ys.map D.int)))) :=
  ⟨_, cr_sorted, LRA.one fun G R H d v Qd Q rh dv ⟨xs, hx, hl, q⟩ k => by
  obtain ⟨a, vs, rfl, s1, d1⟩ := lst_dv hx rh dv
  rw [d1.ints] at s1
  refine ⟨a, xs, rfl, s1, hl, fun ys p hp hso hn => ?_⟩
  obtain ⟨S1, rh2⟩ := rh.new (ro := .lst (ys.map D.int)) (o := .lst (ys.map V.int)) hn ⟨_, rfl, DVs.ofInts ys⟩
  exact k _ _ _ _ _ S1 rh2 (.ref _) (q ys hp hso _ (rh.free hn))⟩
theorem md_clear : MtD X "list.clear" (fun x ds R Q => ∃ l xs, x = .ref l ∧ ds = [] ∧ R l = some (.lst xs) ∧ Q .non (put R l (.lst []))) := ⟨_, mt_clear, fun G R H x vs d ds Qd Q rh dv dvs ⟨l, xs, hx, hy, hl, q⟩ k => by
  subst hx; subst hy; cases dv
  cases dvs
  obtain ⟨us, h1, h2⟩ := rh.lst hl
  obtain ⟨s1, rh2⟩ := rh.chg (ro := .lst []) (o := .lst []) hl ⟨_, rfl, .nil⟩
  exact ⟨l, us, rfl, rfl, h1, k _ _ _ _ _ s1 rh2 .non q⟩⟩
end
end DL
end
section
set_option Elab.async false
set_option maxRecDepth 100000
set_option maxHeartbeats 4000000
set_option linter.all false
set_option autoImplicit false
namespace Law
open PySem PySem.Spec PyProof.Rows L2 DL TL TrA TrA.Tr
def top (i : Nat) : Stmt := PySem.Challenge.pw_eitherside_k47_steps_and_ends.main.body.getD i (.Pass ⟨0, 0, 0, 0⟩)
abbrev bl : List Str := ["len", "isinstance", "repr", "abs", "max", "min", "sorted", "any", "all", "int", "str", "tuple", "list", "set", "bool", "range", "dict", "enumerate", "zip", "sum", "ValueError", "KeyError", "TypeError", "LookupError", "IndexError", "ArithmeticError", "RuntimeError"]
section
variable [TabCtx] {P : Program} {w : World} {K : KB} {mg : Str → Option Value} {base : Heap} {f : Addr} {fd : FuncData}
abbrev s_law_bag : Stmt := top 24
abbrev n_law_bag : List Str := ["_law_script", "_law_at", "_law_cell", "_law_digits"]
theorem sc_law_bag : FnScope n_law_bag ["_law_script", "_law_at"] (defScope s_law_bag) := ⟨rfl, rfl, rfl, by decide +kernel, rfl, by decide +kernel, by decide +kernel⟩
/-- a bag: three numbers, from which at most n were taken -/
def Bag (n : Nat) (R : Rs) (b : Addr) : Prop := ∃ x y z : Int, R b = some (.lst [.int x, .int y, .int z]) ∧ 0 ≤ x ∧ 0 ≤ y ∧ y < 2305843009213693951 ∧ 0 ≤ z ∧ z ≤ n
theorem Bag.mono {n m : Nat} {R : Rs} {b : Addr} (h : Bag n R b) (k : n ≤ m) : Bag m R b := by
  obtain ⟨x, y, z, h1, h2, h3, h4, h5, h6⟩ := h
  exact ⟨x, y, z, h1, h2, h3, h4, h5, by omega⟩
def spBag : DSp := fun ds R Q _ => ∃ (ns : List Int) (i : Int), ds = [.rls (ns.map D.int), .int i] ∧ 0 ≤ i ∧ i < 64 ∧ ∀ (b : Addr) (o : RO), R b = none → Bag 0 (put R b o) b → Q (.ref b) (put R b o)
theorem ok_bag (F : Fun K "_law_bag" "_law_bag" s_law_bag f fd) (Z : Blt mg bl) : FnG P w K mg base CX0 1 f fd ["_law_script", "_law_at"] (spOf K spBag) := by
  refine okD F sc_law_bag (fun ds R Q E h => by obtain ⟨ns, i, rfl, _⟩ := h; rfl) fun cdv A outer s H E gd hr => ?_
  refine ⟨_, (dss_cons (ds_asg (de_if (dt_cmp od_lt (dv 1) (de_callB cd_len (by rfl) (Z _ (by decide)) bt_len (da_cons (dv 0) da_nil)) (nomark _)) (de_ix xd_seq (dv 0) (dv 1) (fun _ _ => rfl)) de_int) (dg_name (i := 2) sc_law_bag.nd rfl (.inl rfl)))
    (dss_cons (ds_asg (de_if (dt_cmp od_ge (de_callB cd_abs (by rfl) (Z _ (by decide)) bt_abs (da_cons (dv 2) da_nil)) (de_op od_pow de_int de_int) (nomark _)) (de_callB cd_abs (by rfl) (Z _ (by decide)) bt_abs (da_cons (dv 2) da_nil)) de_int) (dg_name (i := 3) sc_law_bag.nd rfl (.inl rfl)))
    (dss_one (ds_ret (de_lst (da_cons (dv 3) (da_cons (de_op od_mod (de_op od_mul (de_op od_add (de_op od_add (de_op od_mod (dv 2) de_int) (de_op od_mul de_int (dv 1))) de_int) de_int) de_int) (da_cons de_int da_nil)))))))), fun ds R Qd Ed h => ?_⟩
  obtain ⟨ns, i, rfl, h0, h1, q⟩ := h
  simp only [dSeq, dGetK, rdInK, dGetT, dInT, rdSetK, dNewK, dDcF, dDc2F, dIEnum, dIZip, dISeq, dStar, dCont, dBrk, dOrT, rdInC, dCallK, dCVal, dMeth, dFld, dSetF, dNewF, dNew0F, dDisp, dPairs, dGet2, dGIndex, DL.keyOf, DL.keysOf, dCallL, dLam, dJoin, dJs, dFmtS, dRepl, dRaise, dCallX, dDelTail, dAugL, dXF, dAsg, dIf, dIfS, dB, dAnd, dOr, dNot, dAndV, dOrV, dNotV, dChain, dOp, dUn, dVar, dC, rdI0, rdI, dCB, dCall, rd1, dCons, dNil, dgName, dgSub, dgTup, dgLst, dSortSet, dgCons, dgNil, rdSetL, dRet, dLst, dLstF, dTup, dDrop, dNext, dPar, dBM, dBM0, dSl, dPart, dNoPart, dstart, dwipe, List.map_cons, List.map_nil, List.length_cons, List.length_nil, List.replicate_succ, List.replicate_zero, List.cons_append, List.nil_append, List.set_cons_zero, List.set_cons_succ, List.getElem?_cons_zero, List.getElem?_cons_succ, Nat.reduceAdd, Nat.reduceSub, Option.some.injEq, D.int.injEq, D.bl.injEq, D.str.injEq, D.ref.injEq, D.ty.injEq, D.tup.injEq, D.lst.injEq, D.rls.injEq, RO.lst.injEq, List.cons.injEq, exists_and_left, exists_eq_left', exists_eq_left, and_true, true_and, put_same, put_put, at0, at1, at2, ix30, ix31, ix32, and_assoc, dLcF, dLc, dLcT, dIRng1, dIRng2, dIRng3, dIStr, dITup, dILst, dYes, if_true, Bool.false_eq_true, if_false, eqS_ii, neS_ii, eqS_ss, neS_ss, decide_eq_true_eq, sq_tup, sq_lst, sq_rls, lo_lst, lo_rls, tr_lst, isi_tt, isi_st, isi_nt, isi_bt, isi_it, isi_lt, isi_ts, isi_ss, isi_ns, isi_bs, isi_is, isi_ls, List.append_nil, sz0, sz1, sz2, sz3, sz4, sz5, sz6, sl0, sl1, sl2, ty_put, ty_str, lo_put, sq_put, tr_put, reduceCtorEq, false_and, and_false, exists_false, or_false, false_or, Bool.not_false, Bool.not_true, List.isEmpty_nil, List.isEmpty_cons, app1_empty]
  have hfar : ∀ c : Int, 0 ≤ (if c < 0 then -c else c) := by intro c; split <;> omega
  have hi : (-(2 ^ 64) : Int) < i ∧ i < 2 ^ 64 := by omega
  have hm : ∀ a : Int, 0 ≤ a % 2305843009213693951 ∧ a % 2305843009213693951 < 2305843009213693951 := fun a => ⟨Int.emod_nonneg _ (by decide), Int.emod_lt_of_pos a (show (0 : Int) < 2305843009213693951 by decide)⟩
  have fi : ∀ (b : Addr) (x a : Int), 0 ≤ x → Bag 0 (put R b (.lst [.int x, .int (a % 2305843009213693951), .int 0])) b := fun b x a hx => ⟨x, _, 0, put_same, hx, (hm a).1, (hm a).2, by decide, by decide⟩
  split
  · rename_i hlt
    obtain ⟨c, hc, _⟩ := at_lt (l := ns) h0 (by simpa using hlt)
    refine ⟨_, at_map D.int hc, c, rfl, ⟨by decide, by decide, by decide⟩, ?_⟩
    by_cases hh : (10 : Int) ^ Int.toNat 18 ≤ if c < 0 then -c else c
    · rw [if_pos hh]
      exact ⟨c, rfl, c, rfl, by decide, .inr hi, .inr ⟨by decide, by decide⟩, by decide, fun p hp => fin (q p _ hp (fi _ _ _ (hfar c)))⟩
    · rw [if_neg hh]
      exact ⟨c, rfl, by decide, .inr hi, .inr ⟨by decide, by decide⟩, by decide, fun p hp => fin (q p _ hp (fi _ _ _ (Int.le_refl _)))⟩
  · refine ⟨⟨by decide, by decide, by decide⟩, ?_⟩
    rw [if_neg (by decide)]
    exact ⟨by decide, .inr hi, .inr ⟨by decide, by decide⟩, by decide, fun p hp => fin (q p _ hp (fi _ _ _ (Int.le_refl _)))⟩
theorem sum_lt {a z : Int} (h0 : 0 ≤ a) (h1 : a < 2305843009213693921) (h2 : 0 ≤ z ∧ z < 10000000000000000000) : (a + z).natAbs < 2 ^ 64 := by omega
abbrev s_law_take : Stmt := top 25
abbrev n_law_take : List Str := ["_law_bag_here", "_law_many", "_law_digit", "_law_mixed"]
theorem sc_law_take : FnScope n_law_take ["_law_bag_here", "_law_many"] (defScope s_law_take) := ⟨rfl, rfl, rfl, by decide +kernel, rfl, by decide +kernel, by decide +kernel⟩
def spTake : DSp := fun ds R Q _ => ∃ (b : Addr) (m : Int) (n : Nat), ds = [.ref b, .int m] ∧ Bag n R b ∧ n < 1000000000 ∧ 0 < m ∧ m < 1000000 ∧ ∀ (v : Int) (o : RO), 0 ≤ v → v < m → Bag (n + 1) (put R b o) b → Q (.int v) (put R b o)
theorem ok_take (F : Fun K "_law_take" "_law_take" s_law_take f fd) (Z : Blt mg bl) : FnG P w K mg base CX0 1 f fd ["_law_bag_here", "_law_many"] (spOf K spTake) := by
  refine okD F sc_law_take (fun ds R Q E h => by obtain ⟨b, m, n, rfl, _⟩ := h; rfl) fun cdv A outer s H E gd hr => ?_
  refine ⟨_, (dss_cons (ds_if (dt_cmp od_gt (de_ix xd_seq (dv 0) de_int (fun _ _ => rfl)) de_int (nomark _)) (dss_cons (ds_asg (de_op od_mod (de_ix xd_seq (dv 0) de_int (fun _ _ => rfl)) (dv 1)) (dg_name (i := 2) sc_law_take.nd rfl (.inl rfl)))
      (dss_cons (ds_asg (de_op od_fdiv (de_ix xd_seq (dv 0) de_int (fun _ _ => rfl)) (dv 1)) (dg_sub (dv 0) de_int dset_list))
      (dss_one (ds_ret (dv 2))))) dss_nil)
    (dss_cons (ds_asg (de_op od_add (de_ix xd_seq (dv 0) de_int (fun _ _ => rfl)) de_int) (dg_sub (dv 0) de_int dset_list))
    (dss_cons (ds_asg (de_op od_mod (de_op od_pow (de_op od_add (de_ix xd_seq (dv 0) de_int (fun _ _ => rfl)) (de_op od_mul de_int (de_ix xd_seq (dv 0) de_int (fun _ _ => rfl)))) de_int) de_int) (dg_name (i := 3) sc_law_take.nd rfl (.inl rfl)))
    (dss_cons (ds_asg (de_op od_mod (de_op od_pow (de_op od_add (dv 3) (de_op od_mul de_int (de_ix xd_seq (dv 0) de_int (fun _ _ => rfl)))) de_int) de_int) (dg_name (i := 3) sc_law_take.nd rfl (.inl rfl)))
    (dss_one (ds_ret (de_op od_mod (de_op od_fdiv (dv 3) de_int) (dv 1)))))))), fun ds R Qd Ed h => ?_⟩
  obtain ⟨b, m, n, rfl, ⟨x, y, z, hb, hx, hy, hy2, hz, hzn⟩, hn, h0, h1, q⟩ := h
  have hm : CDiv x m := ⟨h0, by omega⟩
  simp only [dSeq, dGetK, rdInK, dGetT, dInT, rdSetK, dNewK, dDcF, dDc2F, dIEnum, dIZip, dISeq, dStar, dCont, dBrk, dOrT, rdInC, dCallK, dCVal, dMeth, dFld, dSetF, dNewF, dNew0F, dDisp, dPairs, dGet2, dGIndex, DL.keyOf, DL.keysOf, dCallL, dLam, dJoin, dJs, dFmtS, dRepl, dRaise, dCallX, dDelTail, dAugL, dXF, dAsg, dIf, dIfS, dB, dAnd, dOr, dNot, dAndV, dOrV, dNotV, dChain, dOp, dUn, dVar, dC, rdI0, rdI, dCB, dCall, rd1, dCons, dNil, dgName, dgSub, dgTup, dgLst, dSortSet, dgCons, dgNil, rdSetL, dRet, dLst, dLstF, dTup, dDrop, dNext, dPar, dBM, dBM0, dSl, dPart, dNoPart, dstart, dwipe, List.map_cons, List.map_nil, List.length_cons, List.length_nil, List.replicate_succ, List.replicate_zero, List.cons_append, List.nil_append, List.set_cons_zero, List.set_cons_succ, List.getElem?_cons_zero, List.getElem?_cons_succ, Nat.reduceAdd, Nat.reduceSub, Option.some.injEq, D.int.injEq, D.bl.injEq, D.str.injEq, D.ref.injEq, D.ty.injEq, D.tup.injEq, D.lst.injEq, D.rls.injEq, RO.lst.injEq, List.cons.injEq, exists_and_left, exists_eq_left', exists_eq_left, and_true, true_and, put_same, put_put, at0, at1, at2, ix30, ix31, ix32, and_assoc, dLcF, dLc, dLcT, dIRng1, dIRng2, dIRng3, dIStr, dITup, dILst, dYes, if_true, Bool.false_eq_true, if_false, eqS_ii, neS_ii, eqS_ss, neS_ss, decide_eq_true_eq, sq_tup, sq_lst, sq_rls, lo_lst, lo_rls, tr_lst, isi_tt, isi_st, isi_nt, isi_bt, isi_it, isi_lt, isi_ts, isi_ss, isi_ns, isi_bs, isi_is, isi_ls, List.append_nil, sz0, sz1, sz2, sz3, sz4, sz5, sz6, sl0, sl1, sl2, ty_put, ty_str, lo_put, sq_put, tr_put, reduceCtorEq, false_and, and_false, exists_false, or_false, false_or, Bool.not_false, Bool.not_true, List.isEmpty_nil, List.isEmpty_cons, app1_empty, sq_ref hb, hb, sq_ref put_same]
  have bg : ∀ (x' : Int) (z' : Int), 0 ≤ x' → 0 ≤ z' → z' ≤ z + 1 → Bag (n + 1) (put R b (.lst [.int x', .int y, .int z'])) b := fun x' z' h1 h2 h3 => ⟨x', y, z', put_same, h1, hy, hy2, h2, by omega⟩
  split
  · refine ⟨h0, hm, fin (q _ _ (Int.emod_nonneg _ (by omega)) (Int.emod_lt_of_pos _ h0) (bg _ _ (Int.ediv_nonneg hx (by omega)) hz (by omega)))⟩
  · have hk : ∀ a : Int, 0 ≤ a % 2305843009213693921 ∧ a % 2305843009213693921 < 2305843009213693921 := fun a => ⟨Int.emod_nonneg _ (by decide), Int.emod_lt_of_pos a (by decide)⟩
    refine ⟨.inl ⟨by decide, by decide⟩, ⟨by decide, by decide, by omega⟩, by decide, .inl ⟨by decide, by decide⟩, ⟨by decide, by decide, ?_⟩, by decide, ⟨by decide, by decide⟩, h0, fin (q _ _ (Int.emod_nonneg _ (by omega)) (Int.emod_lt_of_pos _ h0) (bg _ _ hx (by omega) (Int.le_refl _)))⟩
    exact sum_lt (hk _).1 (hk _).2 (by omega)
theorem take_ok {n : Nat} {R : Rs} {b : Addr} {m : Int} {Q : DK} {E : DXK} (hb : Bag n R b) (hn : n < 1000000000) (h0 : 0 < m) (h1 : m < 1000000) (q : ∀ (v : Int) (o : RO), 0 ≤ v → v < m → Bag (n + 1) (put R b o) b → Q (.int v) (put R b o)) : spTake [.ref b, .int m] R Q E := ⟨b, m, n, rfl, hb, hn, h0, h1, q⟩
theorem Bag.self {n : Nat} {R : Rs} {b : Addr} (h : Bag n R b) : ∃ o, put R b o = R := by obtain ⟨x, y, z, e, _⟩ := h; exact ⟨_, put_self e⟩
end

end Law
end
section
set_option Elab.async false
set_option maxRecDepth 100000
set_option maxHeartbeats 4000000
set_option linter.all false
set_option autoImplicit false
namespace Law
open PySem PySem.Spec PyProof.Rows L2 DL TL TrA TrA.Tr
section
variable [TabCtx] {P : Program} {w : World} {K : KB} {mg : Str → Option Value} {base : Heap} {f : Addr} {fd : FuncData}
abbrev rsv : List Str := ["self", "other", "super", "raises"]
def letB (c : Nat) : Bool := decide (c ∈ tl abc)
def nmB (x : Str) : Bool := decide (1 ≤ x.length) && decide (x.length ≤ 6) && !decide (x ∈ rsv) && (tl x).all letB
/-- what is_class_name says of a value -/
def nmD : D → Bool
  | .str x => nmB x
  | _ => false
/-- a value of the kinds that laws hand in -/
def Vk : D → Bool
  | .non => true
  | .bl _ => true
  | .int _ => true
  | .str x => decide (x.length ≤ 2000)
  | .tup _ => true
  | .lst _ => true
  | _ => false
theorem nmB_len {x : Str} (h : nmB x = true) : x.length ≤ 6 := by
  unfold nmB at h
  simp only [Bool.and_eq_true, decide_eq_true_eq] at h
  exact h.1.1.2
theorem letB_let {c : Nat} (h : Let c) : letB c = true := by
  unfold letB
  rw [decide_eq_true_eq, tl_abc, List.mem_map]
  unfold Let at h
  exact ⟨c - 97, by rw [List.mem_range]; omega, by omega⟩
theorem letB_iff {c : Nat} : letB c = true ↔ Let c := by
  refine ⟨fun h => ?_, letB_let⟩
  unfold letB at h
  rw [decide_eq_true_eq, tl_abc, List.mem_map] at h
  obtain ⟨k, hk, rfl⟩ := h
  rw [List.mem_range] at hk
  exact ⟨by omega, by omega⟩
theorem nm_block {R : Rs} {x : Str} {Qd : DK} (hx : x.length ≤ 2000) (q : Qd (.bl (nmB x)) R) : x.length ≤ sizeLine ∧
    if 1 ≤ (x.length : Int) then
      if (!decide ((x.length : Int) ≤ 6)) = true then DL.Fin Qd (D.bl false) R
      else
        ∃ x_1, [D.str (Str.ofString "self"), D.str (Str.ofString "other"), D.str (Str.ofString "super"), D.str (Str.ofString "raises")] = List.map D.str x_1 ∧
            if x ∈ x_1 then DL.Fin Qd (D.bl false) R
            else
              (List.map (fun c => D.str { cps := #[c] }) x.cps.toList).length ≤ sizeLine ∧
                ∃ Pv : Nat → List D → Rs → Prop,
                  Pv 0 [] R ∧
                    (∀ (i : Nat) (acc : List D) (R : Rs), i ≤ (List.map (fun c => D.str { cps := #[c] }) x.cps.toList).length → Pv i acc R → True) ∧
                      (∀ (i : Nat) (x_2 : D) (acc : List D) (R : Rs),
                          (List.map (fun c => D.str { cps := #[c] }) x.cps.toList)[i]? = some x_2 → acc.length ≤ i → Pv i acc R →
                                ∃ c, x_2 = D.str { cps := #[c] } ∧ Pv (i + 1) (acc ++ [D.bl (decide (c ∈ abc.cps.toList))]) R) ∧
                        ∀ (acc : List D) (R : Rs), acc.length ≤ (List.map (fun c => D.str { cps := #[c] }) x.cps.toList).length →
                            Pv (List.map (fun c => D.str { cps := #[c] }) x.cps.toList).length acc R → ∃ xs, acc = List.map D.bl xs ∧ DL.Fin Qd (D.bl (xs.all id)) R
    else DL.Fin Qd (D.bl false) R := by
  refine ⟨by rw [sizeLine_eq]; omega, ?_⟩
  have q1 : ∀ b : Bool, nmB x = b → DL.Fin Qd (.bl b) R := fun b e => by subst e; exact fin q
  have hl : (tl x).length = x.length := (DL.len_tl x).symm
  split
  · rename_i h1
    split
    · rename_i h6
      exact q1 false (by unfold nmB; rw [decide_eq_false (p := x.length ≤ 6) (by simp at h6; omega)]; simp)
    · rename_i h6
      refine ⟨rsv, rfl, ?_⟩
      split
      · rename_i hr
        exact q1 false (by unfold nmB; rw [decide_eq_true (p := x ∈ rsv) hr]; simp)
      · rename_i hr
        refine ⟨by rw [List.length_map, sizeLine_eq]; show (tl x).length ≤ _; omega, PvM (tl x) (fun c => .bl (letB c)) R, ⟨rfl, rfl⟩, fun _ _ _ _ _ => trivial, ?_, ?_⟩
        · rintro i y acc R' hy hl ⟨rfl, rfl⟩
          obtain ⟨v, rfl, hv, _, e⟩ := take_step hy
          exact ⟨v, rfl, PvM.go e⟩
        · rintro acc R' _ hp
          obtain ⟨rfl, rfl⟩ := hp.end (List.length_map _)
          refine ⟨(tl x).map letB, by rw [List.map_map]; rfl, q1 _ ?_⟩
          unfold nmB
          rw [decide_eq_true (p := 1 ≤ x.length) (by omega), decide_eq_true (p := x.length ≤ 6) (by simp at h6; omega), decide_eq_false hr, List.all_map]
          rfl
  · exact q1 false (by unfold nmB; rw [decide_eq_false (p := 1 ≤ x.length) (by omega)]; simp)
abbrev s_is_class_name : Stmt := top 10
abbrev n_is_class_name : List Str := ["value", "sign"]
theorem sc_is_class_name : FnScope n_is_class_name ["value"] (defScope s_is_class_name) := ⟨rfl, rfl, rfl, by decide +kernel, rfl, by decide +kernel, by decide +kernel⟩
def spIsName : DSp := fun ds R Q _ => ∃ d : D, ds = [d] ∧ Vk d = true ∧ Q (.bl (nmD d)) R
theorem ok_is_class_name (F : Fun K "is_class_name" "is_class_name" s_is_class_name f fd) (Z : Blt mg bl) (g_LETTERS : GC K mg "LETTERS" (.str abc)) (g_LONGEST_NAME : GC K mg "LONGEST_NAME" (.int 6)) (g_RESERVED : GC K mg "RESERVED" (.tup (rsv.map D.str))) : FnG P w K mg base CX0 1 f fd ["value"] (spOf K spIsName) := by
  refine okD F sc_is_class_name (fun ds R Q E h => by obtain ⟨d, rfl, _⟩ := h; rfl) fun cdv A outer s H E gd hr => ?_
  refine ⟨_, (dss_cons (ds_if (dw_or (dt_not (dt_val (de_callB cd_isi (by rfl) (Z _ (by decide)) bt_isi (da_cons (dv 0) (da_cons (de_ty (by rfl) (Z _ (by decide)) bt_str) da_nil))))) (dw_or (dt_not (dt_chain od_le od_le de_int (de_callB cd_lenS (by rfl) (Z _ (by decide)) bt_len (da_cons (dv 0) da_nil)) (de_glob g_LONGEST_NAME (by rfl)))) (dw_or1 (dt_cmp od_inS (dv 0) (de_glob g_RESERVED (by rfl)) (by with_unfolding_all rfl))))).dt (dss_one (ds_ret de_bl)) dss_nil)
    (dss_one (ds_ret (de_callB (cd_all rfl) (by rfl) (Z _ (by decide)) bt_all (da_cons (de_lcF (own := [("sign", 1)]) rfl sc_is_class_name.nd (lcd (di_str (dv 0)) (blkOk_by (N := n_is_class_name) (sc := defScope s_is_class_name) (by decide +kernel)) (fun _ _ _ _ _ => (dgw_name (i := 1) sc_is_class_name.nd rfl (.inl rfl))) (fun _ _ _ _ _ => dts_nil) (fun _ _ _ _ _ => (de_cmp od_inSign (dv 1) (de_glob g_LETTERS (by rfl)) (by with_unfolding_all rfl))))) da_nil))))), fun ds R Qd Ed h => ?_⟩
  obtain ⟨d, rfl, hv, q⟩ := h
  cases d with
  | ty _ => cases hv
  | ref _ => cases hv
  | rls _ => cases hv
  | ins _ _ _ => cases hv
  | dK _ _ => cases hv
  | dT _ _ => cases hv
  | lam _ => cases hv
  | str x =>
    have hx : x.length ≤ 2000 := by simpa [Vk] using hv
    simp only [rdInS, dSeq, dGetK, rdInK, dGetT, dInT, rdSetK, dNewK, dDcF, dDc2F, dIEnum, dIZip, dISeq, dStar, dCont, dBrk, dOrT, rdInC, dCallK, dCVal, dMeth, dFld, dSetF, dNewF, dNew0F, dDisp, dPairs, dGet2, dGIndex, DL.keyOf, DL.keysOf, dCallL, dLam, dJoin, dJs, dFmtS, dRepl, dRaise, dCallX, dDelTail, dAugL, dXF, dAsg, dIf, dIfS, dB, dAnd, dOr, dNot, dAndV, dOrV, dNotV, dChain, dOp, dUn, dVar, dC, rdI0, rdI, dCB, dCall, rd1, dCons, dNil, dgName, dgSub, dgTup, dgLst, dSortSet, dgCons, dgNil, rdSetL, dRet, dLst, dLstF, dTup, dDrop, dNext, dPar, dBM, dBM0, dSl, dPart, dNoPart, dstart, dwipe, List.map_cons, List.map_nil, List.length_cons, List.length_nil, List.replicate_succ, List.replicate_zero, List.cons_append, List.nil_append, List.set_cons_zero, List.set_cons_succ, List.getElem?_cons_zero, List.getElem?_cons_succ, Nat.reduceAdd, Nat.reduceSub, Option.some.injEq, D.int.injEq, D.bl.injEq, D.str.injEq, D.ref.injEq, D.ty.injEq, D.tup.injEq, D.lst.injEq, D.rls.injEq, RO.lst.injEq, List.cons.injEq, exists_and_left, exists_eq_left', exists_eq_left, and_true, true_and, put_same, put_put, at0, at1, at2, ix30, ix31, ix32, and_assoc, dLcF, dLc, dLcT, dIRng1, dIRng2, dIRng3, dIStr, dITup, dILst, dYes, if_true, Bool.false_eq_true, if_false, eqS_ii, neS_ii, eqS_ss, neS_ss, decide_eq_true_eq, sq_tup, sq_lst, sq_rls, lo_lst, lo_rls, tr_lst, isi_tt, isi_st, isi_nt, isi_bt, isi_it, isi_lt, isi_ts, isi_ss, isi_ns, isi_bs, isi_is, isi_ls, List.append_nil, sz0, sz1, sz2, sz3, sz4, sz5, sz6, sl0, sl1, sl2, ty_put, ty_str, lo_put, sq_put, tr_put, reduceCtorEq, false_and, and_false, exists_false, or_false, false_or, Bool.not_false, Bool.not_true, List.isEmpty_nil, List.isEmpty_cons, app1_empty]
    exact nm_block hx q
  | _ =>
    simp only [dSeq, dGetK, rdInK, dGetT, dInT, rdSetK, dNewK, dDcF, dDc2F, dIEnum, dIZip, dISeq, dStar, dCont, dBrk, dOrT, rdInC, dCallK, dCVal, dMeth, dFld, dSetF, dNewF, dNew0F, dDisp, dPairs, dGet2, dGIndex, DL.keyOf, DL.keysOf, dCallL, dLam, dJoin, dJs, dFmtS, dRepl, dRaise, dCallX, dDelTail, dAugL, dXF, dAsg, dIf, dIfS, dB, dAnd, dOr, dNot, dAndV, dOrV, dNotV, dChain, dOp, dUn, dVar, dC, rdI0, rdI, dCB, dCall, rd1, dCons, dNil, dgName, dgSub, dgTup, dgLst, dSortSet, dgCons, dgNil, rdSetL, dRet, dLst, dLstF, dTup, dDrop, dNext, dPar, dBM, dBM0, dSl, dPart, dNoPart, dstart, dwipe, List.map_cons, List.map_nil, List.length_cons, List.length_nil, List.replicate_succ, List.replicate_zero, List.cons_append, List.nil_append, List.set_cons_zero, List.set_cons_succ, List.getElem?_cons_zero, List.getElem?_cons_succ, Nat.reduceAdd, Nat.reduceSub, Option.some.injEq, D.int.injEq, D.bl.injEq, D.str.injEq, D.ref.injEq, D.ty.injEq, D.tup.injEq, D.lst.injEq, D.rls.injEq, RO.lst.injEq, List.cons.injEq, exists_and_left, exists_eq_left', exists_eq_left, and_true, true_and, put_same, put_put, at0, at1, at2, ix30, ix31, ix32, and_assoc, dLcF, dLc, dLcT, dIRng1, dIRng2, dIRng3, dIStr, dITup, dILst, dYes, if_true, Bool.false_eq_true, if_false, eqS_ii, neS_ii, eqS_ss, neS_ss, decide_eq_true_eq, sq_tup, sq_lst, sq_rls, lo_lst, lo_rls, tr_lst, isi_tt, isi_st, isi_nt, isi_bt, isi_it, isi_lt, isi_ts, isi_ss, isi_ns, isi_bs, isi_is, isi_ls, List.append_nil, sz0, sz1, sz2, sz3, sz4, sz5, sz6, sl0, sl1, sl2, ty_put, ty_str, lo_put, sq_put, tr_put, reduceCtorEq, false_and, and_false, exists_false, or_false, false_or, Bool.not_false, Bool.not_true, List.isEmpty_nil, List.isEmpty_cons, app1_empty]
    exact fin q
end

end Law
end
section
set_option Elab.async false
set_option maxRecDepth 100000
set_option maxHeartbeats 4000000
set_option linter.all false
set_option autoImplicit false
namespace Law
open PySem PySem.Spec PyProof.Rows L2 DL TL TrA TrA.Tr
section
variable [TabCtx] {P : Program} {w : World} {K : KB} {mg : Str → Option Value} {base : Heap} {f : Addr} {fd : FuncData}
abbrev s_law_names : Stmt := top 26
abbrev n_law_names : List Str := ["_law_bag_here", "_law_many", "_law_letters", "_law_first", "_law_pace", "_law_turn"]
theorem sc_law_names : FnScope n_law_names ["_law_bag_here", "_law_many"] (defScope s_law_names) := ⟨rfl, rfl, rfl, by decide +kernel, rfl, by decide +kernel, by decide +kernel⟩
def repQ (c k : Nat) : Str := Txt.mul ⟨#[97 + c]⟩ ((k : Nat) : Int)
theorem repQ_ok : ∀ c : Nat, c < 26 → ∀ k : Nat, k < 4 → 1 ≤ k → nmB (repQ c k) = true ∧ (repQ c k).length ≤ 3 ∧ (tl (repQ c k)).head? = some (97 + c) := by decide +kernel
theorem mulQ {c k : Nat} (h : k < 4) : PySem.MulOk ⟨#[97 + c]⟩ ((k : Nat) : Int) := mulOk_of 1 6 (by show (1 : Nat) ≤ 1; decide) (by omega) (by omega) (by decide) (by decide)
theorem letQ : ∀ c : Nat, c < 26 → atI (Str.ofString "abcdefghijklmnopqrstuvwxyz").cps.toList (c : Int) = some (97 + c) := by decide +kernel
/-- the names so far -/
def NsQ (a p : Nat) (ns : List Str) : Prop := ∀ (i : Nat) (x : Str), ns[i]? = some x → ∃ k : Nat, 1 ≤ k ∧ k < 4 ∧ x = repQ ((a + p * i) % 26) k
theorem NsQ.good {a p : Nat} {ns : List Str} (h : NsQ a p ns) : ∀ x ∈ ns, nmB x = true ∧ x.length ≤ 3 := fun x hx => by
  obtain ⟨i, hi⟩ := List.getElem?_of_mem hx
  obtain ⟨k, h1, h2, rfl⟩ := h i x hi
  have := repQ_ok ((a + p * i) % 26) (by omega) k h2 h1
  exact ⟨this.1, this.2.1⟩
theorem NsQ.nd {a p : Nat} {ns : List Str} (h : NsQ a p ns) (hp : p = 1 ∨ p = 3 ∨ p = 5 ∨ p = 7) (hl : ns.length ≤ 26) : ns.Nodup := by
  unfold List.Nodup
  refine List.pairwise_iff_getElem.mpr fun i j hi hj hij he => ?_
  have e1 : ns[i]? = some ns[i] := List.getElem?_eq_getElem hi
  have e2 : ns[j]? = some ns[i] := by rw [he]; exact List.getElem?_eq_getElem hj
  obtain ⟨k1, a1, a2, a3⟩ := h i _ e1
  obtain ⟨k2, b1, b2, b3⟩ := h j _ e2
  have c1 := (repQ_ok ((a + p * i) % 26) (by omega) k1 a2 a1).2.2
  have c2 := (repQ_ok ((a + p * j) % 26) (by omega) k2 b2 b1).2.2
  rw [← a3] at c1
  rw [← b3, c1] at c2
  have c3 := Option.some.inj c2
  rcases hp with rfl | rfl | rfl | rfl <;> omega
def PNsQ (R : Rs) (b : Addr) (n a p : Nat) (i : Nat) (acc : List D) (R' : Rs) : Prop := ∃ (ns : List Str) (o : RO), acc = ns.map D.str ∧ ns.length = i ∧ NsQ a p ns ∧ Bag (n + 2 + i) (put R b o) b ∧ R' = put R b o
def spNames : DSp := fun ds R Q _ => ∃ (b : Addr) (m n : Nat), ds = [.ref b, .int m] ∧ Bag n R b ∧ m ≤ 26 ∧ n < 999999000 ∧ ∀ (ns : List Str) (o : RO), ns.length = m → (∀ x ∈ ns, nmB x = true ∧ x.length ≤ 3) → ns.Nodup → Bag (n + 2 + m) (put R b o) b → Q (.lst (ns.map D.str)) (put R b o)
def MNsQ (R : Rs) (b : Addr) (m n : Nat) (s' : DSt) (R' : Rs) : Prop := ∃ (o : RO) (a p : Nat), a < 26 ∧ (p = 1 ∨ p = 3 ∨ p = 5 ∨ p = 7) ∧ Bag (n + 2) (put R b o) b ∧ R' = put R b o ∧ s' = [some (.ref b), some (.int m), some (.str "abcdefghijklmnopqrstuvwxyz"), some (.int a), some (.int p), none]
theorem ok_names (F : Fun K "_law_names" "_law_names" s_law_names f fd) (Z : Blt mg bl) (c_law_take : Cal P w K mg base 1 "_law_take" spTake) : FnG P w K mg base CX0 2 f fd ["_law_bag_here", "_law_many"] (spOf K spNames) := by
  refine okD F sc_law_names (fun ds R Q E h => by obtain ⟨b, m, n, rfl, _⟩ := h; rfl) fun cdv A outer s H E gd hr => ?_
  refine ⟨_, (dss_cut (ds_asg de_str (dg_name (i := 2) sc_law_names.nd rfl (.inr rfl)))
    (dss_cut (ds_asg (de_tup (da_cons (de_c c_law_take gd hr (by omega) (by rfl) (da_cons (dv 0) (da_cons de_int da_nil))) (da_cons (de_ix xd_seq (de_lstF (da_cons de_int (da_cons de_int (da_cons de_int (da_cons de_int da_nil))))) (de_c c_law_take gd hr (by omega) (by rfl) (da_cons (dv 0) (da_cons de_int da_nil))) (fun _ _ => rfl)) da_nil))) (dg_tup (n := 2) rfl (dgs_cons (dg_name (i := 3) sc_law_names.nd rfl (.inr rfl)) (dgs_cons (dg_name (i := 4) sc_law_names.nd rfl (.inr rfl)) dgs_nil))))
    (dss_one (ds_ret (de_lcF (own := [("_law_turn", 5)]) rfl sc_law_names.nd (lcd (di_range1 (by rfl) (Z _ (by decide)) (dv 1)) (blkOk_by (N := n_law_names) (sc := defScope s_law_names) (by decide +kernel)) (fun _ _ _ _ _ => (dgw_name (i := 5) sc_law_names.nd rfl (.inl rfl))) (fun _ _ _ _ _ => dts_nil) (fun _ _ _ _ _ => (de_op od_mulS (de_ix xd_str (dv 2) (de_op od_mod (de_op od_add (dv 3) (de_op od_mul (dv 4) (dv 5))) de_int) (fun _ _ => rfl)) (de_op od_add de_int (de_c c_law_take gd hr (by omega) (by rfl) (da_cons (dv 0) (da_cons de_int da_nil)))))))))))), fun ds R Qd Ed h => ?_⟩
  obtain ⟨b, m, n, rfl, hB, hm, hn, q⟩ := h
  refine (show dCut _ _ _ _ _ from ?_)
  refine ⟨fun s' R' => R' = R ∧ s' = [some (.ref b), some (.int m), some (.str "abcdefghijklmnopqrstuvwxyz"), none, none, none], ?_, ?_⟩
  · simp only [dSeq, dGetK, rdInK, dGetT, dInT, rdSetK, dNewK, dDcF, dDc2F, dIEnum, dIZip, dISeq, dStar, dCont, dBrk, dOrT, rdInC, dCallK, dCVal, dMeth, dFld, dSetF, dNewF, dNew0F, dDisp, dPairs, dGet2, dGIndex, DL.keyOf, DL.keysOf, dCallL, dLam, dJoin, dJs, dFmtS, dRepl, dRaise, dCallX, dDelTail, dAugL, dXF, dAsg, dIf, dIfS, dB, dAnd, dOr, dNot, dAndV, dOrV, dNotV, dChain, dOp, dUn, dVar, dC, rdI0, rdI, dCB, dCall, rd1, dCons, dNil, dgName, dgSub, dgTup, dgLst, dSortSet, dgCons, dgNil, rdSetL, dRet, dLst, dLstF, dTup, dDrop, dNext, dPar, dBM, dBM0, dSl, dPart, dNoPart, dstart, dwipe, List.map_cons, List.map_nil, List.length_cons, List.length_nil, List.replicate_succ, List.replicate_zero, List.cons_append, List.nil_append, List.set_cons_zero, List.set_cons_succ, List.getElem?_cons_zero, List.getElem?_cons_succ, Nat.reduceAdd, Nat.reduceSub, Option.some.injEq, D.int.injEq, D.bl.injEq, D.str.injEq, D.ref.injEq, D.ty.injEq, D.tup.injEq, D.lst.injEq, D.rls.injEq, RO.lst.injEq, List.cons.injEq, exists_and_left, exists_eq_left', exists_eq_left, and_true, true_and, put_same, put_put, at0, at1, at2, ix30, ix31, ix32, and_assoc, dLcF, dLc, dLcT, dIRng1, dIRng2, dIRng3, dIStr, dITup, dILst, dYes, if_true, Bool.false_eq_true, if_false, eqS_ii, neS_ii, eqS_ss, neS_ss, decide_eq_true_eq, sq_tup, sq_lst, sq_rls, lo_lst, lo_rls, tr_lst, isi_tt, isi_st, isi_nt, isi_bt, isi_it, isi_lt, isi_ts, isi_ss, isi_ns, isi_bs, isi_is, isi_ls, List.append_nil, sz0, sz1, sz2, sz3, sz4, sz5, sz6, sl0, sl1, sl2, ty_put, ty_str, lo_put, sq_put, tr_put, reduceCtorEq, false_and, and_false, exists_false, or_false, false_or, Bool.not_false, Bool.not_true, List.isEmpty_nil, List.isEmpty_cons, app1_empty]
  rintro s1 R1 ⟨rfl, rfl⟩
  refine (show dCut _ _ _ _ _ from ?_)
  refine ⟨MNsQ R1 b m n, ?_, ?_⟩
  · simp only [dSeq, dGetK, rdInK, dGetT, dInT, rdSetK, dNewK, dDcF, dDc2F, dIEnum, dIZip, dISeq, dStar, dCont, dBrk, dOrT, rdInC, dCallK, dCVal, dMeth, dFld, dSetF, dNewF, dNew0F, dDisp, dPairs, dGet2, dGIndex, DL.keyOf, DL.keysOf, dCallL, dLam, dJoin, dJs, dFmtS, dRepl, dRaise, dCallX, dDelTail, dAugL, dXF, dAsg, dIf, dIfS, dB, dAnd, dOr, dNot, dAndV, dOrV, dNotV, dChain, dOp, dUn, dVar, dC, rdI0, rdI, dCB, dCall, rd1, dCons, dNil, dgName, dgSub, dgTup, dgLst, dSortSet, dgCons, dgNil, rdSetL, dRet, dLst, dLstF, dTup, dDrop, dNext, dPar, dBM, dBM0, dSl, dPart, dNoPart, dstart, dwipe, List.map_cons, List.map_nil, List.length_cons, List.length_nil, List.replicate_succ, List.replicate_zero, List.cons_append, List.nil_append, List.set_cons_zero, List.set_cons_succ, List.getElem?_cons_zero, List.getElem?_cons_succ, Nat.reduceAdd, Nat.reduceSub, Option.some.injEq, D.int.injEq, D.bl.injEq, D.str.injEq, D.ref.injEq, D.ty.injEq, D.tup.injEq, D.lst.injEq, D.rls.injEq, RO.lst.injEq, List.cons.injEq, exists_and_left, exists_eq_left', exists_eq_left, and_true, true_and, put_same, put_put, at0, at1, at2, ix30, ix31, ix32, and_assoc, dLcF, dLc, dLcT, dIRng1, dIRng2, dIRng3, dIStr, dITup, dILst, dYes, if_true, Bool.false_eq_true, if_false, eqS_ii, neS_ii, eqS_ss, neS_ss, decide_eq_true_eq, sq_tup, sq_lst, sq_rls, lo_lst, lo_rls, tr_lst, isi_tt, isi_st, isi_nt, isi_bt, isi_it, isi_lt, isi_ts, isi_ss, isi_ns, isi_bs, isi_is, isi_ls, List.append_nil, sz0, sz1, sz2, sz3, sz4, sz5, sz6, sl0, sl1, sl2, ty_put, ty_str, lo_put, sq_put, tr_put, reduceCtorEq, false_and, and_false, exists_false, or_false, false_or, Bool.not_false, Bool.not_true, List.isEmpty_nil, List.isEmpty_cons, app1_empty]
    refine take_ok hB (by omega) (by decide) (by decide) fun a o h0 ha hB1 => take_ok hB1 (by omega) (by decide) (by decide) fun v o2 h2 hv hB2 => ?_
    rw [put_put] at hB2 ⊢
    obtain ⟨a, rfl⟩ := Int.eq_ofNat_of_zero_le h0
    obtain ⟨x, e1, hx, _⟩ := at_lt (l := [D.int 1, .int 3, .int 5, .int 7]) h2 hv
    simp only [List.mem_cons, List.not_mem_nil, or_false] at hx
    rcases hx with rfl | rfl | rfl | rfl
    · exact ⟨_, rfl, _, e1, o2, a, 1, by omega, by simp, hB2, rfl, rfl⟩
    · exact ⟨_, rfl, _, e1, o2, a, 3, by omega, by simp, hB2, rfl, rfl⟩
    · exact ⟨_, rfl, _, e1, o2, a, 5, by omega, by simp, hB2, rfl, rfl⟩
    · exact ⟨_, rfl, _, e1, o2, a, 7, by omega, by simp, hB2, rfl, rfl⟩
  rintro s2 R2 ⟨o, a, p, ha, hp, hB2, rfl, rfl⟩
  simp only [dSeq, dGetK, rdInK, dGetT, dInT, rdSetK, dNewK, dDcF, dDc2F, dIEnum, dIZip, dISeq, dStar, dCont, dBrk, dOrT, rdInC, dCallK, dCVal, dMeth, dFld, dSetF, dNewF, dNew0F, dDisp, dPairs, dGet2, dGIndex, DL.keyOf, DL.keysOf, dCallL, dLam, dJoin, dJs, dFmtS, dRepl, dRaise, dCallX, dDelTail, dAugL, dXF, dAsg, dIf, dIfS, dB, dAnd, dOr, dNot, dAndV, dOrV, dNotV, dChain, dOp, dUn, dVar, dC, rdI0, rdI, dCB, dCall, rd1, dCons, dNil, dgName, dgSub, dgTup, dgLst, dSortSet, dgCons, dgNil, rdSetL, dRet, dLst, dLstF, dTup, dDrop, dNext, dPar, dBM, dBM0, dSl, dPart, dNoPart, dstart, dwipe, List.map_cons, List.map_nil, List.length_cons, List.length_nil, List.replicate_succ, List.replicate_zero, List.cons_append, List.nil_append, List.set_cons_zero, List.set_cons_succ, List.getElem?_cons_zero, List.getElem?_cons_succ, Nat.reduceAdd, Nat.reduceSub, Option.some.injEq, D.int.injEq, D.bl.injEq, D.str.injEq, D.ref.injEq, D.ty.injEq, D.tup.injEq, D.lst.injEq, D.rls.injEq, RO.lst.injEq, List.cons.injEq, exists_and_left, exists_eq_left', exists_eq_left, and_true, true_and, put_same, put_put, at0, at1, at2, ix30, ix31, ix32, and_assoc, dLcF, dLc, dLcT, dIRng1, dIRng2, dIRng3, dIStr, dITup, dILst, dYes, if_true, Bool.false_eq_true, if_false, eqS_ii, neS_ii, eqS_ss, neS_ss, decide_eq_true_eq, sq_tup, sq_lst, sq_rls, lo_lst, lo_rls, tr_lst, isi_tt, isi_st, isi_nt, isi_bt, isi_it, isi_lt, isi_ts, isi_ss, isi_ns, isi_bs, isi_is, isi_ls, List.append_nil, sz0, sz1, sz2, sz3, sz4, sz5, sz6, sl0, sl1, sl2, ty_put, ty_str, lo_put, sq_put, tr_put, reduceCtorEq, false_and, and_false, exists_false, or_false, false_or, Bool.not_false, Bool.not_true, List.isEmpty_nil, List.isEmpty_cons, app1_empty]
  refine ⟨m, rfl, by omega, by rw [List.length_map, List.length_range]; simp only [sizeLine]; omega, PNsQ R1 b n a p, ⟨[], o, rfl, rfl, fun i x h => by simp at h, hB2, rfl⟩, fun _ _ _ _ _ => trivial, ?_, ?_⟩
  · rintro i x acc R' hx hlk ⟨ns, o1, rfl, hl, hns, hB, rfl⟩
    obtain ⟨rfl, hi⟩ := range_step hx
    refine ⟨i, rfl, .inr ⟨by omega, by omega⟩, by decide, by decide +kernel, 97 + (a + p * i) % 26, ?_, take_ok hB (by omega) (by decide) (by decide) fun v o3 h0 hv hB3 => ?_⟩
    · have := letQ ((a + p * i) % 26) (by omega)
      rw [← this]
      congr 1
    obtain ⟨v, rfl⟩ := Int.eq_ofNat_of_zero_le h0
    rw [put_put] at hB3 ⊢
    have ek : (1 + (v : Int)) = ((1 + v : Nat) : Int) := by omega
    refine ⟨_, rfl, ?_⟩
    rw [ek]
    refine ⟨mulQ (by omega), ns ++ [repQ ((a + p * i) % 26) (1 + v)], o3, by rw [List.map_append]; rfl, by rw [List.length_append, hl, List.length_singleton], fun j y hj => ?_, by rw [← Nat.add_assoc]; exact hB3, rfl⟩
    by_cases hji : j < ns.length
    · rw [List.getElem?_append_left hji] at hj
      exact hns j y hj
    · have hj2 := (List.getElem?_eq_some_iff.mp hj).1
      rw [List.length_append, List.length_singleton] at hj2
      have : j = ns.length := by omega
      subst this
      rw [List.getElem?_append_right (Nat.le_refl _)] at hj
      simp at hj
      exact ⟨1 + v, by omega, by omega, by rw [← hj, hl]⟩
  · rintro acc R' hlk ⟨ns, o1, rfl, hl, hns, hB, rfl⟩
    rw [List.length_map, List.length_range] at hl hB
    exact fin (q ns o1 hl hns.good (hns.nd hp (by omega)) hB)
end

end Law
end
section
set_option Elab.async false
set_option maxRecDepth 100000
set_option maxHeartbeats 4000000
set_option linter.all false
set_option autoImplicit false
namespace Law
open PySem PySem.Spec PyProof.Rows L2 DL TL TrA TrA.Tr
section
variable [TabCtx] {P : Program} {w : World} {K : KB} {mg : Str → Option Value} {base : Heap} {f : Addr} {fd : FuncData}
theorem iteT {c : Prop} [Decidable c] {a b : Prop} (h : c) (x : a) : if c then a else b := by rw [if_pos h]; exact x
theorem iteF {c : Prop} [Decidable c] {a b : Prop} (h : ¬ c) (x : b) : if c then a else b := by rw [if_neg h]; exact x
mutual
/-- data as laws hand them in -/
def gdB : D → Bool
  | .non => true
  | .bl _ => true
  | .int _ => true
  | .str x => decide (x.length ≤ 2000)
  | .tup xs => decide (xs.length ≤ 1000) && gdBs xs
  | .lst xs => decide (xs.length ≤ 1000) && gdBs xs
  | _ => false
def gdBs : List D → Bool
  | [] => true
  | x :: xs => gdB x && gdBs xs
end
theorem gdBs_all : ∀ xs : List D, gdBs xs = xs.all gdB
  | [] => rfl
  | x :: xs => by rw [gdBs, gdBs_all xs]; rfl
theorem gd_tup {xs : List D} (h : gdB (.tup xs) = true) : ∀ x ∈ xs, gdB x = true := by
  rw [gdB, Bool.and_eq_true, gdBs_all, List.all_eq_true] at h
  exact h.2
theorem gd_vk {d : D} (h : gdB d = true) : Vk d = true := by
  cases d <;> first | rfl | (simpa [gdB, Vk] using h) | (simp [gdB] at h)
def isTup : D → Bool
  | .tup _ => true
  | _ => false
def isStr : D → Bool
  | .str _ => true
  | _ => false
theorem isi_tup {d : D} {R : Rs} {Q : DK} (h : gdB d = true) : rdIsi kitB [d, .ty "tuple"] R Q ↔ Q (.bl (isTup d)) R := by
  cases d with
  | non => exact isi_nt
  | bl b => exact isi_bt
  | int i => exact isi_it
  | str x => exact isi_st
  | tup xs => exact isi_tt
  | lst xs => exact isi_lt
  | _ => simp [gdB] at h
theorem isi_str {d : D} {R : Rs} {Q : DK} (h : gdB d = true) : rdIsi kitB [d, .ty "str"] R Q ↔ Q (.bl (isStr d)) R := by
  cases d with
  | non => exact isi_ns
  | bl b => exact isi_bs
  | int i => exact isi_is
  | str x => exact isi_ss
  | tup xs => exact isi_ts
  | lst xs => exact isi_ls
  | _ => simp [gdB] at h
def oneOf (d : D) (xs : List Str) : Bool := match d with
  | .str x => decide (x ∈ xs)
  | _ => false
abbrev s_is_parts : Stmt := top 15
abbrev n_is_parts : List Str := ["value"]
theorem sc_is_parts : FnScope n_is_parts ["value"] (defScope s_is_parts) := ⟨rfl, rfl, rfl, by decide +kernel, rfl, by decide +kernel, by decide +kernel⟩
def partsB : D → Bool
  | .tup ps => decide (2 ≤ ps.length) && decide (ps.length ≤ 4)
  | _ => false
def spParts : DSp := fun ds R Q _ => ∃ d : D, ds = [d] ∧ gdB d = true ∧ Q (.bl (partsB d)) R
theorem ok_parts (F : Fun K "is_parts" "is_parts" s_is_parts f fd) (Z : Blt mg bl) (g_MOST_PARTS : GC K mg "MOST_PARTS" (.int 4)) : FnG P w K mg base CX0 1 f fd ["value"] (spOf K spParts) := by
  refine okD F sc_is_parts (fun ds R Q E h => by obtain ⟨d, rfl, _⟩ := h; rfl) fun cdv A outer s H E gd hr => ?_
  refine ⟨_, (dss_one (ds_ret (de_and (de_callB cd_isi (by rfl) (Z _ (by decide)) bt_isi (da_cons (dv 0) (da_cons (de_ty (by rfl) (Z _ (by decide)) bt_tuple) da_nil))) (de_one (de_chain od_le od_le de_int (de_callB cd_len (by rfl) (Z _ (by decide)) bt_len (da_cons (dv 0) da_nil)) (de_glob g_MOST_PARTS (by rfl))))))), fun ds R Qd Ed h => ?_⟩
  obtain ⟨d, rfl, hd, q⟩ := h
  simp only [dSeq, dGetK, rdInK, dGetT, dInT, rdSetK, dNewK, dDcF, dDc2F, dIEnum, dIZip, dISeq, dStar, dCont, dBrk, dOrT, rdInC, dCallK, dCVal, dMeth, dFld, dSetF, dNewF, dNew0F, dDisp, dPairs, dGet2, dGIndex, DL.keyOf, DL.keysOf, dCallL, dLam, dJoin, dJs, dFmtS, dRepl, dRaise, dCallX, dDelTail, dAugL, dXF, dAsg, dIf, dIfS, dB, dAnd, dOr, dNot, dAndV, dOrV, dNotV, dChain, dOp, dUn, dVar, dC, rdI0, rdI, dCB, dCall, rd1, dCons, dNil, dgName, dgSub, dgTup, dgLst, dSortSet, dgCons, dgNil, rdSetL, dRet, dLst, dLstF, dTup, dDrop, dNext, dPar, dBM, dBM0, dSl, dPart, dNoPart, dstart, dwipe, List.map_cons, List.map_nil, List.length_cons, List.length_nil, List.replicate_succ, List.replicate_zero, List.cons_append, List.nil_append, List.set_cons_zero, List.set_cons_succ, List.getElem?_cons_zero, List.getElem?_cons_succ, Nat.reduceAdd, Nat.reduceSub, Option.some.injEq, D.int.injEq, D.bl.injEq, D.str.injEq, D.ref.injEq, D.ty.injEq, D.tup.injEq, D.lst.injEq, D.rls.injEq, RO.lst.injEq, List.cons.injEq, exists_and_left, exists_eq_left', exists_eq_left, and_true, true_and, put_same, put_put, at0, at1, at2, ix30, ix31, ix32, and_assoc, dLcF, dLc, dLcT, dIRng1, dIRng2, dIRng3, dIStr, dITup, dILst, dYes, if_true, Bool.false_eq_true, if_false, eqS_ii, neS_ii, eqS_ss, neS_ss, decide_eq_true_eq, sq_tup, sq_lst, sq_rls, lo_lst, lo_rls, tr_lst, isi_tt, isi_st, isi_nt, isi_bt, isi_it, isi_lt, isi_ts, isi_ss, isi_ns, isi_bs, isi_is, isi_ls, List.append_nil, sz0, sz1, sz2, sz3, sz4, sz5, sz6, sl0, sl1, sl2, ty_put, ty_str, lo_put, sq_put, tr_put, reduceCtorEq, false_and, and_false, exists_false, or_false, false_or, Bool.not_false, Bool.not_true, List.isEmpty_nil, List.isEmpty_cons, app1_empty, isi_tup hd]
  cases d with
  | tup ps =>
    refine iteT rfl ⟨ps, rfl, ?_⟩
    have q : Qd (.bl (decide (2 ≤ ps.length) && decide (ps.length ≤ 4))) R := q
    by_cases h2 : 2 ≤ ps.length
    · rw [decide_eq_true h2, Bool.true_and] at q
      refine iteT (by omega) (fin ?_)
      rw [show decide ((ps.length : Int) ≤ 4) = decide (ps.length ≤ 4) from decide_eq_decide.mpr (by omega)]
      exact q
    · rw [decide_eq_false h2, Bool.false_and] at q
      exact iteF (by omega) (fin q)
  | _ => first | exact iteF (by simp [isTup]) (fin q) | (simp [gdB] at hd)
abbrev s_is_nested : Stmt := top 16
abbrev n_is_nested : List Str := ["value", "deep", "kind", "inner", "part"]
theorem sc_is_nested : FnScope n_is_nested ["value", "deep"] (defScope s_is_nested) := ⟨rfl, rfl, rfl, by decide +kernel, rfl, by decide +kernel, by decide +kernel⟩
def allT (p : D → Bool) : D → Bool
  | .tup ps => ps.all p
  | _ => false
/-- a pattern nested at most so deep -/
def isN : Nat → D → Bool
  | 0, _ => false
  | k + 1, d => match d with
    | .tup [.str x, e] => if x = "one" then nmD e else if x = "any" ∨ x = "row" then partsB e && allT (isN k) e else if x = "many" then isN k e else false
    | _ => false
theorem isN_str {k : Nat} {x : Str} {e : D} : isN (k + 1) (.tup [.str x, e]) = if x = "one" then nmD e else if x = "any" ∨ x = "row" then partsB e && allT (isN k) e else if x = "many" then isN k e else false := rfl
theorem isN_no {k : Nat} {d : D} (h : ∀ x e, d ≠ .tup [.str x, e]) : isN k d = false := by
  cases k with
  | zero => rfl
  | succ k =>
    unfold isN
    split
    · rename_i x e
      exact absurd rfl (h x e)
    · rfl
def spNest (n : Nat) : DSp := fun ds R Q _ => ∃ (d : D) (k : Nat), ds = [d, .int k] ∧ k < n ∧ gdB d = true ∧ Q (.bl (isN k d)) R
theorem step_nest {n : Nat} (F : Fun K "is_nested" "is_nested" s_is_nested f fd) (Z : Blt mg bl) (c_is_class_name : Cal P w K mg base 1 "is_class_name" spIsName) (c_is_parts : Cal P w K mg base 1 "is_parts" spParts) (c_is_nested : Cal P w K mg base (n + 2) "is_nested" (spNest n)) : FnG P w K mg base CX0 (n + 3) f fd ["value", "deep"] (spOf K (spNest (n + 1))) := by
  refine okD F sc_is_nested (fun ds R Q E h => by obtain ⟨d, k, rfl, _⟩ := h; rfl) fun cdv A outer s H E gd hr => ?_
  refine ⟨_, (dss_cons (ds_if (dw_or (dt_cmp od_eqS (dv 1) de_int (nomark _)) (dw_or (dt_not (dt_val (de_callB cd_isi (by rfl) (Z _ (by decide)) bt_isi (da_cons (dv 0) (da_cons (de_ty (by rfl) (Z _ (by decide)) bt_tuple) da_nil))))) (dw_or (dt_cmp od_neS (de_callB cd_len (by rfl) (Z _ (by decide)) bt_len (da_cons (dv 0) da_nil)) de_int (nomark _)) (dw_or1 (dt_not (dt_val (de_callB cd_isi (by rfl) (Z _ (by decide)) bt_isi (da_cons (de_ix xd_seq (dv 0) de_int (fun _ _ => rfl)) (da_cons (de_ty (by rfl) (Z _ (by decide)) bt_str) da_nil))))))))).dt (dss_one (ds_ret de_bl)) dss_nil)
    (dss_cons (ds_asg (dv 0) (dg_tup (n := 2) rfl (dgs_cons (dg_name (i := 2) sc_is_nested.nd rfl (.inl rfl)) (dgs_cons (dg_name (i := 3) sc_is_nested.nd rfl (.inl rfl)) dgs_nil))))
    (dss_cons (ds_match (dv 2) (McD.cons .val (dss_one (ds_ret (de_c c_is_class_name gd hr (by omega) (by rfl) (da_cons (dv 3) da_nil)))) (McD.cons (.or (.cons (.cons .nil))) (dss_one (ds_ret (de_and (de_c c_is_parts gd hr (by omega) (by rfl) (da_cons (dv 3) da_nil)) (de_one (de_callB (cd_all rfl) (by rfl) (Z _ (by decide)) bt_all (da_cons (de_lcF (own := [("part", 4)]) rfl sc_is_nested.nd (lcd (di_tup (dv 3)) (blkOk_by (N := n_is_nested) (sc := defScope s_is_nested) (by decide +kernel)) (fun _ _ _ _ _ => (dgw_name (i := 4) sc_is_nested.nd rfl (.inl rfl))) (fun _ _ _ _ _ => dts_nil) (fun _ _ _ _ _ => (de_c c_is_nested gd hr (by omega) (by rfl) (da_cons (dv 4) (da_cons (de_op od_sub (dv 1) de_int) da_nil)))))) da_nil)))))) (McD.cons .val (dss_one (ds_ret (de_c c_is_nested gd hr (by omega) (by rfl) (da_cons (dv 3) (da_cons (de_op od_sub (dv 1) de_int) da_nil))))) McD.nil))))
    (dss_one (ds_ret de_bl))))), fun ds R Qd Ed h => ?_⟩
  obtain ⟨d, k, rfl, hk, hd, q⟩ := h
  simp only [dSeq, dGetK, rdInK, dGetT, dInT, rdSetK, dNewK, dDcF, dDc2F, dIEnum, dIZip, dISeq, dStar, dCont, dBrk, dOrT, rdInC, dCallK, dCVal, dMeth, dFld, dSetF, dNewF, dNew0F, dDisp, dPairs, dGet2, dGIndex, DL.keyOf, DL.keysOf, dCallL, dLam, dJoin, dJs, dFmtS, dRepl, dRaise, dCallX, dDelTail, dAugL, dXF, dAsg, dIf, dIfS, dB, dAnd, dOr, dNot, dAndV, dOrV, dNotV, dChain, dOp, dUn, dVar, dC, rdI0, rdI, dCB, dCall, rd1, dCons, dNil, dgName, dgSub, dgTup, dgLst, dSortSet, dgCons, dgNil, rdSetL, dRet, dLst, dLstF, dTup, dDrop, dNext, dPar, dBM, dBM0, dSl, dPart, dNoPart, dstart, dwipe, List.map_cons, List.map_nil, List.length_cons, List.length_nil, List.replicate_succ, List.replicate_zero, List.cons_append, List.nil_append, List.set_cons_zero, List.set_cons_succ, List.getElem?_cons_zero, List.getElem?_cons_succ, Nat.reduceAdd, Nat.reduceSub, Option.some.injEq, D.int.injEq, D.bl.injEq, D.str.injEq, D.ref.injEq, D.ty.injEq, D.tup.injEq, D.lst.injEq, D.rls.injEq, RO.lst.injEq, List.cons.injEq, exists_and_left, exists_eq_left', exists_eq_left, and_true, true_and, put_same, put_put, at0, at1, at2, ix30, ix31, ix32, and_assoc, dLcF, dLc, dLcT, dIRng1, dIRng2, dIRng3, dIStr, dITup, dILst, dYes, if_true, Bool.false_eq_true, if_false, eqS_ii, neS_ii, eqS_ss, neS_ss, decide_eq_true_eq, sq_tup, sq_lst, sq_rls, lo_lst, lo_rls, tr_lst, isi_tt, isi_st, isi_nt, isi_bt, isi_it, isi_lt, isi_ts, isi_ss, isi_ns, isi_bs, isi_is, isi_ls, List.append_nil, sz0, sz1, sz2, sz3, sz4, sz5, sz6, sl0, sl1, sl2, ty_put, ty_str, lo_put, sq_put, tr_put, reduceCtorEq, false_and, and_false, exists_false, or_false, false_or, Bool.not_false, Bool.not_true, List.isEmpty_nil, List.isEmpty_cons, app1_empty, dMatch, dGoM, isi_tup hd]
  cases k with
  | zero => exact iteT rfl (fin q)
  | succ k =>
    refine iteF (by omega) ?_
    by_cases ht : isTup d = true
    rotate_left
    · have hf : isTup d = false := by simpa using ht
      rw [isN_no (fun x e z => by rw [z] at ht; exact ht rfl)] at q
      exact iteT (by rw [hf]; rfl) (fin q)
    obtain ⟨xs, rfl⟩ : ∃ xs, d = .tup xs := by cases d <;> first | exact ⟨_, rfl⟩ | cases ht
    refine iteF (by simp [isTup]) ⟨xs, rfl, ?_⟩
    have hgx := gd_tup hd
    by_cases hl : xs.length = 2
    rotate_left
    · rw [isN_no (fun x e z => by rw [D.tup.injEq] at z; rw [z] at hl; exact hl rfl)] at q
      exact iteT (by simp; omega) (fin q)
    obtain ⟨a, e, rfl⟩ : ∃ a e, xs = [a, e] := by
      match xs, hl with
      | [a, e], _ => exact ⟨a, e, rfl⟩
    refine iteF (by simp) ⟨_, rfl, _, at0, (isi_str (hgx a (by simp))).mpr ⟨_, rfl, ?_⟩⟩
    by_cases hs : isStr a = true
    rotate_left
    · have hf : isStr a = false := by simpa using hs
      rw [isN_no (fun x e2 z => by rw [D.tup.injEq, List.cons.injEq] at z; rw [z.1] at hs; exact hs rfl)] at q
      exact iteT (by rw [hf]; rfl) (fin q)
    obtain ⟨x, rfl⟩ : ∃ x, a = .str x := by cases a <;> first | exact ⟨_, rfl⟩ | cases hs
    have hge := hgx e (by simp)
    refine iteF (by simp [isStr]) ⟨_, rfl, rfl, _, _, rfl, _, _, rfl, rfl, x, rfl, ?_⟩
    rw [isN_str] at q
    by_cases h1 : x = "one"
    · rw [if_pos h1] at q
      exact iteT (by rw [h1]; simp) ⟨e, rfl, gd_vk hge, fin q⟩
    rw [if_neg h1] at q
    refine iteF (by simpa using h1) ?_
    by_cases h2 : x = "any" ∨ x = "row"
    · rw [if_pos h2] at q
      refine iteT (by simpa using h2) ⟨e, rfl, hge, _, rfl, ?_⟩
      have ek : (((k + 1 : Nat) : Int) - 1) = (k : Int) := by omega
      rw [ek]
      cases hp : partsB e with
      | false =>
        rw [hp, Bool.false_and] at q
        exact iteF (by decide) (fin q)
      | true =>
        rw [hp, Bool.true_and] at q
        obtain ⟨ps, rfl⟩ : ∃ ps, e = .tup ps := by cases e <;> first | exact ⟨_, rfl⟩ | cases hp
        have hpl : ps.length ≤ 4 := by
          unfold partsB at hp
          simp only [Bool.and_eq_true, decide_eq_true_eq] at hp
          exact hp.2
        have hgp := gd_tup hge
        refine iteT rfl ⟨ps, rfl, by simp only [sizeLine]; omega, PvM ps (fun d => .bl (isN k d)) R, ⟨rfl, rfl⟩, fun _ _ _ _ _ => trivial, ?_, ?_⟩
        · rintro i x acc R' hx hlk ⟨rfl, rfl⟩
          obtain ⟨hm, ht⟩ : x ∈ ps ∧ ps.take (i + 1) = ps.take i ++ [x] := ⟨List.mem_of_getElem? hx, by rw [List.take_add_one, hx]; rfl⟩
          exact ⟨x, k, rfl, by omega, hgp x hm, PvM.go (g := fun d => .bl (isN k d)) ht⟩
        · rintro acc R' hlk hv
          obtain ⟨rfl, rfl⟩ := hv.end rfl
          refine ⟨ps.map (isN k), by rw [List.map_map]; rfl, fin ?_⟩
          rw [show (ps.map (isN k)).all id = ps.all (isN k) by rw [List.all_map]; rfl]
          exact q
    rw [if_neg h2] at q
    refine iteF (by simpa using h2) ?_
    by_cases h3 : x = "many"
    · rw [if_pos h3] at q
      refine iteT (by simpa using h3) ⟨e, k, ?_, by omega, hge, fin q⟩
      rw [show (((k + 1 : Nat) : Int) - 1) = (k : Int) by omega]
    · rw [if_neg h3] at q
      exact iteF (by simpa using h3) (fin q)
theorem ok_nest (F : Fun K "is_nested" "is_nested" s_is_nested f fd) (Z : Blt mg bl) (c_is_class_name : Cal P w K mg base 1 "is_class_name" spIsName) (c_is_parts : Cal P w K mg base 1 "is_parts" spParts) (hm : mg "is_nested" = some (.ref f)) (bd : Binds K fd ["value", "deep"] []) : ∀ n : Nat, FnG P w K mg base CX0 (n + 2) f fd ["value", "deep"] (spOf K (spNest n))
  | 0 => fnG_none fun ds R Q E ⟨d, k, _, hk, _⟩ => by omega
  | n + 1 => step_nest F Z c_is_class_name c_is_parts ⟨_, _, _, ok_nest F Z c_is_class_name c_is_parts hm bd n, hm, F.kp, bd⟩
end

end Law
end
section
set_option Elab.async false
set_option maxRecDepth 100000
set_option maxHeartbeats 4000000
set_option linter.all false
set_option autoImplicit false
namespace Law
open PySem PySem.Spec PyProof.Rows L2 DL TL TrA TrA.Tr
section
variable [TabCtx] {P : Program} {w : World} {K : KB} {mg : Str → Option Value} {base : Heap} {f : Addr} {fd : FuncData}
abbrev s_classes_in : Stmt := top 17
abbrev n_classes_in : List Str := ["pattern", "kind", "inner", "part", "name"]
theorem sc_classes_in : FnScope n_classes_in ["pattern"] (defScope s_classes_in) := ⟨rfl, rfl, rfl, by decide +kernel, rfl, by decide +kernel, by decide +kernel⟩
/-- the classes of a pattern -/
def clsN : Nat → D → List Str
  | 0, _ => []
  | k + 1, d => match d with
    | .tup [.str x, e] => if x = "one" then (match e with | .str y => [y] | _ => []) else if x = "many" then clsN k e else (match e with | .tup ps => ps.flatMap (clsN k) | _ => [])
    | _ => []
/-- what a pattern is -/
theorem isN_form {k : Nat} {d : D} (h : isN (k + 1) d = true) : ∃ x e, d = .tup [.str x, e] ∧ ((x = "one" ∧ ∃ y, e = .str y ∧ nmB y = true) ∨ ((x = "any" ∨ x = "row") ∧ ∃ ps, e = .tup ps ∧ 2 ≤ ps.length ∧ ps.length ≤ 4 ∧ ∀ p ∈ ps, isN k p = true) ∨ (x = "many" ∧ isN k e = true)) := by
  have h' := h
  unfold isN at h'
  split at h'
  · rename_i x e
    refine ⟨x, e, rfl, ?_⟩
    rw [isN_str] at h
    by_cases h1 : x = "one"
    · rw [if_pos h1] at h
      refine .inl ⟨h1, ?_⟩
      cases e <;> first | exact ⟨_, rfl, h⟩ | cases h
    rw [if_neg h1] at h
    by_cases h2 : x = "any" ∨ x = "row"
    · rw [if_pos h2, Bool.and_eq_true] at h
      obtain ⟨a, b⟩ := h
      cases e with
      | tup ps =>
        unfold partsB at a
        simp only [Bool.and_eq_true, decide_eq_true_eq] at a
        exact .inr (.inl ⟨h2, ps, rfl, a.1, a.2, List.all_eq_true.mp b⟩)
      | _ => cases a
    rw [if_neg h2] at h
    by_cases h3 : x = "many"
    · rw [if_pos h3] at h
      exact .inr (.inr ⟨h3, h⟩)
    · rw [if_neg h3] at h; cases h
  · cases h'
theorem cls_len : ∀ (k : Nat) {d : D}, isN k d = true → (clsN k d).length ≤ 4 ^ k
  | 0, _, h => by cases h
  | k + 1, d, h => by
    obtain ⟨x, e, rfl, hc⟩ := isN_form h
    rcases hc with ⟨rfl, y, rfl, hy⟩ | ⟨hx, ps, rfl, hp2, hp4, hps⟩ | ⟨rfl, he⟩
    · show 1 ≤ _
      exact Nat.one_le_iff_ne_zero.mpr (by have := Nat.pow_pos (n := k + 1) (show 0 < 4 by decide); omega)
    · have h1 : x ≠ "one" := by rcases hx with rfl | rfl <;> decide +kernel
      have h2 : x ≠ "many" := by rcases hx with rfl | rfl <;> decide +kernel
      have e1 : clsN (k + 1) (.tup [.str x, .tup ps]) = ps.flatMap (clsN k) := by
        show (if x = "one" then _ else if x = "many" then _ else _) = _
        rw [if_neg h1, if_neg h2]
      rw [e1]
      have : ∀ l : List D, (∀ p ∈ l, isN k p = true) → (l.flatMap (clsN k)).length ≤ 4 ^ k * l.length := fun l hl => by
        induction l with
        | nil => simp
        | cons a l ih =>
          rw [List.flatMap_cons, List.length_append, List.length_cons, Nat.mul_succ]
          have := cls_len k (hl a (by simp))
          have := ih fun p hp => hl p (by simp [hp])
          omega
      exact Nat.le_trans (this ps hps) (by rw [Nat.pow_succ]; exact Nat.mul_le_mul_left _ hp4)
    · exact Nat.le_trans (cls_len k he) (Nat.pow_le_pow_right (by decide) (by omega))
def spCls (n : Nat) : DSp := fun ds R Q _ => ∃ (d : D) (k : Nat), ds = [d] ∧ k < n ∧ k ≤ 6 ∧ isN k d = true ∧ Q (.lst ((clsN k d).map D.str)) R
theorem step_cls {n : Nat} (F : Fun K "classes_in" "classes_in" s_classes_in f fd) (Z : Blt mg bl) (c_classes_in : Cal P w K mg base (n + 2) "classes_in" (spCls n)) : FnG P w K mg base CX0 (n + 3) f fd ["pattern"] (spOf K (spCls (n + 1))) := by
  refine okD F sc_classes_in (fun ds R Q E h => by obtain ⟨d, k, rfl, _⟩ := h; rfl) fun cdv A outer s H E gd hr => ?_
  refine ⟨_, (dss_cons (ds_asg (dv 0) (dg_tup (n := 2) rfl (dgs_cons (dg_name (i := 1) sc_classes_in.nd rfl (.inl rfl)) (dgs_cons (dg_name (i := 2) sc_classes_in.nd rfl (.inl rfl)) dgs_nil))))
    (dss_cons (ds_match (dv 1) (McD.cons .val (dss_one (ds_ret (de_lstF (da_cons (dv 2) da_nil)))) (McD.cons .val (dss_one (ds_ret (de_c c_classes_in gd hr (by omega) (by rfl) (da_cons (dv 2) da_nil)))) McD.nil)))
    (dss_one (ds_ret (de_lc2F (own := [("part", 3), ("name", 4)]) (vs1 := [4]) rfl sc_classes_in.nd (di_tup (dv 2)) (blkOk_by (N := n_classes_in) (sc := defScope s_classes_in) (by decide +kernel)) (by decide) (fun _ _ _ _ _ => (dgw_name (i := 3) sc_classes_in.nd rfl (.inl rfl))) (fun _ _ _ _ _ => dts_nil) (fun _ _ _ _ _ => (di_list (de_c c_classes_in gd hr (by omega) (by rfl) (da_cons (dv 3) da_nil)))) (fun _ _ _ _ _ => (dgw_name (i := 4) sc_classes_in.nd rfl (.inl rfl))) (fun _ _ _ _ _ => dts_nil) (fun _ _ _ _ _ => (dv 4))))))), fun ds R Qd Ed h => ?_⟩
  obtain ⟨d, k, rfl, hk, hk6, hd, q⟩ := h
  simp only [dSeq, dGetK, rdInK, dGetT, dInT, rdSetK, dNewK, dDcF, dDc2F, dIEnum, dIZip, dISeq, dStar, dCont, dBrk, dOrT, rdInC, dCallK, dCVal, dMeth, dFld, dSetF, dNewF, dNew0F, dDisp, dPairs, dGet2, dGIndex, DL.keyOf, DL.keysOf, dCallL, dLam, dJoin, dJs, dFmtS, dRepl, dRaise, dCallX, dDelTail, dAugL, dXF, dAsg, dIf, dIfS, dB, dAnd, dOr, dNot, dAndV, dOrV, dNotV, dChain, dOp, dUn, dVar, dC, rdI0, rdI, dCB, dCall, rd1, dCons, dNil, dgName, dgSub, dgTup, dgLst, dSortSet, dgCons, dgNil, rdSetL, dRet, dLst, dLstF, dTup, dDrop, dNext, dPar, dBM, dBM0, dSl, dPart, dNoPart, dstart, dwipe, List.map_cons, List.map_nil, List.length_cons, List.length_nil, List.replicate_succ, List.replicate_zero, List.cons_append, List.nil_append, List.set_cons_zero, List.set_cons_succ, List.getElem?_cons_zero, List.getElem?_cons_succ, Nat.reduceAdd, Nat.reduceSub, Option.some.injEq, D.int.injEq, D.bl.injEq, D.str.injEq, D.ref.injEq, D.ty.injEq, D.tup.injEq, D.lst.injEq, D.rls.injEq, RO.lst.injEq, List.cons.injEq, exists_and_left, exists_eq_left', exists_eq_left, and_true, true_and, put_same, put_put, at0, at1, at2, ix30, ix31, ix32, and_assoc, dLcF, dLc, dLcT, dIRng1, dIRng2, dIRng3, dIStr, dITup, dILst, dYes, if_true, Bool.false_eq_true, if_false, eqS_ii, neS_ii, eqS_ss, neS_ss, decide_eq_true_eq, sq_tup, sq_lst, sq_rls, lo_lst, lo_rls, tr_lst, isi_tt, isi_st, isi_nt, isi_bt, isi_it, isi_lt, isi_ts, isi_ss, isi_ns, isi_bs, isi_is, isi_ls, List.append_nil, sz0, sz1, sz2, sz3, sz4, sz5, sz6, sl0, sl1, sl2, ty_put, ty_str, lo_put, sq_put, tr_put, reduceCtorEq, false_and, and_false, exists_false, or_false, false_or, Bool.not_false, Bool.not_true, List.isEmpty_nil, List.isEmpty_cons, app1_empty, dLc2F, dMatch, dGoM]
  obtain ⟨k, rfl⟩ : ∃ j, k = j + 1 := by
    cases k with
    | zero => cases hd
    | succ j => exact ⟨j, rfl⟩
  obtain ⟨x, e, rfl, hc⟩ := isN_form hd
  refine ⟨_, rfl, rfl, _, _, rfl, _, _, rfl, rfl, x, rfl, ?_⟩
  rcases hc with ⟨rfl, y, rfl, hy⟩ | ⟨hx, ps, rfl, hp2, hp4, hps⟩ | ⟨rfl, he⟩
  · exact iteT (by simp) (fin q)
  · have h1 : x ≠ "one" := by rcases hx with rfl | rfl <;> decide +kernel
    have h2 : x ≠ "many" := by rcases hx with rfl | rfl <;> decide +kernel
    have q : Qd (.lst ((ps.flatMap (clsN k)).map D.str)) R := by
      have e1 : clsN (k + 1) (.tup [.str x, .tup ps]) = ps.flatMap (clsN k) := by
        show (if x = "one" then _ else if x = "many" then _ else _) = _
        rw [if_neg h1, if_neg h2]
      rw [e1] at q; exact q
    refine iteF (by simpa using h1) (iteF (by simpa using h2) ?_)
    have hlen : ∀ l : List D, (∀ p ∈ l, isN k p = true) → (l.flatMap (clsN k)).length ≤ 4 ^ k * l.length := fun l hl => by
      induction l with
      | nil => simp
      | cons a l ih =>
        rw [List.flatMap_cons, List.length_append, List.length_cons, Nat.mul_succ]
        have := cls_len k (hl a (by simp))
        have := ih fun p hp => hl p (by simp [hp])
        omega
    have h46 : 4 ^ k ≤ 4 ^ 5 := Nat.pow_le_pow_right (by decide) (by omega)
    have hbd : ∀ l : List D, (∀ p ∈ l, p ∈ ps) → l.length ≤ 4 → (l.flatMap (clsN k)).length ≤ 4096 := fun l hl h4 => by
      have a := hlen l fun p hp => hps p (hl p hp)
      have b : 4 ^ k * l.length ≤ 4 ^ 5 * 4 := Nat.mul_le_mul h46 h4
      have c : 4 ^ 5 * 4 = 4096 := by decide
      omega
    refine ⟨ps, rfl, fun i acc R' => R' = R ∧ acc = ((ps.take i).flatMap (clsN k)).map D.str, ⟨rfl, rfl⟩, fun _ _ _ _ _ => trivial, ?_, ?_⟩
    · rintro i y acc R' hy ⟨rfl, rfl⟩
      have hm := List.mem_of_getElem? hy
      have hi := (List.getElem?_eq_some_iff.mp hy).1
      have ht : ps.take (i + 1) = ps.take i ++ [y] := by rw [List.take_add_one, hy]; rfl
      refine ⟨y, k, rfl, by omega, by omega, hps y hm, (clsN k y).map D.str, .inl ⟨rfl, fun j acc R2 => R2 = R' ∧ acc = ((ps.take i).flatMap (clsN k) ++ (clsN k y).take j).map D.str, ⟨rfl, by simp⟩, ?_, ?_, ?_⟩⟩
      · rintro j acc R2 hj ⟨rfl, rfl⟩
        have a := hbd (ps.take i) (fun p hp => List.mem_of_mem_take hp) (by rw [List.length_take]; omega)
        have b := hbd [y] (fun p hp => by rw [List.mem_singleton.mp hp]; exact hm) (by simp)
        simp only [List.flatMap_cons, List.flatMap_nil, List.append_nil] at b
        rw [List.length_map, List.length_append, List.length_take]
        omega
      · rintro j z acc R2 hz ⟨rfl, rfl⟩
        rw [List.getElem?_map] at hz
        cases hq : (clsN k y)[j]? with
        | none => rw [hq] at hz; cases hz
        | some c =>
          rw [hq] at hz
          have hz : D.str c = z := Option.some.inj hz
          subst hz
          refine ⟨rfl, ?_⟩
          rw [List.take_add_one, hq]
          simp
      · rintro acc R2 ⟨rfl, rfl⟩
        refine ⟨rfl, ?_⟩
        rw [List.length_map, List.take_length, ht, List.flatMap_append]
        simp
    · rintro acc R' ⟨rfl, rfl⟩
      rw [List.take_length]
      exact fin q
  · have q : Qd (.lst ((clsN k e).map D.str)) R := q
    exact iteF (by decide +kernel) (iteT (by simp) ⟨e, k, rfl, by omega, by omega, he, fin q⟩)
theorem ok_cls (F : Fun K "classes_in" "classes_in" s_classes_in f fd) (Z : Blt mg bl) (hm : mg "classes_in" = some (.ref f)) (bd : Binds K fd ["pattern"] []) : ∀ n : Nat, FnG P w K mg base CX0 (n + 2) f fd ["pattern"] (spOf K (spCls n))
  | 0 => fnG_none fun ds R Q E ⟨d, k, _, hk, _⟩ => by omega
  | n + 1 => step_cls F Z ⟨_, _, _, ok_cls F Z hm bd n, hm, F.kp, bd⟩
abbrev s_is_pattern : Stmt := top 18
abbrev n_is_pattern : List Str := ["value"]
theorem sc_is_pattern : FnScope n_is_pattern ["value"] (defScope s_is_pattern) := ⟨rfl, rfl, rfl, by decide +kernel, rfl, by decide +kernel, by decide +kernel⟩
def patB (d : D) : Bool := isN 6 d && decide ((clsN 6 d).length ≤ 12)
def spPat : DSp := fun ds R Q _ => ∃ d : D, ds = [d] ∧ gdB d = true ∧ Q (.bl (patB d)) R
theorem ok_pat (F : Fun K "is_pattern" "is_pattern" s_is_pattern f fd) (Z : Blt mg bl) (g_MOST_DEEP : GC K mg "MOST_DEEP" (.int 6)) (g_MOST_CLASSES : GC K mg "MOST_CLASSES" (.int 12)) (c_is_nested : Cal P w K mg base 9 "is_nested" (spNest 7)) (c_classes_in : Cal P w K mg base 9 "classes_in" (spCls 7)) : FnG P w K mg base CX0 10 f fd ["value"] (spOf K spPat) := by
  refine okD F sc_is_pattern (fun ds R Q E h => by obtain ⟨d, rfl, _⟩ := h; rfl) fun cdv A outer s H E gd hr => ?_
  refine ⟨_, (dss_one (ds_ret (de_and (de_c c_is_nested gd hr (by omega) (by rfl) (da_cons (dv 0) (da_cons (de_glob g_MOST_DEEP (by rfl)) da_nil))) (de_one (de_cmp od_le (de_callB cd_len (by rfl) (Z _ (by decide)) bt_len (da_cons (de_c c_classes_in gd hr (by omega) (by rfl) (da_cons (dv 0) da_nil)) da_nil)) (de_glob g_MOST_CLASSES (by rfl)) (nomark _)))))), fun ds R Qd Ed h => ?_⟩
  obtain ⟨d, rfl, hd, q⟩ := h
  simp only [dSeq, dGetK, rdInK, dGetT, dInT, rdSetK, dNewK, dDcF, dDc2F, dIEnum, dIZip, dISeq, dStar, dCont, dBrk, dOrT, rdInC, dCallK, dCVal, dMeth, dFld, dSetF, dNewF, dNew0F, dDisp, dPairs, dGet2, dGIndex, DL.keyOf, DL.keysOf, dCallL, dLam, dJoin, dJs, dFmtS, dRepl, dRaise, dCallX, dDelTail, dAugL, dXF, dAsg, dIf, dIfS, dB, dAnd, dOr, dNot, dAndV, dOrV, dNotV, dChain, dOp, dUn, dVar, dC, rdI0, rdI, dCB, dCall, rd1, dCons, dNil, dgName, dgSub, dgTup, dgLst, dSortSet, dgCons, dgNil, rdSetL, dRet, dLst, dLstF, dTup, dDrop, dNext, dPar, dBM, dBM0, dSl, dPart, dNoPart, dstart, dwipe, List.map_cons, List.map_nil, List.length_cons, List.length_nil, List.replicate_succ, List.replicate_zero, List.cons_append, List.nil_append, List.set_cons_zero, List.set_cons_succ, List.getElem?_cons_zero, List.getElem?_cons_succ, Nat.reduceAdd, Nat.reduceSub, Option.some.injEq, D.int.injEq, D.bl.injEq, D.str.injEq, D.ref.injEq, D.ty.injEq, D.tup.injEq, D.lst.injEq, D.rls.injEq, RO.lst.injEq, List.cons.injEq, exists_and_left, exists_eq_left', exists_eq_left, and_true, true_and, put_same, put_put, at0, at1, at2, ix30, ix31, ix32, and_assoc, dLcF, dLc, dLcT, dIRng1, dIRng2, dIRng3, dIStr, dITup, dILst, dYes, if_true, Bool.false_eq_true, if_false, eqS_ii, neS_ii, eqS_ss, neS_ss, decide_eq_true_eq, sq_tup, sq_lst, sq_rls, lo_lst, lo_rls, tr_lst, isi_tt, isi_st, isi_nt, isi_bt, isi_it, isi_lt, isi_ts, isi_ss, isi_ns, isi_bs, isi_is, isi_ls, List.append_nil, sz0, sz1, sz2, sz3, sz4, sz5, sz6, sl0, sl1, sl2, ty_put, ty_str, lo_put, sq_put, tr_put, reduceCtorEq, false_and, and_false, exists_false, or_false, false_or, Bool.not_false, Bool.not_true, List.isEmpty_nil, List.isEmpty_cons, app1_empty, dLc2F, dMatch, dGoM]
  refine ⟨d, 6, rfl, by decide, hd, _, rfl, ?_⟩
  unfold patB at q
  cases h : isN 6 d with
  | false =>
    rw [h, Bool.false_and] at q
    exact iteF (by decide) (fin q)
  | true =>
    rw [h, Bool.true_and] at q
    refine iteT rfl ⟨d, 6, rfl, by decide, by decide, h, _, rfl, fin ?_⟩
    rw [List.length_map, show decide (((clsN 6 d).length : Int) ≤ 12) = decide ((clsN 6 d).length ≤ 12) from decide_eq_decide.mpr (by omega)]
    exact q
end

end Law
end
section
set_option Elab.async false
set_option maxRecDepth 100000
set_option maxHeartbeats 4000000
set_option linter.all false
set_option autoImplicit false
namespace Law
open PySem PySem.Spec PyProof.Rows L2 DL TL TrA TrA.Tr
section
variable [TabCtx]
/-! ### kinds of patterns, plainly -/
theorem isN_one {k : Nat} {y : Str} : isN (k + 1) (.tup [.str "one", .str y]) = nmB y := by rw [isN_str, if_pos rfl]; rfl
theorem isN_many {k : Nat} {d : D} : isN (k + 1) (.tup [.str "many", d]) = isN k d := by
  rw [isN_str, if_neg (by decide +kernel), if_neg (by decide +kernel), if_pos rfl]
theorem isN_any {k : Nat} {ps : List D} : isN (k + 1) (.tup [.str "any", .tup ps]) = (decide (2 ≤ ps.length) && decide (ps.length ≤ 4) && ps.all (isN k)) := by
  rw [isN_str, if_neg (by decide +kernel), if_pos (.inl rfl)]; rfl
theorem isN_row {k : Nat} {ps : List D} : isN (k + 1) (.tup [.str "row", .tup ps]) = (decide (2 ≤ ps.length) && decide (ps.length ≤ 4) && ps.all (isN k)) := by
  rw [isN_str, if_neg (by decide +kernel), if_pos (.inr rfl)]; rfl
theorem clsN_s {k : Nat} {x : Str} {e : D} : clsN (k + 1) (.tup [.str x, e]) = if x = "one" then (match e with | .str y => [y] | _ => []) else if x = "many" then clsN k e else (match e with | .tup ps => ps.flatMap (clsN k) | _ => []) := rfl
theorem clsN_one {k : Nat} {y : Str} : clsN (k + 1) (.tup [.str "one", .str y]) = [y] := by rw [clsN_s, if_pos rfl]
theorem clsN_many {k : Nat} {e : D} : clsN (k + 1) (.tup [.str "many", e]) = clsN k e := by rw [clsN_s, if_neg (by decide +kernel), if_pos rfl]
theorem clsN_any {k : Nat} {ps : List D} : clsN (k + 1) (.tup [.str "any", .tup ps]) = ps.flatMap (clsN k) := by rw [clsN_s, if_neg (by decide +kernel), if_neg (by decide +kernel)]
theorem clsN_row {k : Nat} {ps : List D} : clsN (k + 1) (.tup [.str "row", .tup ps]) = ps.flatMap (clsN k) := by rw [clsN_s, if_neg (by decide +kernel), if_neg (by decide +kernel)]
theorem sum_len (f : D → Nat) (g : D → List Str) : ∀ {ps : List D}, (∀ p ∈ ps, f p = (g p).length) → (ps.map f).sum = (ps.flatMap g).length
  | [], _ => rfl
  | p :: ps, h => by
    rw [List.map_cons, List.sum_cons, List.flatMap_cons, List.length_append, h p (by simp), sum_len f g fun q hq => h q (by simp [hq])]
end

end Law
end
section
set_option Elab.async false
set_option maxRecDepth 100000
set_option maxHeartbeats 4000000
set_option linter.all false
set_option autoImplicit false
namespace Law
open PySem PySem.Spec PyProof.Rows L2 DL TL TrA TrA.Tr
section
variable [TabCtx]
/-! ### the places of a pattern, plainly: place i has the class it reads and the places behind it -/
abbrev Mch := List (Str × List Nat)
def natD (l : List Nat) : D := .lst (l.map fun n => D.int (n : Nat))
def rdD (m : Mch) : List D := m.map fun e => .str e.1
def aftF (i : Nat) : Mch → List (Key × D)
  | [] => []
  | e :: m => (.inl (i : Nat), natD e.2) :: aftF (i + 1) m
/-- the dict of the places behind each place -/
def aftK (m : Mch) : List (Key × D) := aftF 0 m
theorem aftF_val : ∀ (m : Mch) (i j : Nat), valD (aftF i m) (.inl ((i + j : Nat) : Int)) = m[j]?.map fun e => natD e.2
  | [], i, j => by simp [aftF, valD_nil]
  | e :: m, i, 0 => by
    unfold aftF
    rw [valD_cons, if_pos (by simp)]
    rfl
  | e :: m, i, j + 1 => by
    unfold aftF
    rw [valD_cons, if_neg (by intro z; have := Sum.inl.inj z; omega), show i + (j + 1) = (i + 1) + j by omega, aftF_val m (i + 1) j]
    simp
theorem aftK_val {m : Mch} {j : Nat} : valD (aftK m) (.inl (j : Int)) = m[j]?.map fun e => natD e.2 := by
  have := aftF_val m 0 j
  rw [Nat.zero_add] at this
  exact this
theorem aftF_len : ∀ (m : Mch) (i : Nat), (aftF i m).length = m.length
  | [], _ => rfl
  | e :: m, i => by unfold aftF; rw [List.length_cons, List.length_cons, aftF_len m (i + 1)]
theorem aftF_app : ∀ (m n : Mch) (i : Nat), aftF i (m ++ n) = aftF i m ++ aftF (i + m.length) n
  | [], n, i => by simp [aftF]
  | e :: m, n, i => by
    show (_ :: aftF (i + 1) (m ++ n)) = _
    rw [aftF_app m n (i + 1), List.length_cons, show i + 1 + m.length = i + (m.length + 1) by omega]
    rfl
theorem aftK_new {m : Mch} {x : Str} {l : List Nat} : putKD (aftK m) (.inl ((m.length : Nat) : Int)) (natD l) = aftK (m ++ [(x, l)]) := by
  rw [putKD_new _ (by rw [aftK_val]; simp)]
  unfold aftK
  rw [aftF_app, Nat.zero_add]
  rfl
theorem aftF_set : ∀ (m : Mch) (i j : Nat) (e : Str × List Nat), m[j]? = some e → ∀ l, (aftF i m).map (fun kv => if kv.1 = (.inl ((i + j : Nat) : Int)) then (kv.1, natD l) else kv) = aftF i (m.set j (e.1, l))
  | [], i, j, e, h, l => by simp at h
  | e0 :: m, i, 0, e, h, l => by
    have : e0 = e := by simpa using h
    subst this
    have key : ∀ (m : Mch) (k : Nat), i < k → (aftF k m).map (fun kv => if kv.1 = (.inl ((i : Nat) : Int)) then (kv.1, natD l) else kv) = aftF k m := by
      intro m
      induction m with
      | nil => intro k _; rfl
      | cons a m ih =>
        intro k hk
        unfold aftF
        rw [List.map_cons, ih (k + 1) (by omega), if_neg (by intro z; have := Sum.inl.inj z; omega)]
    unfold aftF
    rw [List.map_cons, Nat.add_zero, if_pos rfl]
    exact congrArg _ (key m (i + 1) (by omega))
  | e0 :: m, i, j + 1, e, h, l => by
    unfold aftF
    rw [List.map_cons, if_neg (by intro z; have := Sum.inl.inj z; omega), show i + (j + 1) = (i + 1) + j by omega, aftF_set m (i + 1) j e (by simpa using h) l]
    rfl
theorem aftF_any : ∀ (m : Mch) (i j : Nat), j < m.length → (aftF i m).any (fun kv => decide (kv.1 = (.inl ((i + j : Nat) : Int)))) = true
  | [], i, j, h => by simp at h
  | e0 :: m, i, 0, h => by unfold aftF; rw [List.any_cons, Nat.add_zero, decide_eq_true (show _ = _ from rfl)]; rfl
  | e0 :: m, i, j + 1, h => by
    unfold aftF
    rw [List.any_cons, show i + (j + 1) = (i + 1) + j by omega, aftF_any m (i + 1) j (by simpa using h), Bool.or_true]
theorem aftK_set {m : Mch} {j : Nat} {e : Str × List Nat} (h : m[j]? = some e) (l : List Nat) : putKD (aftK m) (.inl (j : Int)) (natD l) = aftK (m.set j (e.1, l)) := by
  have h1 := aftF_set m 0 j e h l
  have h2 := aftF_any m 0 j (List.getElem?_eq_some_iff.mp h).1
  rw [Nat.zero_add] at h1 h2
  unfold putKD aftK
  rw [if_pos h2]
  exact h1
theorem rdD_set {m : Mch} {j : Nat} {e : Str × List Nat} (h : m[j]? = some e) (l : List Nat) : rdD (m.set j (e.1, l)) = rdD m := by
  unfold rdD
  rw [List.map_set]
  have hl := (List.getElem?_eq_some_iff.mp h)
  obtain ⟨hj, hv⟩ := hl
  refine List.ext_getElem? fun i => ?_
  rw [List.getElem?_set]
  by_cases hi : j = i
  · subst hi
    rw [if_pos rfl, if_pos (by rw [List.length_map]; exact hj), List.getElem?_map, h]
    rfl
  · rw [if_neg hi]
/-- ascending without repeats -/
def upS (b : Nat) (xs : List Nat) : List Nat := (List.range b).filter fun i => decide (i ∈ xs)
theorem upS_mem {b : Nat} {xs : List Nat} (h : ∀ x ∈ xs, x < b) {i : Nat} : i ∈ upS b xs ↔ i ∈ xs := by
  unfold upS
  rw [List.mem_filter, List.mem_range, decide_eq_true_eq]
  exact ⟨fun z => z.2, fun z => ⟨h i z, z⟩⟩
theorem upS_asc (b : Nat) (xs : List Nat) : (upS b xs).Pairwise (· < ·) := List.pairwise_lt_range.filter _
theorem upS_len (b : Nat) (xs : List Nat) : (upS b xs).length ≤ b := by
  have := List.length_filter_le (fun i => decide (i ∈ xs)) (List.range b)
  rw [List.length_range] at this
  exact this
theorem asc_uniq : ∀ {a b : List Int}, a.Pairwise (· < ·) → b.Pairwise (· < ·) → (∀ k, k ∈ a ↔ k ∈ b) → a = b
  | [], [], _, _, _ => rfl
  | [], y :: b, _, _, h => by have := (h y).mpr (by simp); cases this
  | x :: a, [], _, _, h => by have := (h x).mp (by simp); cases this
  | x :: a, y :: b, ha, hb, h => by
    obtain ⟨a1, a2⟩ := List.pairwise_cons.mp ha
    obtain ⟨b1, b2⟩ := List.pairwise_cons.mp hb
    have e : x = y := by
      rcases List.mem_cons.mp ((h x).mp (by simp)) with z | z
      · exact z
      · rcases List.mem_cons.mp ((h y).mpr (by simp)) with z2 | z2
        · exact z2.symm
        · have := b1 x z; have := a1 y z2; omega
    subst e
    refine congrArg _ (asc_uniq a2 b2 fun k => ?_)
    have hk := h k
    rw [List.mem_cons, List.mem_cons] at hk
    constructor
    · intro z
      rcases hk.mp (.inr z) with z2 | z2
      · have := a1 k z; omega
      · exact z2
    · intro z
      rcases hk.mpr (.inr z) with z2 | z2
      · have := b1 k z; omega
      · exact z2
theorem natD_asc {ns : List Int} {xs : List Nat} {b : Nat} (h1 : ns.Pairwise (· < ·)) (hb : ∀ x ∈ xs, x < b) (h2 : ∀ k : Int, k ∈ ns ↔ ∃ n : Nat, k = n ∧ n ∈ xs) : D.lst (ns.map D.int) = natD (upS b xs) := by
  have e : ns = (upS b xs).map fun n => ((n : Nat) : Int) := by
    refine asc_uniq h1 ?_ fun k => ?_
    · rw [List.pairwise_map]
      exact (upS_asc b xs).imp fun h => by omega
    · rw [h2 k, List.mem_map]
      exact ⟨fun ⟨n, e, hn⟩ => ⟨n, (upS_mem hb).mpr hn, e.symm⟩, fun ⟨n, hn, e⟩ => ⟨n, e.symm, (upS_mem hb).mp hn⟩⟩
  rw [e]
  unfold natD
  rw [List.map_map]
  rfl
/-- the places of Z are led to those of F -/
def linkP (m : Mch) (Z F : List Nat) : Mch := m.mapIdx fun i e => if i ∈ Z then (e.1, upS m.length (e.2 ++ F)) else e
theorem link_len (m : Mch) (Z F : List Nat) : (linkP m Z F).length = m.length := by unfold linkP; rw [List.length_mapIdx]
theorem link_at (m : Mch) (Z F : List Nat) (i : Nat) : (linkP m Z F)[i]? = m[i]?.map fun e => if i ∈ Z then (e.1, upS m.length (e.2 ++ F)) else e := by unfold linkP; rw [List.getElem?_mapIdx]
theorem link_rd (m : Mch) (Z F : List Nat) : rdD (linkP m Z F) = rdD m := by
  unfold rdD linkP
  refine List.ext_getElem? fun i => ?_
  rw [List.getElem?_map, List.getElem?_map, List.getElem?_mapIdx]
  cases m[i]? with
  | none => rfl
  | some e => show some (D.str (if i ∈ Z then _ else e).1) = _; split <;> rfl
/-- all places that are named are there -/
def MOk (m : Mch) : Prop := ∀ e ∈ m, (∀ i ∈ e.2, i < m.length) ∧ e.2.length ≤ m.length
theorem upS_idem {b : Nat} {xs ys F : List Nat} (hx : ∀ x ∈ xs ++ F, x < b) : upS b (upS b (xs ++ F) ++ F) = upS b (xs ++ F) := by
  unfold upS
  refine List.filter_congr fun i hi => decide_eq_decide.mpr ?_
  rw [List.mem_append]
  constructor
  · rintro (h | h)
    · exact (List.mem_filter.mp h).2 |> of_decide_eq_true
    · exact List.mem_append_right _ h
  · intro h
    exact .inl (List.mem_filter.mpr ⟨hi, decide_eq_true h⟩)
theorem link_nil (m : Mch) (F : List Nat) : linkP m [] F = m := by
  refine List.ext_getElem? fun i => ?_
  rw [link_at]
  cases m[i]? <;> simp
/-- one place more is led on -/
theorem link_snoc {m : Mch} {Z F : List Nat} {z : Nat} {e : Str × List Nat} (hm : MOk m) (hF : ∀ x ∈ F, x < m.length) (he : (linkP m Z F)[z]? = some e) : (linkP m Z F).set z (e.1, upS m.length (e.2 ++ F)) = linkP m (Z ++ [z]) F := by
  refine List.ext_getElem? fun i => ?_
  rw [List.getElem?_set, link_at m (Z ++ [z])]
  by_cases hz : z = i
  · subst hz
    have hlt := (List.getElem?_eq_some_iff.mp he).1
    rw [if_pos rfl, if_pos hlt]
    rw [link_at] at he
    cases hmz : m[z]? with
    | none => rw [hmz] at he; cases he
    | some e0 =>
      rw [hmz] at he
      have he : (if z ∈ Z then (e0.1, upS m.length (e0.2 ++ F)) else e0) = e := Option.some.inj he
      show some _ = some (if z ∈ Z ++ [z] then _ else e0)
      rw [if_pos (by simp)]
      by_cases hZ : z ∈ Z
      · rw [if_pos hZ] at he
        rw [← he]
        have := (hm e0 (List.mem_of_getElem? hmz)).1
        rw [upS_idem (ys := []) fun x hx => (List.mem_append.mp hx).elim (this x) (hF x)]
      · rw [if_neg hZ] at he
        rw [← he]
  · rw [if_neg hz, link_at]
    cases m[i]? with
    | none => rfl
    | some e0 =>
      show some (if i ∈ Z then _ else e0) = some (if i ∈ Z ++ [z] then _ else e0)
      by_cases hZ : i ∈ Z
      · rw [if_pos hZ, if_pos (by simp [hZ])]
      · rw [if_neg hZ, if_neg (by simp [hZ]; exact fun q => hz q.symm)]
theorem MOk.link {m : Mch} {Z F : List Nat} (h : MOk m) (hF : ∀ x ∈ F, x < m.length) : MOk (linkP m Z F) := fun e he => by
  rw [link_len]
  obtain ⟨j, hj⟩ := List.getElem?_of_mem he
  rw [link_at] at hj
  cases hm : m[j]? with
  | none => rw [hm] at hj; cases hj
  | some e0 =>
    rw [hm] at hj
    have hj : (if j ∈ Z then (e0.1, upS m.length (e0.2 ++ F)) else e0) = e := Option.some.inj hj
    have h0 := h e0 (List.mem_of_getElem? hm)
    by_cases hZ : j ∈ Z
    · rw [if_pos hZ] at hj
      rw [← hj]
      exact ⟨fun i hi => List.mem_range.mp (List.mem_filter.mp hi).1, upS_len _ _⟩
    · rw [if_neg hZ] at hj
      rw [← hj]
      exact h0
theorem nodup_len : ∀ (b : Nat) {l : List Int}, l.Nodup → (∀ k ∈ l, 0 ≤ k ∧ k < (b : Int)) → l.length ≤ b
  | 0, l, _, h => by
    cases l with
    | nil => exact Nat.le_refl _
    | cons a l => have := h a (by simp); omega
  | b + 1, l, hn, h => by
    have := nodup_len b (l := l.erase (b : Int)) (hn.erase _) fun k hk => by
      have h1 := h k (List.mem_of_mem_erase hk)
      have h2 : k ≠ (b : Int) := ((hn.mem_erase_iff).mp hk).1
      omega
    have h3 : l.length ≤ (l.erase (b : Int)).length + 1 := by rw [List.length_erase]; split <;> omega
    omega
abbrev Adds := Mch × List Nat × List Nat
def seqP (f : D → Mch → Adds) : List D → Mch → Mch × List (List Nat × List Nat)
  | [], m => (m, [])
  | p :: ps, m => ((seqP f ps (f p m).1).1, (f p m).2 :: (seqP f ps (f p m).1).2)
def rowP (f : D → Mch → Adds) : List D → Adds → Adds
  | [], s => s
  | p :: ps, (m, S, Z) => rowP f ps (linkP (f p m).1 Z (f p m).2.1, S, (f p m).2.2)
/-- the places of a pattern are put in; its first and its last places -/
def addP : Nat → D → Mch → Adds
  | 0, _, m => (m, [], [])
  | k + 1, d, m => match d with
    | .tup [.str x, e] => if x = "one" then (match e with | .str y => (m ++ [(y, [])], [m.length], [m.length]) | _ => (m, [], []))
      else if x = "any" then (match e with | .tup ps => ((seqP (addP k) ps m).1, (seqP (addP k) ps m).2.flatMap (·.1), (seqP (addP k) ps m).2.flatMap (·.2)) | _ => (m, [], []))
      else if x = "row" then (match e with | .tup (p :: ps) => rowP (addP k) ps (addP k p m) | _ => (m, [], []))
      else (linkP (addP k e m).1 (addP k e m).2.2 (addP k e m).2.1, (addP k e m).2.1, (addP k e m).2.2)
    | _ => (m, [], [])
theorem addP_s {k : Nat} {x : Str} {e : D} {m : Mch} : addP (k + 1) (.tup [.str x, e]) m = if x = "one" then (match e with | .str y => (m ++ [(y, [])], [m.length], [m.length]) | _ => (m, [], []))
      else if x = "any" then (match e with | .tup ps => ((seqP (addP k) ps m).1, (seqP (addP k) ps m).2.flatMap (·.1), (seqP (addP k) ps m).2.flatMap (·.2)) | _ => (m, [], []))
      else if x = "row" then (match e with | .tup (p :: ps) => rowP (addP k) ps (addP k p m) | _ => (m, [], []))
      else (linkP (addP k e m).1 (addP k e m).2.2 (addP k e m).2.1, (addP k e m).2.1, (addP k e m).2.2) := rfl
theorem addP_one {k : Nat} {y : Str} {m : Mch} : addP (k + 1) (.tup [.str "one", .str y]) m = (m ++ [(y, [])], [m.length], [m.length]) := by
  rw [addP_s, if_pos rfl]
theorem addP_any {k : Nat} {ps : List D} {m : Mch} : addP (k + 1) (.tup [.str "any", .tup ps]) m = ((seqP (addP k) ps m).1, (seqP (addP k) ps m).2.flatMap (·.1), (seqP (addP k) ps m).2.flatMap (·.2)) := by
  rw [addP_s, if_neg (by decide +kernel), if_pos rfl]
theorem addP_row {k : Nat} {p : D} {ps : List D} {m : Mch} : addP (k + 1) (.tup [.str "row", .tup (p :: ps)]) m = rowP (addP k) ps (addP k p m) := by
  rw [addP_s, if_neg (by decide +kernel), if_neg (by decide +kernel), if_pos rfl]
theorem addP_many {k : Nat} {e : D} {m : Mch} : addP (k + 1) (.tup [.str "many", e]) m = (linkP (addP k e m).1 (addP k e m).2.2 (addP k e m).2.1, (addP k e m).2.1, (addP k e m).2.2) := by
  rw [addP_s, if_neg (by decide +kernel), if_neg (by decide +kernel), if_neg (by decide +kernel)]
/-- what putting in does not break; n: how many places may come -/
structure AOk (m : Mch) (s : Adds) (n : Nat) : Prop where
  ok : MOk s.1
  len : s.1.length = m.length + n
  f : ∀ i ∈ s.2.1, m.length ≤ i ∧ i < s.1.length
  z : ∀ i ∈ s.2.2, m.length ≤ i ∧ i < s.1.length
  fl : s.2.1.length ≤ n
  zl : s.2.2.length ≤ n
theorem seq_ok {f : D → Mch → Adds} {g : D → Nat} : ∀ {ps : List D} {m : Mch}, (∀ p ∈ ps, ∀ m, MOk m → AOk m (f p m) (g p)) → MOk m → AOk m ((seqP f ps m).1, (seqP f ps m).2.flatMap (·.1), (seqP f ps m).2.flatMap (·.2)) ((ps.map g).sum)
  | [], m, _, hm => ⟨hm, rfl, (fun i h => by cases h), (fun i h => by cases h), Nat.le_refl _, Nat.le_refl _⟩
  | p :: ps, m, h, hm => by
    have a := h p (by simp) m hm
    have b := seq_ok (ps := ps) (m := (f p m).1) (fun q hq => h q (by simp [hq])) a.ok
    have al := a.len
    have bl := b.len
    have bl : (seqP f ps (f p m).1).1.length = (f p m).1.length + (ps.map g).sum := bl
    refine ⟨b.ok, ?_, fun i hi => ?_, fun i hi => ?_, ?_, ?_⟩
    · show (seqP f ps (f p m).1).1.length = _
      rw [List.map_cons, List.sum_cons]; omega
    · show _ ∧ i < (seqP f ps (f p m).1).1.length
      rcases List.mem_append.mp hi with z | z
      · have := a.f i z; omega
      · have := b.f i z; omega
    · show _ ∧ i < (seqP f ps (f p m).1).1.length
      rcases List.mem_append.mp hi with z | z
      · have := a.z i z; omega
      · have := b.z i z; omega
    · show ((f p m).2.1 ++ _).length ≤ _
      have c := a.fl; have d := b.fl
      rw [List.length_append, List.map_cons, List.sum_cons]
      exact Nat.add_le_add c d
    · show ((f p m).2.2 ++ _).length ≤ _
      have c := a.zl; have d := b.zl
      rw [List.length_append, List.map_cons, List.sum_cons]
      exact Nat.add_le_add c d
theorem row_ok {f : D → Mch → Adds} {g : D → Nat} {m0 : Mch} : ∀ {ps : List D} {s : Adds} {n : Nat}, (∀ p ∈ ps, ∀ m, MOk m → AOk m (f p m) (g p)) → AOk m0 s n → AOk m0 (rowP f ps s) (n + (ps.map g).sum)
  | [], s, n, _, hs => hs
  | p :: ps, (m, S, Z), n, h, hs => by
    have a := h p (by simp) m hs.ok
    have hF : ∀ x ∈ (f p m).2.1, x < (f p m).1.length := fun x hx => (a.f x hx).2
    have al := a.len
    have sl : m.length = m0.length + n := hs.len
    have step : AOk m0 (linkP (f p m).1 Z (f p m).2.1, S, (f p m).2.2) (n + g p) := ⟨a.ok.link hF, by show (linkP _ _ _).length = _; rw [link_len]; omega, fun i hi => by
      show _ ∧ i < (linkP _ _ _).length
      rw [link_len]; have := hs.f i hi; have : i < m.length := this.2; have := (hs.f i hi).1; omega, fun i hi => by
      show _ ∧ i < (linkP _ _ _).length
      rw [link_len]; have := a.z i hi; omega, Nat.le_trans hs.fl (by omega), Nat.le_trans a.zl (by omega)⟩
    have := row_ok (ps := ps) (fun q hq => h q (by simp [hq])) step
    rw [List.map_cons, List.sum_cons, ← Nat.add_assoc]
    exact this
theorem add_ok : ∀ (k : Nat) {d : D}, isN k d = true → ∀ m, MOk m → AOk m (addP k d m) (clsN k d).length
  | 0, _, h, _, _ => by cases h
  | k + 1, d, h, m, hm => by
    obtain ⟨x, e, rfl, hc⟩ := isN_form h
    rcases hc with ⟨rfl, y, rfl, hy⟩ | ⟨rfl | rfl, ps, rfl, hp2, hp4, hps⟩ | ⟨rfl, he⟩
    · rw [addP_one, clsN_one]
      have hl : (m ++ [(y, ([] : List Nat))]).length = m.length + 1 := by simp
      refine ⟨fun e he => ?_, hl, fun i hi => ?_, fun i hi => ?_, Nat.le_refl _, Nat.le_refl _⟩
      · rw [hl]
        rcases List.mem_append.mp he with z | z
        · have h1 := hm e z
          exact ⟨fun i hi => Nat.lt_succ_of_lt (h1.1 i hi), Nat.le_succ_of_le h1.2⟩
        · rw [List.mem_singleton.mp z]
          exact ⟨(fun i hi => by cases hi), Nat.zero_le _⟩
      · have : i = m.length := List.mem_singleton.mp hi
        show _ ∧ i < (m ++ [(y, ([] : List Nat))]).length
        omega
      · have : i = m.length := List.mem_singleton.mp hi
        show _ ∧ i < (m ++ [(y, ([] : List Nat))]).length
        omega
    · rw [addP_any, clsN_any, ← sum_len (fun d => (clsN k d).length) (clsN k) fun _ _ => rfl]
      exact seq_ok (fun p hp m hm => add_ok k (hps p hp) m hm) hm
    · match ps, hp2, hps with
      | p :: ps, hp2, hps =>
        rw [addP_row, clsN_row, List.flatMap_cons, List.length_append, ← sum_len (fun d => (clsN k d).length) (clsN k) fun _ _ => rfl]
        exact row_ok (fun q hq m hm => add_ok k (hps q (by simp [hq])) m hm) (add_ok k (hps p (by simp)) m hm)
    · rw [addP_many, clsN_many]
      have a := add_ok k he m hm
      have hF : ∀ x ∈ (addP k e m).2.1, x < (addP k e m).1.length := fun x hx => (a.f x hx).2
      exact ⟨a.ok.link hF, by show (linkP _ _ _).length = _; rw [link_len]; exact a.len, fun i hi => by show _ ∧ i < (linkP _ _ _).length; rw [link_len]; exact a.f i hi, fun i hi => by show _ ∧ i < (linkP _ _ _).length; rw [link_len]; exact a.z i hi, a.fl, a.zl⟩
/-- what was there stays as it was -/
def AOld (m : Mch) (s : Adds) : Prop := ∀ i, i < m.length → s.1[i]? = m[i]?
theorem link_out {m : Mch} {Z F : List Nat} {i : Nat} (h : i ∉ Z) : (linkP m Z F)[i]? = m[i]? := by
  rw [link_at]
  cases m[i]? with
  | none => rfl
  | some e => show some (if i ∈ Z then _ else e) = _; rw [if_neg h]
theorem seq_old {f : D → Mch → Adds} {g : D → Nat} : ∀ {ps : List D} {m : Mch}, (∀ p ∈ ps, ∀ m, MOk m → AOk m (f p m) (g p) ∧ AOld m (f p m)) → MOk m → ∀ i, i < m.length → (seqP f ps m).1[i]? = m[i]?
  | [], m, _, _, i, _ => rfl
  | p :: ps, m, h, hm, i, hi => by
    obtain ⟨a, b⟩ := h p (by simp) m hm
    have al := a.len
    have := seq_old (ps := ps) (m := (f p m).1) (fun q hq => h q (by simp [hq])) a.ok i (by omega)
    exact this.trans (b i hi)
theorem row_old {f : D → Mch → Adds} {g : D → Nat} {m0 : Mch} : ∀ {ps : List D} {s : Adds} {n : Nat}, (∀ p ∈ ps, ∀ m, MOk m → AOk m (f p m) (g p) ∧ AOld m (f p m)) → AOk m0 s n → AOld m0 s → AOld m0 (rowP f ps s)
  | [], s, n, _, _, hs => hs
  | p :: ps, (m, S, Z), n, h, hs, ho => by
    obtain ⟨a, b⟩ := h p (by simp) m hs.ok
    have hF : ∀ x ∈ (f p m).2.1, x < (f p m).1.length := fun x hx => (a.f x hx).2
    have al := a.len
    have sl : m.length = m0.length + n := hs.len
    have step : AOk m0 (linkP (f p m).1 Z (f p m).2.1, S, (f p m).2.2) (n + g p) := ⟨a.ok.link hF, by show (linkP _ _ _).length = _; rw [link_len]; omega, fun i hi => by
      show _ ∧ i < (linkP _ _ _).length
      rw [link_len]; have := hs.f i hi; have : i < m.length := this.2; have := (hs.f i hi).1; omega, fun i hi => by
      show _ ∧ i < (linkP _ _ _).length
      rw [link_len]; have := a.z i hi; omega, Nat.le_trans hs.fl (by omega), Nat.le_trans a.zl (by omega)⟩
    refine row_old (ps := ps) (fun q hq => h q (by simp [hq])) step fun i hi => ?_
    show (linkP (f p m).1 Z (f p m).2.1)[i]? = _
    rw [link_out fun z => by have := (hs.z i z).1; omega, b i (by omega)]
    exact ho i hi
theorem add_old : ∀ (k : Nat) {d : D}, isN k d = true → ∀ m, MOk m → AOld m (addP k d m)
  | 0, _, h, _, _ => by cases h
  | k + 1, d, h, m, hm => by
    obtain ⟨x, e, rfl, hc⟩ := isN_form h
    rcases hc with ⟨rfl, y, rfl, hy⟩ | ⟨rfl | rfl, ps, rfl, hp2, hp4, hps⟩ | ⟨rfl, he⟩
    · rw [addP_one]
      exact fun i hi => List.getElem?_append_left hi
    · rw [addP_any]
      exact seq_old (g := fun d => (clsN k d).length) (fun p hp m hm => ⟨add_ok k (hps p hp) m hm, add_old k (hps p hp) m hm⟩) hm
    · match ps, hp2, hps with
      | p :: ps, hp2, hps =>
        rw [addP_row]
        exact row_old (g := fun d => (clsN k d).length) (fun q hq m hm => ⟨add_ok k (hps q (by simp [hq])) m hm, add_old k (hps q (by simp [hq])) m hm⟩) (add_ok k (hps p (by simp)) m hm) (add_old k (hps p (by simp)) m hm)
    · rw [addP_many]
      have a := add_ok k he m hm
      intro i hi
      show (linkP _ _ _)[i]? = _
      rw [link_out fun z => by have := (a.z i z).1; omega]
      exact add_old k he m hm i hi
end

end Law
end
section
set_option Elab.async false
set_option maxRecDepth 100000
set_option maxHeartbeats 4000000
set_option linter.all false
set_option autoImplicit false
namespace Law
open PySem PySem.Spec PyProof.Rows L2 DL TL TrA TrA.Tr
section
variable [TabCtx] {P : Program} {w : World} {K : KB} {mg : Str → Option Value} {base : Heap} {f : Addr} {fd : FuncData} {plC : Addr}
/-- an instance of Places: what it reads, what comes behind -/
structure PlAt (plC : Addr) (R : Rs) (r q a : Addr) (m : Mch) : Prop where
  ins : ∃ dx fs, R r = some (.ins plC dx fs) ∧ fs.lookup ("read" : Str) = some (.ref q) ∧ fs.lookup ("after" : Str) = some (.ref a) ∧ ∀ x ∈ fs.map (·.1), x ∈ (["read", "after", "starts", "ends"] : List Str)
  hq : R q = some (.lst (rdD m))
  ha : R a = some (.dK (aftK m))
  qa : q ≠ a
  rq : r ≠ q
  ra : r ≠ a
def plPut (R : Rs) (q a : Addr) (m : Mch) : Rs := put (put R q (.lst (rdD m))) a (.dK (aftK m))
section
variable {R : Rs} {r q a : Addr} {m m' : Mch}
theorem plPut2 (h : q ≠ a) : plPut (plPut R q a m) q a m' = plPut R q a m' := by
  unfold plPut
  rw [put_comm h.symm, put_put, put_put]
theorem PlAt.same (h : PlAt plC R r q a m) : plPut R q a m = R := by
  unfold plPut
  rw [put_self h.hq, put_self h.ha]
theorem PlAt.put (h : PlAt plC R r q a m) (m' : Mch) : PlAt plC (plPut R q a m') r q a m' := by
  obtain ⟨dx, fs, h1, h2⟩ := h.ins
  exact ⟨⟨dx, fs, by unfold plPut; rw [put_ne h.ra, put_ne h.rq]; exact h1, h2⟩, by unfold plPut; rw [put_ne h.qa, put_same], put_same, h.qa, h.rq, h.ra⟩
theorem PlAt.fread (h : PlAt plC R r q a m) : fldOf R (.ref r) plC "read" (.ref q) := by
  obtain ⟨dx, fs, h1, h2, _, _⟩ := h.ins
  exact ⟨dx, fs, h1, h2⟩
theorem PlAt.fafter (h : PlAt plC R r q a m) : fldOf R (.ref r) plC "after" (.ref a) := by
  obtain ⟨dx, fs, h1, _, h2, _⟩ := h.ins
  exact ⟨dx, fs, h1, h2⟩
theorem PlAt.insA {x : Str} (h : PlAt plC R r q a m) (hx : x ∉ (["read", "after", "starts", "ends"] : List Str)) : insAt R (.ref r) plC x := by
  obtain ⟨dx, fs, h1, _, _, h2⟩ := h.ins
  exact ⟨dx, fs, h1, fun z => hx (h2 x z)⟩
theorem PlAt.dk (h : PlAt plC R r q a m) : dkOf R (.ref a) = some (aftK m) := by simp only [dkOf, h.ha]
/-- the dict alone is changed -/
theorem plPut_a (h : PlAt plC R r q a m) (hr : rdD m' = rdD m) : Law.plPut R q a m' = DL.put R a (.dK (aftK m')) := by
  unfold plPut
  rw [hr, put_self h.hq]
end
/-- a set that is filled with whole numbers -/
def PSet (xs : List Nat) (R : Rs) (i : Nat) (acc : List Int) (R' : Rs) : Prop := R' = R ∧ acc.Nodup ∧ ∀ k : Int, k ∈ acc ↔ ∃ n : Nat, k = n ∧ n ∈ xs.take i
theorem PSet.nil {xs : List Nat} {R : Rs} : PSet xs R 0 [] R := ⟨rfl, List.nodup_nil, fun k => by simp⟩
theorem PSet.go {xs : List Nat} {R R' : Rs} {i n : Nat} {acc : List Int} (h : PSet xs R i acc R') (hx : xs[i]? = some n) : PSet xs R (i + 1) (insI acc n) R' := ⟨h.1, insI_nodup h.2.1, fun k => by
  rw [insI_mem, h.2.2 k, List.take_add_one, hx]
  constructor
  · rintro (⟨j, e, hj⟩ | e)
    · exact ⟨j, e, List.mem_append_left _ hj⟩
    · exact ⟨n, e, List.mem_append_right _ (by simp)⟩
  · rintro ⟨j, e, hj⟩
    rcases List.mem_append.mp hj with z | z
    · exact .inl ⟨j, e, z⟩
    · have : j = n := by simpa using z
      rw [this] at e
      exact .inr e⟩
theorem PSet.len {xs : List Nat} {R R' : Rs} {i b : Nat} {acc : List Int} (h : PSet xs R i acc R') (hb : ∀ x ∈ xs, x < b) : acc.length ≤ b := nodup_len b h.2.1 fun k hk => by
  obtain ⟨n, e, hn⟩ := (h.2.2 k).mp hk
  have := hb n (List.mem_of_mem_take hn)
  omega
theorem PSet.end {xs : List Nat} {R R' : Rs} {b : Nat} {acc ns : List Int} (h : PSet xs R xs.length acc R') (hb : ∀ x ∈ xs, x < b) (h1 : ns.Pairwise (· < ·)) (h2 : ∀ k, k ∈ ns ↔ k ∈ acc) : R' = R ∧ D.lst (ns.map D.int) = natD (upS b xs) := ⟨h.1, natD_asc h1 hb fun k => by rw [h2 k, h.2.2 k, List.take_length]⟩
theorem aftK_len (m : Mch) : (aftK m).length = m.length := aftF_len m 0
abbrev s_Places_link : Stmt := inClass (top 20) 3
abbrev n_Places_link : List Str := ["self", "lasts", "firsts", "place", "one"]
theorem sc_Places_link : FnScope n_Places_link ["self", "lasts", "firsts"] (defScope s_Places_link) := ⟨rfl, rfl, rfl, by decide +kernel, rfl, by decide +kernel, by decide +kernel⟩
def spLink (plC : Addr) : DSp := fun ds R Q _ => ∃ (r q a : Addr) (m : Mch) (Z F : List Nat), ds = [.ref r, natD Z, natD F] ∧ PlAt plC R r q a m ∧ MOk m ∧ m.length ≤ 60 ∧ (∀ x ∈ Z, x < m.length) ∧ (∀ x ∈ F, x < m.length) ∧ F.length ≤ 60 ∧ Q .non (plPut R q a (linkP m Z F))
def WLk (R : Rs) (r q a : Addr) (m : Mch) (Z F : List Nat) (i : Nat) (s' : DSt) (R' : Rs) : Prop := ∃ j : Option D, R' = plPut R q a (linkP m (Z.take i) F) ∧ s' = [some (.ref r), some (natD Z), some (natD F), j, none]
theorem ok_link (F : Fun K "link" "Places.link" s_Places_link f fd) (Z : Blt mg bl) (cl_Places : Cls K plC) (na_Places_after : NoAttr K plC "after") : FnG P w K mg base CX0 1 f fd ["self", "lasts", "firsts"] (spOf K (spLink plC)) := by
  refine okD F sc_Places_link (fun ds R Q E h => by obtain ⟨r, q, a, m, Z, F, rfl, _⟩ := h; rfl) fun cdv A outer s H E gd hr => ?_
  refine ⟨_, (dss_one (ds_for PassesOwn.never rfl (di_list (dv 1)) (dg_name (i := 3) sc_Places_link.nd rfl (.inl rfl)) (dss_one (ds_asg (de_sortSc1 (own := [("one", 4)]) rfl (by rfl) (Z _ (by decide)) sc_Places_link.nd (di_list (de_op od_catF (de_dgetK (hu_of hr) (de_fld cl_Places na_Places_after (dv 0)) (dv 3)) (dv 2))) (blkOk_by (N := n_Places_link) (sc := defScope s_Places_link) (by decide +kernel)) (fun _ _ _ _ _ => (dgw_name (i := 4) sc_Places_link.nd rfl (.inl rfl))) (fun _ _ _ _ _ => dts_nil) (fun _ _ _ _ _ => (dv 4))) (dg_sub (de_fld cl_Places na_Places_after (dv 0)) (dv 3) (dset_dk (hu_of hr))))))), fun ds R Qd Ed h => ?_⟩
  obtain ⟨r, q, a, m, Z, F, rfl, hat, hm, hml, hZ, hF, hFl, qq⟩ := h
  simp only [dFor, dSeq, dGetK, rdInK, dGetT, dInT, rdSetK, dNewK, dDcF, dDc2F, dIEnum, dIZip, dISeq, dStar, dCont, dBrk, dOrT, rdInC, dCallK, dCVal, dMeth, dFld, dSetF, dNewF, dNew0F, dDisp, dPairs, dGet2, dGIndex, DL.keyOf, DL.keysOf, dCallL, dLam, dJoin, dJs, dFmtS, dRepl, dRaise, dCallX, dDelTail, dAugL, dXF, dAsg, dIf, dIfS, dB, dAnd, dOr, dNot, dAndV, dOrV, dNotV, dChain, dOp, dUn, dVar, dC, rdI0, rdI, dCB, dCall, rd1, dCons, dNil, dgName, dgSub, dgTup, dgLst, dSortSet, dgCons, dgNil, rdSetL, dRet, dLst, dLstF, dTup, dDrop, dNext, dPar, dBM, dBM0, dSl, dPart, dNoPart, dstart, dwipe, List.map_cons, List.map_nil, List.length_cons, List.length_nil, List.replicate_succ, List.replicate_zero, List.cons_append, List.nil_append, List.set_cons_zero, List.set_cons_succ, List.getElem?_cons_zero, List.getElem?_cons_succ, Nat.reduceAdd, Nat.reduceSub, Option.some.injEq, D.int.injEq, D.bl.injEq, D.str.injEq, D.ref.injEq, D.ty.injEq, D.tup.injEq, D.lst.injEq, D.rls.injEq, RO.lst.injEq, List.cons.injEq, exists_and_left, exists_eq_left', exists_eq_left, and_true, true_and, put_same, put_put, at0, at1, at2, ix30, ix31, ix32, and_assoc, dLcF, dLc, dLcT, dIRng1, dIRng2, dIRng3, dIStr, dITup, dILst, dYes, if_true, Bool.false_eq_true, if_false, eqS_ii, neS_ii, eqS_ss, neS_ss, decide_eq_true_eq, sq_tup, sq_lst, sq_rls, lo_lst, lo_rls, tr_lst, isi_tt, isi_st, isi_nt, isi_bt, isi_it, isi_lt, isi_ts, isi_ss, isi_ns, isi_bs, isi_is, isi_ls, List.append_nil, sz0, sz1, sz2, sz3, sz4, sz5, sz6, sl0, sl1, sl2, ty_put, ty_str, lo_put, sq_put, tr_put, reduceCtorEq, false_and, and_false, exists_false, or_false, false_or, Bool.not_false, Bool.not_true, List.isEmpty_nil, List.isEmpty_cons, app1_empty, dSortSc1]
  refine ⟨_, .inl ⟨rfl, WLk R r q a m Z F, ⟨none, by rw [List.take_zero, link_nil]; exact hat.same.symm, rfl⟩, fun _ _ _ _ _ => trivial, ?_, ?_⟩⟩
  · rintro i y s' R' hy ⟨j, rfl, rfl⟩
    obtain ⟨z, rfl, hz, hzi, ht⟩ := take_step (c := fun n => D.int (n : Nat)) hy
    have h1 := hat.put (linkP m (Z.take i) F)
    have hzl : z < (linkP m (Z.take i) F).length := by rw [link_len]; exact hZ z hz
    obtain ⟨e, he⟩ : ∃ e, (linkP m (Z.take i) F)[z]? = some e := ⟨_, List.getElem?_eq_getElem hzl⟩
    have hok := (hm.link (Z := Z.take i) hF) e (List.mem_of_getElem? he)
    rw [link_len] at hok
    refine ⟨_, rfl, _, h1.fafter, _, rfl, _, h1.dk, _, rfl, natD e.2, by rw [aftK_val, he]; rfl, _, rfl, _, rfl, _, rfl, ?_⟩
    rw [← List.map_append]
    have hb : ∀ x ∈ e.2 ++ F, x < m.length := fun x hx => (List.mem_append.mp hx).elim (hok.1 x) (hF x)
    refine ⟨by rw [List.length_map, List.length_map]; simp only [sizeLine]; omega, PSet (e.2 ++ F) (plPut R q a (linkP m (Z.take i) F)), PSet.nil, fun j acc R' _ hp => by have := hp.len hb; omega, ?_, ?_⟩
    · rintro j2 y acc R' hy2 hp
      obtain ⟨n, rfl, _, hn, _⟩ := take_step (c := fun n => D.int (n : Nat)) hy2
      exact ⟨_, rfl, _, rfl, hp.go hn⟩
    · rintro acc R' hp
      rw [List.length_map] at hp
      have hl := hp.len hb
      refine ⟨by omega, fun ns h3 h4 => ?_⟩
      obtain ⟨rfl, e5⟩ := hp.end hb h3 h4
      rw [e5]
      refine ⟨_, rfl, _, h1.fafter, _, rfl, _, rfl, _, _, rfl, h1.ha, by rw [aftK_len, link_len]; omega, some (.int (z : Nat)), ?_, rfl⟩
      rw [aftK_set he, link_snoc hm hF he, ← ht]
      have h6 := plPut_a h1 (m' := linkP m (Z.take (i + 1)) F) (by rw [link_rd, link_rd])
      rw [plPut2 hat.qa] at h6
      exact h6.symm
  · rintro s' R' ⟨j, rfl, rfl⟩
    rw [List.length_map, List.take_length]
    exact fin qq
end

end Law
end
section
set_option Elab.async false
set_option maxRecDepth 100000
set_option maxHeartbeats 4000000
set_option linter.all false
set_option autoImplicit false
namespace Law
open PySem PySem.Spec PyProof.Rows L2 DL TL TrA TrA.Tr
section
variable [TabCtx] {P : Program} {w : World} {K : KB} {mg : Str → Option Value} {base : Heap} {f : Addr} {fd : FuncData} {plC : Addr}
def pairD (s : List Nat × List Nat) : D := .tup [natD s.1, natD s.2]
def spAdd (plC : Addr) (n : Nat) : DSp := fun ds R Q _ => ∃ (r q a : Addr) (m : Mch) (d : D) (k : Nat), ds = [.ref r, d] ∧ k < n ∧ k ≤ 6 ∧ isN k d = true ∧ PlAt plC R r q a m ∧ MOk m ∧ m.length + (clsN k d).length ≤ 60 ∧ Q (pairD (addP k d m).2) (plPut R q a (addP k d m).1)
def spRow (plC : Addr) (n : Nat) : DSp := fun ds R Q _ => ∃ (r q a : Addr) (m : Mch) (p : D) (ps : List D) (k : Nat), ds = [.ref r, .tup (p :: ps)] ∧ k < n ∧ k ≤ 6 ∧ (∀ d ∈ p :: ps, isN k d = true) ∧ ps.length ≤ 3 ∧ PlAt plC R r q a m ∧ MOk m ∧ m.length + ((p :: ps).flatMap (clsN k)).length ≤ 60 ∧ Q (pairD (rowP (addP k) ps (addP k p m)).2) (plPut R q a (rowP (addP k) ps (addP k p m)).1)
theorem seqP_snoc (f : D → Mch → Adds) : ∀ (l : List D) (p : D) (m : Mch), seqP f (l ++ [p]) m = ((f p (seqP f l m).1).1, (seqP f l m).2 ++ [(f p (seqP f l m).1).2])
  | [], p, m => rfl
  | a :: l, p, m => by
    show ((seqP f (l ++ [p]) (f a m).1).1, (f a m).2 :: (seqP f (l ++ [p]) (f a m).1).2) = _
    rw [seqP_snoc f l p (f a m).1]
    rfl
theorem sum_take (g : D → Nat) : ∀ (l : List D) (i : Nat) (x : D), l[i]? = some x → ((l.take i).map g).sum + g x ≤ (l.map g).sum
  | [], i, x, h => by simp at h
  | a :: l, 0, x, h => by
    have : a = x := by simpa using h
    subst this
    simp
  | a :: l, i + 1, x, h => by
    have := sum_take g l i x (by simpa using h)
    rw [List.take_succ_cons, List.map_cons, List.sum_cons, List.map_cons, List.sum_cons]
    omega
def PAny (k : Nat) (ps : List D) (R : Rs) (q a : Addr) (m : Mch) (i : Nat) (acc : List D) (R' : Rs) : Prop := acc = (seqP (addP k) (ps.take i) m).2.map pairD ∧ R' = plPut R q a (seqP (addP k) (ps.take i) m).1
def PFl (l : List (List Nat × List Nat)) (g : List Nat × List Nat → List Nat) (R : Rs) (i : Nat) (acc : List D) (R' : Rs) : Prop := R' = R ∧ acc = ((l.take i).flatMap g).map fun n => D.int (n : Nat)
def PFl1 (l : List (List Nat × List Nat)) (g : List Nat × List Nat → List Nat) (i : Nat) (xs : List Nat) (R : Rs) (j : Nat) (acc : List D) (R' : Rs) : Prop := R' = R ∧ acc = ((l.take i).flatMap g ++ xs.take j).map fun n => D.int (n : Nat)
theorem fl_le (l : List (List Nat × List Nat)) (g : List Nat × List Nat → List Nat) (i : Nat) : ((l.take i).flatMap g).length ≤ (l.flatMap g).length := by
  conv => rhs; rw [← List.take_append_drop i l, List.flatMap_append, List.length_append]
  omega
theorem PFl.next {l : List (List Nat × List Nat)} {g : List Nat × List Nat → List Nat} {R : Rs} {i : Nat} {s : List Nat × List Nat} {acc : List D} {R' : Rs} (hs : l[i]? = some s) (h : PFl1 l g i (g s) R ((g s).map fun n => D.int (n : Nat)).length acc R') : PFl l g R (i + 1) acc R' := ⟨h.1, by
  rw [h.2, List.length_map, List.take_length, List.take_add_one, hs, List.flatMap_append]
  simp⟩
abbrev s_Places_add : Stmt := inClass (top 20) 1
abbrev n_Places_add : List Str := ["self", "pattern", "kind", "inner", "place", "found", "firsts", "lasts", "part"]
theorem sc_Places_add : FnScope n_Places_add ["self", "pattern"] (defScope s_Places_add) := ⟨rfl, rfl, rfl, by decide +kernel, rfl, by decide +kernel, by decide +kernel⟩
theorem step_add {n : Nat} (F : Fun K "add" "Places.add" s_Places_add f fd) (Z : Blt mg bl) (cl_Places : Cls K plC) (na_Places_after : NoAttr K plC "after") (na_Places_read : NoAttr K plC "read") (m_Places_link : MetD P w K mg base 1 plC "link" (spLink plC)) (m_Places_add : MetD P w K mg base (2 * n + 2) plC "add" (spAdd plC n)) (m_Places_add_row : MetD P w K mg base (2 * n + 3) plC "add_row" (spRow plC n)) : FnG P w K mg base CX0 (2 * n + 4) f fd ["self", "pattern"] (spOf K (spAdd plC (n + 1))) := by
  refine okD F sc_Places_add (fun ds R Q E h => by obtain ⟨r, q, a, m, d, k, rfl, _⟩ := h; rfl) fun cdv A outer s H E gd hr => ?_
  refine ⟨_, (dss_cons (ds_asg (dv 1) (dg_tup (n := 2) rfl (dgs_cons (dg_name (i := 2) sc_Places_add.nd rfl (.inl rfl)) (dgs_cons (dg_name (i := 3) sc_Places_add.nd rfl (.inl rfl)) dgs_nil))))
    (dss_cons (ds_match (dv 2) (McD.cons .val (dss_cons (ds_asg (de_callB cd_len (by rfl) (Z _ (by decide)) bt_len (da_cons (de_fld cl_Places na_Places_read (dv 0)) da_nil)) (dg_name (i := 4) sc_Places_add.nd rfl (.inl rfl)))
      (dss_cons (ds_expr (de_bm PySem.F.plainAttrs_list PySem.F.slot_list_append PySem.F.type_list_append md_append (de_fld cl_Places na_Places_read (dv 0)) (da_cons (dv 3) da_nil)))
      (dss_cons (ds_asg (de_lstF da_nil) (dg_sub (de_fld cl_Places na_Places_after (dv 0)) (dv 4) (dset_dk (hu_of hr))))
      (dss_one (ds_ret (de_tup (da_cons (de_lstF (da_cons (dv 4) da_nil)) (da_cons (de_lstF (da_cons (dv 4) da_nil)) da_nil)))))))) (McD.cons .val (dss_cons (ds_setLcF (i := 5) (own := [("part", 8)]) rfl sc_Places_add.nd rfl rfl (sw_true rfl rfl rfl (by decide +kernel)) (lcd (di_tup (dv 3)) (blkOk_by (N := n_Places_add) (sc := defScope s_Places_add) (by decide +kernel)) (fun _ _ _ _ _ => (dgw_name (i := 8) sc_Places_add.nd rfl (.inl rfl))) (fun _ _ _ _ _ => dts_nil) (fun _ _ _ _ _ => (de_meth m_Places_add gd hr (by omega) (dv 0) (da_cons (dv 8) da_nil)))))
      (dss_one (ds_ret (de_tup (da_cons (de_lc2F (own := [("firsts", 6), ("lasts", 7), ("place", 4)]) (vs1 := [4]) rfl sc_Places_add.nd (di_list (dv 5)) (blkOk_by (N := n_Places_add) (sc := defScope s_Places_add) (by decide +kernel)) (by decide) (fun _ _ _ _ _ => (dgw_tup (n := 2) rfl (dgsw_cons (dgw_name (i := 6) sc_Places_add.nd rfl (.inl rfl)) (dgsw_cons (dgw_name (i := 7) sc_Places_add.nd rfl (.inl rfl)) dgsw_nil)))) (fun _ _ _ _ _ => dts_nil) (fun _ _ _ _ _ => (di_list (dv 6))) (fun _ _ _ _ _ => (dgw_name (i := 4) sc_Places_add.nd rfl (.inl rfl))) (fun _ _ _ _ _ => dts_nil) (fun _ _ _ _ _ => (dv 4))) (da_cons (de_lc2F (own := [("firsts", 6), ("lasts", 7), ("place", 4)]) (vs1 := [4]) rfl sc_Places_add.nd (di_list (dv 5)) (blkOk_by (N := n_Places_add) (sc := defScope s_Places_add) (by decide +kernel)) (by decide) (fun _ _ _ _ _ => (dgw_tup (n := 2) rfl (dgsw_cons (dgw_name (i := 6) sc_Places_add.nd rfl (.inl rfl)) (dgsw_cons (dgw_name (i := 7) sc_Places_add.nd rfl (.inl rfl)) dgsw_nil)))) (fun _ _ _ _ _ => dts_nil) (fun _ _ _ _ _ => (di_list (dv 7))) (fun _ _ _ _ _ => (dgw_name (i := 4) sc_Places_add.nd rfl (.inl rfl))) (fun _ _ _ _ _ => dts_nil) (fun _ _ _ _ _ => (dv 4))) da_nil)))))) (McD.cons .val (dss_one (ds_ret (de_meth m_Places_add_row gd hr (by omega) (dv 0) (da_cons (dv 3) da_nil)))) McD.nil))))
    (dss_cons (ds_asg (de_meth m_Places_add gd hr (by omega) (dv 0) (da_cons (dv 3) da_nil)) (dg_tup (n := 2) rfl (dgs_cons (dg_name (i := 6) sc_Places_add.nd rfl (.inl rfl)) (dgs_cons (dg_name (i := 7) sc_Places_add.nd rfl (.inl rfl)) dgs_nil))))
    (dss_cons (ds_expr (de_meth m_Places_link gd hr (by omega) (dv 0) (da_cons (dv 7) (da_cons (dv 6) da_nil))))
    (dss_one (ds_ret (de_tup (da_cons (dv 6) (da_cons (dv 7) da_nil))))))))), fun ds R Qd Ed h => ?_⟩
  obtain ⟨r, q, a, m, d, k, rfl, hk, hk6, hd, hat, hm, hml, qq⟩ := h
  simp only [dSeq, dGetK, rdInK, dGetT, dInT, rdSetK, dNewK, dDcF, dDc2F, dIEnum, dIZip, dISeq, dStar, dCont, dBrk, dOrT, rdInC, dCallK, dCVal, dMeth, dFld, dSetF, dNewF, dNew0F, dDisp, dPairs, dGet2, dGIndex, DL.keyOf, DL.keysOf, dCallL, dLam, dJoin, dJs, dFmtS, dRepl, dRaise, dCallX, dDelTail, dAugL, dXF, dAsg, dIf, dIfS, dB, dAnd, dOr, dNot, dAndV, dOrV, dNotV, dChain, dOp, dUn, dVar, dC, rdI0, rdI, dCB, dCall, rd1, dCons, dNil, dgName, dgSub, dgTup, dgLst, dSortSet, dgCons, dgNil, rdSetL, dRet, dLst, dLstF, dTup, dDrop, dNext, dPar, dBM, dBM0, dSl, dPart, dNoPart, dstart, dwipe, List.map_cons, List.map_nil, List.length_cons, List.length_nil, List.replicate_succ, List.replicate_zero, List.cons_append, List.nil_append, List.set_cons_zero, List.set_cons_succ, List.getElem?_cons_zero, List.getElem?_cons_succ, Nat.reduceAdd, Nat.reduceSub, Option.some.injEq, D.int.injEq, D.bl.injEq, D.str.injEq, D.ref.injEq, D.ty.injEq, D.tup.injEq, D.lst.injEq, D.rls.injEq, RO.lst.injEq, List.cons.injEq, exists_and_left, exists_eq_left', exists_eq_left, and_true, true_and, put_same, put_put, at0, at1, at2, ix30, ix31, ix32, and_assoc, dLcF, dLc, dLcT, dIRng1, dIRng2, dIRng3, dIStr, dITup, dILst, dYes, if_true, Bool.false_eq_true, if_false, eqS_ii, neS_ii, eqS_ss, neS_ss, decide_eq_true_eq, sq_tup, sq_lst, sq_rls, lo_lst, lo_rls, tr_lst, isi_tt, isi_st, isi_nt, isi_bt, isi_it, isi_lt, isi_ts, isi_ss, isi_ns, isi_bs, isi_is, isi_ls, List.append_nil, sz0, sz1, sz2, sz3, sz4, sz5, sz6, sl0, sl1, sl2, ty_put, ty_str, lo_put, sq_put, tr_put, reduceCtorEq, false_and, and_false, exists_false, or_false, false_or, Bool.not_false, Bool.not_true, List.isEmpty_nil, List.isEmpty_cons, app1_empty, dLc2F, dMatch, dGoM]
  obtain ⟨k, rfl⟩ : ∃ j, k = j + 1 := by
    cases k with
    | zero => cases hd
    | succ j => exact ⟨j, rfl⟩
  obtain ⟨x, e, rfl, hc⟩ := isN_form hd
  refine ⟨_, rfl, rfl, _, _, rfl, _, _, rfl, rfl, x, rfl, ?_⟩
  rcases hc with ⟨rfl, y, rfl, hy⟩ | ⟨rfl | rfl, ps, rfl, hp2, hp4, hps⟩ | ⟨rfl, he⟩
  · rw [addP_one] at qq
    rw [clsN_one] at hml
    have hml : m.length + 1 ≤ 60 := hml
    have hrl : (rdD m).length = m.length := List.length_map _
    obtain ⟨dx, fs, i1, i2, i3, i4⟩ := hat.ins
    refine iteT (by simp) ⟨_, hat.fread, _, sq_ref hat.hq, _, hat.fread, .inl ⟨rfl, _, hat.hq⟩, q, rfl, _, hat.hq, by rw [hrl]; simp only [sizeLine]; omega, _, ⟨dx, fs, by rw [put_ne hat.rq]; exact i1, i3⟩, a, rfl, aftK m, by rw [put_ne hat.qa.symm]; exact hat.ha, by rw [aftK_len]; omega, fin ?_⟩
    rw [hrl, show D.lst [] = natD [] from rfl, aftK_new (x := y)]
    have e1 : rdD (m ++ [(y, [])]) = rdD m ++ [.str y] := by unfold rdD; rw [List.map_append]; rfl
    unfold plPut at qq
    rw [e1] at qq
    exact qq
  · rw [addP_any] at qq
    rw [clsN_any, ← sum_len (fun d => (clsN k d).length) (clsN k) fun _ _ => rfl] at hml
    have sok : ∀ l : List D, (∀ p ∈ l, p ∈ ps) → AOk m ((seqP (addP k) l m).1, (seqP (addP k) l m).2.flatMap (·.1), (seqP (addP k) l m).2.flatMap (·.2)) ((l.map fun d => (clsN k d).length).sum) := fun l hl => seq_ok (fun p hp m hm => add_ok k (hps p (hl p hp)) m hm) hm
    refine iteF (by decide +kernel) (iteT (by simp) ⟨ps, rfl, by simp only [sizeLine]; omega, PAny k ps R q a m, ⟨rfl, hat.same.symm⟩, fun _ _ _ _ _ => trivial, ?_, ?_⟩)
    · rintro i x1 acc R' hx _ ⟨rfl, rfl⟩
      have ok := sok (ps.take i) fun p hp => List.mem_of_mem_take hp
      have hl := ok.len
      have hl : (seqP (addP k) (ps.take i) m).1.length = m.length + ((ps.take i).map fun d => (clsN k d).length).sum := hl
      have hs := sum_take (fun d => (clsN k d).length) ps i x1 hx
      have h1 := hat.put (seqP (addP k) (ps.take i) m).1
      refine ⟨h1.insA (by decide +kernel), r, q, a, _, x1, k, rfl, by omega, by omega, hps x1 (List.mem_of_getElem? hx), h1, ok.ok, by omega, ?_⟩
      have ht : ps.take (i + 1) = ps.take i ++ [x1] := by rw [List.take_add_one, hx]; rfl
      rw [plPut2 hat.qa]
      exact ⟨by rw [ht, seqP_snoc, List.map_append]; rfl, by rw [ht, seqP_snoc]⟩
    · rintro acc R' _ ⟨rfl, rfl⟩
      rw [List.take_length]
      have ok := sok ps fun p hp => hp
      have f1 := ok.fl
      have f2 := ok.zl
      generalize (seqP (addP k) ps m).2 = l at *
      have f1 : (l.flatMap (·.1)).length ≤ (ps.map fun d => (clsN k d).length).sum := f1
      have f2 : (l.flatMap (·.2)).length ≤ (ps.map fun d => (clsN k d).length).sum := f2
      have go : ∀ (g : List Nat × List Nat → List Nat) (R : Rs), (l.flatMap g).length ≤ (ps.map fun d => (clsN k d).length).sum → ∀ (i : Nat) (s : List Nat × List Nat) (j : Nat) (acc : List D) (R' : Rs), l[i]? = some s → j ≤ ((g s).map fun n => D.int (n : Nat)).length → PFl1 l g i (g s) R j acc R' → acc.length < 100000 := fun g R hg i s j acc R' hs hj h => by
        have h1 := fl_le l g (i + 1)
        rw [List.take_add_one, hs, List.flatMap_append, List.length_append] at h1
        have h2 : ((some s).toList.flatMap g).length = (g s).length := by simp
        rw [List.length_map] at hj
        rw [h.2, List.length_map, List.length_append, List.length_take]
        omega
      refine ⟨PFl l (·.1) _, ⟨rfl, rfl⟩, fun _ _ _ _ _ => trivial, ?_, ?_⟩
      · rintro i x1 acc R' hx ⟨rfl, rfl⟩
        obtain ⟨s, rfl, _, hs, _⟩ := take_step hx
        refine ⟨_, rfl, rfl, _, _, rfl, _, _, rfl, rfl, _, .inl ⟨rfl, PFl1 l (·.1) i s.1 _, ⟨rfl, by simp⟩, fun j acc R' hj h => go (·.1) _ f1 i s j acc R' hs hj h, ?_, fun acc R' h => PFl.next hs h⟩⟩
        rintro j y acc R' hy ⟨rfl, rfl⟩
        obtain ⟨n0, rfl, _, _, hn⟩ := take_step (c := fun n => D.int (n : Nat)) hy
        exact ⟨rfl, by rw [hn, ← List.append_assoc]; simp⟩
      · rintro acc R' ⟨rfl, rfl⟩
        refine ⟨PFl l (·.2) _, ⟨rfl, rfl⟩, fun _ _ _ _ _ => trivial, ?_, ?_⟩
        · rintro i x1 acc R' hx ⟨rfl, rfl⟩
          obtain ⟨s, rfl, _, hs, _⟩ := take_step hx
          refine ⟨_, rfl, rfl, _, _, rfl, _, _, rfl, rfl, _, .inl ⟨rfl, PFl1 l (·.2) i s.2 _, ⟨rfl, by simp⟩, fun j acc R' hj h => go (·.2) _ f2 i s j acc R' hs hj h, ?_, fun acc R' h => PFl.next hs h⟩⟩
          rintro j y acc R' hy ⟨rfl, rfl⟩
          obtain ⟨n0, rfl, _, _, hn⟩ := take_step (c := fun n => D.int (n : Nat)) hy
          exact ⟨rfl, by rw [hn, ← List.append_assoc]; simp⟩
        · rintro acc R' ⟨rfl, rfl⟩
          rw [List.length_map, List.take_length]
          exact fin qq
  · obtain ⟨p, ps, rfl⟩ : ∃ p0 ps0, ps = p0 :: ps0 := by
      cases ps with
      | nil => simp at hp2
      | cons a b => exact ⟨a, b, rfl⟩
    rw [addP_row] at qq
    rw [clsN_row] at hml
    rw [List.length_cons] at hp4
    exact iteF (by decide +kernel) (iteF (by decide +kernel) (iteT (by simp) ⟨hat.insA (by decide +kernel), r, q, a, m, p, ps, k, rfl, by omega, by omega, hps, by omega, hat, hm, hml, fin qq⟩))
  · rw [addP_many] at qq
    rw [clsN_many] at hml
    have ok := add_ok k he m hm
    have ol := ok.len
    have ofl := ok.fl
    have h1 := hat.put (addP k e m).1
    refine iteF (by decide +kernel) (iteF (by decide +kernel) (iteF (by decide +kernel) ⟨hat.insA (by decide +kernel), r, q, a, m, e, k, rfl, by omega, by omega, he, hat, hm, hml, _, rfl, rfl, _, _, rfl, _, _, rfl, rfl, h1.insA (by decide +kernel), r, q, a, _, (addP k e m).2.2, (addP k e m).2.1, rfl, h1, ok.ok, by omega, fun x hx => (ok.z x hx).2, fun x hx => (ok.f x hx).2, by omega, fin ?_⟩))
    rw [plPut2 hat.qa]
    exact qq
theorem AOk.row {m0 : Mch} {s t : Adds} {n g : Nat} (hs : AOk m0 s n) (a : AOk s.1 t g) : AOk m0 (linkP t.1 s.2.2 t.2.1, s.2.1, t.2.2) (n + g) := by
  have hF : ∀ x ∈ t.2.1, x < t.1.length := fun x hx => (a.f x hx).2
  have al := a.len
  have sl := hs.len
  exact ⟨a.ok.link hF, by show (linkP _ _ _).length = _; rw [link_len]; omega, fun i hi => by
    show _ ∧ i < (linkP _ _ _).length
    rw [link_len]; have := hs.f i hi; omega, fun i hi => by
    show _ ∧ i < (linkP _ _ _).length
    rw [link_len]; have := a.z i hi; omega, Nat.le_trans hs.fl (by omega), Nat.le_trans a.zl (by omega)⟩
theorem cut_drop1 {xs : List D} : DL.cutD xs (some 1) none = xs.drop 1 := by
  by_cases h : xs = []
  · rw [h]; rfl
  · have := List.length_pos_iff.mpr h
    exact cut_drop (k := 1) (by omega) (by omega)
abbrev s_Places_add_row : Stmt := inClass (top 20) 2
abbrev n_Places_add_row : List Str := ["self", "parts", "starts", "lasts", "part", "firsts", "ends"]
theorem sc_Places_add_row : FnScope n_Places_add_row ["self", "parts"] (defScope s_Places_add_row) := ⟨rfl, rfl, rfl, by decide +kernel, rfl, by decide +kernel, by decide +kernel⟩
def stR (r : Addr) (ps : List D) (S Z : List Nat) (j1 j2 j3 : Option D) : DSt := [some (.ref r), some (.tup ps), some (natD S), some (natD Z), j1, j2, j3]
def WRow (k : Nat) (R : Rs) (r q a : Addr) (p : D) (ps : List D) (m : Mch) (i : Nat) (s' : DSt) (R' : Rs) : Prop := ∃ (s : Adds) (j1 j2 j3 : Option D), rowP (addP k) ps (addP k p m) = rowP (addP k) (ps.drop i) s ∧ AOk m s ((clsN k p).length + ((ps.take i).map fun d => (clsN k d).length).sum) ∧ R' = plPut R q a s.1 ∧ s' = stR r (p :: ps) s.2.1 s.2.2 j1 j2 j3
theorem step_row {n : Nat} (F : Fun K "add_row" "Places.add_row" s_Places_add_row f fd) (Z : Blt mg bl) (cl_Places : Cls K plC) (m_Places_link : MetD P w K mg base 1 plC "link" (spLink plC)) (m_Places_add : MetD P w K mg base (2 * n + 2) plC "add" (spAdd plC n)) : FnG P w K mg base CX0 (2 * n + 3) f fd ["self", "parts"] (spOf K (spRow plC n)) := by
  refine okD F sc_Places_add_row (fun ds R Q E h => by obtain ⟨r, q, a, m, p, ps, k, rfl, _⟩ := h; rfl) fun cdv A outer s H E gd hr => ?_
  refine ⟨_, (dss_cut (ds_asg (de_meth m_Places_add gd hr (by omega) (dv 0) (da_cons (de_ix xd_seq (dv 1) de_int (fun _ _ => rfl)) da_nil)) (dg_tup (n := 2) rfl (dgs_cons (dg_name (i := 2) sc_Places_add_row.nd rfl (.inl rfl)) (dgs_cons (dg_name (i := 3) sc_Places_add_row.nd rfl (.inl rfl)) dgs_nil))))
    (dss_cut (ds_for PassesOwn.never rfl (di_tup (de_slice sd_tup (dv 1) (do_some de_int) do_none)) (dg_name (i := 4) sc_Places_add_row.nd rfl (.inl rfl)) (dss_cons (ds_asg (de_meth m_Places_add gd hr (by omega) (dv 0) (da_cons (dv 4) da_nil)) (dg_tup (n := 2) rfl (dgs_cons (dg_name (i := 5) sc_Places_add_row.nd rfl (.inl rfl)) (dgs_cons (dg_name (i := 6) sc_Places_add_row.nd rfl (.inl rfl)) dgs_nil))))
      (dss_cons (ds_expr (de_meth m_Places_link gd hr (by omega) (dv 0) (da_cons (dv 3) (da_cons (dv 5) da_nil))))
      (dss_one (ds_asg (dv 6) (dg_name (i := 3) sc_Places_add_row.nd rfl (.inl rfl)))))))
    (dss_one (ds_ret (de_tup (da_cons (dv 2) (da_cons (dv 3) da_nil))))))), fun ds R Qd Ed h => ?_⟩
  obtain ⟨r, q, a, m, p, ps, k, rfl, hk, hk6, hps, hpl, hat, hm, hml, qq⟩ := h
  rw [List.flatMap_cons, List.length_append, ← sum_len (fun d => (clsN k d).length) (clsN k) fun _ _ => rfl] at hml
  refine (show dCut _ _ _ _ _ from ?_)
  refine ⟨WRow k R r q a p ps m 0, ?_, ?_⟩
  · simp only [dSeq, dGetK, rdInK, dGetT, dInT, rdSetK, dNewK, dDcF, dDc2F, dIEnum, dIZip, dISeq, dStar, dCont, dBrk, dOrT, rdInC, dCallK, dCVal, dMeth, dFld, dSetF, dNewF, dNew0F, dDisp, dPairs, dGet2, dGIndex, DL.keyOf, DL.keysOf, dCallL, dLam, dJoin, dJs, dFmtS, dRepl, dRaise, dCallX, dDelTail, dAugL, dXF, dAsg, dIf, dIfS, dB, dAnd, dOr, dNot, dAndV, dOrV, dNotV, dChain, dOp, dUn, dVar, dC, rdI0, rdI, dCB, dCall, rd1, dCons, dNil, dgName, dgSub, dgTup, dgLst, dSortSet, dgCons, dgNil, rdSetL, dRet, dLst, dLstF, dTup, dDrop, dNext, dPar, dBM, dBM0, dSl, dPart, dNoPart, dstart, dwipe, List.map_cons, List.map_nil, List.length_cons, List.length_nil, List.replicate_succ, List.replicate_zero, List.cons_append, List.nil_append, List.set_cons_zero, List.set_cons_succ, List.getElem?_cons_zero, List.getElem?_cons_succ, Nat.reduceAdd, Nat.reduceSub, Option.some.injEq, D.int.injEq, D.bl.injEq, D.str.injEq, D.ref.injEq, D.ty.injEq, D.tup.injEq, D.lst.injEq, D.rls.injEq, RO.lst.injEq, List.cons.injEq, exists_and_left, exists_eq_left', exists_eq_left, and_true, true_and, put_same, put_put, at0, at1, at2, ix30, ix31, ix32, and_assoc, dLcF, dLc, dLcT, dIRng1, dIRng2, dIRng3, dIStr, dITup, dILst, dYes, if_true, Bool.false_eq_true, if_false, eqS_ii, neS_ii, eqS_ss, neS_ss, decide_eq_true_eq, sq_tup, sq_lst, sq_rls, lo_lst, lo_rls, tr_lst, isi_tt, isi_st, isi_nt, isi_bt, isi_it, isi_lt, isi_ts, isi_ss, isi_ns, isi_bs, isi_is, isi_ls, List.append_nil, sz0, sz1, sz2, sz3, sz4, sz5, sz6, sl0, sl1, sl2, ty_put, ty_str, lo_put, sq_put, tr_put, reduceCtorEq, false_and, and_false, exists_false, or_false, false_or, Bool.not_false, Bool.not_true, List.isEmpty_nil, List.isEmpty_cons, app1_empty, dLc2F, dMatch, dGoM]
    refine ⟨hat.insA (by decide +kernel), r, q, a, m, p, k, rfl, hk, hk6, hps p (by simp), hat, hm, by omega, _, rfl, rfl, _, _, rfl, _, _, rfl, rfl, addP k p m, none, none, none, rfl, ?_, rfl, rfl⟩
    exact add_ok k (hps p (by simp)) m hm
  rintro s1 R1 ⟨s, j1, j2, j3, e1, ok, rfl, rfl⟩
  refine (show dCut _ _ _ _ _ from ?_)
  refine ⟨WRow k R r q a p ps m ps.length, ?_, ?_⟩
  · simp only [dFor, stR, dSeq, dGetK, rdInK, dGetT, dInT, rdSetK, dNewK, dDcF, dDc2F, dIEnum, dIZip, dISeq, dStar, dCont, dBrk, dOrT, rdInC, dCallK, dCVal, dMeth, dFld, dSetF, dNewF, dNew0F, dDisp, dPairs, dGet2, dGIndex, DL.keyOf, DL.keysOf, dCallL, dLam, dJoin, dJs, dFmtS, dRepl, dRaise, dCallX, dDelTail, dAugL, dXF, dAsg, dIf, dIfS, dB, dAnd, dOr, dNot, dAndV, dOrV, dNotV, dChain, dOp, dUn, dVar, dC, rdI0, rdI, dCB, dCall, rd1, dCons, dNil, dgName, dgSub, dgTup, dgLst, dSortSet, dgCons, dgNil, rdSetL, dRet, dLst, dLstF, dTup, dDrop, dNext, dPar, dBM, dBM0, dSl, dPart, dNoPart, dstart, dwipe, List.map_cons, List.map_nil, List.length_cons, List.length_nil, List.replicate_succ, List.replicate_zero, List.cons_append, List.nil_append, List.set_cons_zero, List.set_cons_succ, List.getElem?_cons_zero, List.getElem?_cons_succ, Nat.reduceAdd, Nat.reduceSub, Option.some.injEq, D.int.injEq, D.bl.injEq, D.str.injEq, D.ref.injEq, D.ty.injEq, D.tup.injEq, D.lst.injEq, D.rls.injEq, RO.lst.injEq, List.cons.injEq, exists_and_left, exists_eq_left', exists_eq_left, and_true, true_and, put_same, put_put, at0, at1, at2, ix30, ix31, ix32, and_assoc, dLcF, dLc, dLcT, dIRng1, dIRng2, dIRng3, dIStr, dITup, dILst, dYes, if_true, Bool.false_eq_true, if_false, eqS_ii, neS_ii, eqS_ss, neS_ss, decide_eq_true_eq, sq_tup, sq_lst, sq_rls, lo_lst, lo_rls, tr_lst, isi_tt, isi_st, isi_nt, isi_bt, isi_it, isi_lt, isi_ts, isi_ss, isi_ns, isi_bs, isi_is, isi_ls, List.append_nil, sz0, sz1, sz2, sz3, sz4, sz5, sz6, sl0, sl1, sl2, ty_put, ty_str, lo_put, sq_put, tr_put, reduceCtorEq, false_and, and_false, exists_false, or_false, false_or, Bool.not_false, Bool.not_true, List.isEmpty_nil, List.isEmpty_cons, app1_empty, dLc2F, dMatch, dGoM]
    rw [cut_drop1, List.drop_succ_cons, List.drop_zero]
    refine ⟨WRow k R r q a p ps m, ⟨s, j1, j2, j3, e1, ok, rfl, rfl⟩, fun _ _ _ _ _ => trivial, ?_, fun s R h => h⟩
    clear e1 ok
    rintro i x s' R' hx ⟨s, j1, j2, j3, e1, ok, rfl, rfl⟩
    have hx2 := hps x (List.mem_cons_of_mem _ (List.mem_of_getElem? hx))
    have hst := sum_take (fun d => (clsN k d).length) ps i x hx
    have hsl := ok.len
    have h1 := hat.put s.1
    have a2 := add_ok k hx2 s.1 ok.ok
    have al := a2.len
    have h2 := h1.put (addP k x s.1).1
    have ez := ok.zl
    have ef := a2.fl
    simp only [stR, dSeq, dGetK, rdInK, dGetT, dInT, rdSetK, dNewK, dDcF, dDc2F, dIEnum, dIZip, dISeq, dStar, dCont, dBrk, dOrT, rdInC, dCallK, dCVal, dMeth, dFld, dSetF, dNewF, dNew0F, dDisp, dPairs, dGet2, dGIndex, DL.keyOf, DL.keysOf, dCallL, dLam, dJoin, dJs, dFmtS, dRepl, dRaise, dCallX, dDelTail, dAugL, dXF, dAsg, dIf, dIfS, dB, dAnd, dOr, dNot, dAndV, dOrV, dNotV, dChain, dOp, dUn, dVar, dC, rdI0, rdI, dCB, dCall, rd1, dCons, dNil, dgName, dgSub, dgTup, dgLst, dSortSet, dgCons, dgNil, rdSetL, dRet, dLst, dLstF, dTup, dDrop, dNext, dPar, dBM, dBM0, dSl, dPart, dNoPart, dstart, dwipe, List.map_cons, List.map_nil, List.length_cons, List.length_nil, List.replicate_succ, List.replicate_zero, List.cons_append, List.nil_append, List.set_cons_zero, List.set_cons_succ, List.getElem?_cons_zero, List.getElem?_cons_succ, Nat.reduceAdd, Nat.reduceSub, Option.some.injEq, D.int.injEq, D.bl.injEq, D.str.injEq, D.ref.injEq, D.ty.injEq, D.tup.injEq, D.lst.injEq, D.rls.injEq, RO.lst.injEq, List.cons.injEq, exists_and_left, exists_eq_left', exists_eq_left, and_true, true_and, put_same, put_put, at0, at1, at2, ix30, ix31, ix32, and_assoc, dLcF, dLc, dLcT, dIRng1, dIRng2, dIRng3, dIStr, dITup, dILst, dYes, if_true, Bool.false_eq_true, if_false, eqS_ii, neS_ii, eqS_ss, neS_ss, decide_eq_true_eq, sq_tup, sq_lst, sq_rls, lo_lst, lo_rls, tr_lst, isi_tt, isi_st, isi_nt, isi_bt, isi_it, isi_lt, isi_ts, isi_ss, isi_ns, isi_bs, isi_is, isi_ls, List.append_nil, sz0, sz1, sz2, sz3, sz4, sz5, sz6, sl0, sl1, sl2, ty_put, ty_str, lo_put, sq_put, tr_put, reduceCtorEq, false_and, and_false, exists_false, or_false, false_or, Bool.not_false, Bool.not_true, List.isEmpty_nil, List.isEmpty_cons, app1_empty, dLc2F, dMatch, dGoM]
    refine ⟨h1.insA (by decide +kernel), r, q, a, s.1, x, k, rfl, hk, hk6, hx2, h1, ok.ok, by omega, _, rfl, rfl, _, _, rfl, _, _, rfl, rfl, h2.insA (by decide +kernel), r, q, a, (addP k x s.1).1, s.2.2, (addP k x s.1).2.1, rfl, h2, a2.ok, by omega, fun y hy => by have := ok.z y hy; omega, fun y hy => (a2.f y hy).2, by omega, ?_⟩
    rw [plPut2 hat.qa, plPut2 hat.qa]
    have ed : ps.drop i = x :: ps.drop (i + 1) := by
      obtain ⟨hi, e⟩ := List.getElem?_eq_some_iff.mp hx
      rw [List.drop_eq_getElem_cons hi, e]
    refine ⟨(linkP (addP k x s.1).1 s.2.2 (addP k x s.1).2.1, s.2.1, (addP k x s.1).2.2), _, _, _, ?_, ?_, rfl, rfl⟩
    · rw [e1, ed]
      rfl
    · have := ok.row a2
      rw [List.take_add_one, hx, List.map_append, List.sum_append]
      rw [Nat.add_assoc] at this
      simpa using this
  rintro s2 R2 ⟨s, j1, j2, j3, e1, ok, rfl, rfl⟩
  rw [List.drop_length] at e1
  rw [e1] at qq
  simp only [stR, dSeq, dGetK, rdInK, dGetT, dInT, rdSetK, dNewK, dDcF, dDc2F, dIEnum, dIZip, dISeq, dStar, dCont, dBrk, dOrT, rdInC, dCallK, dCVal, dMeth, dFld, dSetF, dNewF, dNew0F, dDisp, dPairs, dGet2, dGIndex, DL.keyOf, DL.keysOf, dCallL, dLam, dJoin, dJs, dFmtS, dRepl, dRaise, dCallX, dDelTail, dAugL, dXF, dAsg, dIf, dIfS, dB, dAnd, dOr, dNot, dAndV, dOrV, dNotV, dChain, dOp, dUn, dVar, dC, rdI0, rdI, dCB, dCall, rd1, dCons, dNil, dgName, dgSub, dgTup, dgLst, dSortSet, dgCons, dgNil, rdSetL, dRet, dLst, dLstF, dTup, dDrop, dNext, dPar, dBM, dBM0, dSl, dPart, dNoPart, dstart, dwipe, List.map_cons, List.map_nil, List.length_cons, List.length_nil, List.replicate_succ, List.replicate_zero, List.cons_append, List.nil_append, List.set_cons_zero, List.set_cons_succ, List.getElem?_cons_zero, List.getElem?_cons_succ, Nat.reduceAdd, Nat.reduceSub, Option.some.injEq, D.int.injEq, D.bl.injEq, D.str.injEq, D.ref.injEq, D.ty.injEq, D.tup.injEq, D.lst.injEq, D.rls.injEq, RO.lst.injEq, List.cons.injEq, exists_and_left, exists_eq_left', exists_eq_left, and_true, true_and, put_same, put_put, at0, at1, at2, ix30, ix31, ix32, and_assoc, dLcF, dLc, dLcT, dIRng1, dIRng2, dIRng3, dIStr, dITup, dILst, dYes, if_true, Bool.false_eq_true, if_false, eqS_ii, neS_ii, eqS_ss, neS_ss, decide_eq_true_eq, sq_tup, sq_lst, sq_rls, lo_lst, lo_rls, tr_lst, isi_tt, isi_st, isi_nt, isi_bt, isi_it, isi_lt, isi_ts, isi_ss, isi_ns, isi_bs, isi_is, isi_ls, List.append_nil, sz0, sz1, sz2, sz3, sz4, sz5, sz6, sl0, sl1, sl2, ty_put, ty_str, lo_put, sq_put, tr_put, reduceCtorEq, false_and, and_false, exists_false, or_false, false_or, Bool.not_false, Bool.not_true, List.isEmpty_nil, List.isEmpty_cons, app1_empty, dLc2F, dMatch, dGoM]
  exact fin qq
/-- the places of a pattern are put in, however deep it is -/
theorem ok_adds {f1 f2 : Addr} {fd1 fd2 : FuncData} (F1 : Fun K "add" "Places.add" s_Places_add f1 fd1) (F2 : Fun K "add_row" "Places.add_row" s_Places_add_row f2 fd2) (Z : Blt mg bl) (cl_Places : Cls K plC) (na_Places_after : NoAttr K plC "after") (na_Places_read : NoAttr K plC "read") (m_Places_link : MetD P w K mg base 1 plC "link" (spLink plC)) (m1 : Meth K plC "add" f1) (m2 : Meth K plC "add_row" f2) (b1 : Binds K fd1 ["self", "pattern"] []) (b2 : Binds K fd2 ["self", "parts"] []) : ∀ n : Nat, FnG P w K mg base CX0 (2 * n + 2) f1 fd1 ["self", "pattern"] (spOf K (spAdd plC n))
  | 0 => fnG_none fun ds R Q E ⟨r, q, a, m, d, k, _, hk, _⟩ => by omega
  | n + 1 => step_add F1 Z cl_Places na_Places_after na_Places_read m_Places_link ⟨⟨_, _, _, ok_adds F1 F2 Z cl_Places na_Places_after na_Places_read m_Places_link m1 m2 b1 b2 n, cl_Places, m1, b1⟩⟩ ⟨⟨_, _, _, step_row F2 Z cl_Places m_Places_link ⟨⟨_, _, _, ok_adds F1 F2 Z cl_Places na_Places_after na_Places_read m_Places_link m1 m2 b1 b2 n, cl_Places, m1, b1⟩⟩, cl_Places, m2, b2⟩⟩
abbrev s_Places_init : Stmt := inClass (top 20) 0
abbrev n_Places_init : List Str := ["self", "pattern"]
theorem sc_Places_init : FnScope n_Places_init ["self", "pattern"] (defScope s_Places_init) := ⟨rfl, rfl, rfl, by decide +kernel, rfl, by decide +kernel, by decide +kernel⟩
def m00 : Mch := [("", [])]
/-- the machine of a pattern -/
def mchP (d : D) : Adds := ((addP 6 d m00).1.set 0 ("", (addP 6 d m00).2.1), (addP 6 d m00).2)
structure PlOk (plC : Addr) (R : Rs) (r : Addr) (d : D) : Prop where
  at_ : ∃ q a, PlAt plC R r q a (mchP d).1
  st : fldOf R (.ref r) plC "starts" (natD (mchP d).2.1)
  en : fldOf R (.ref r) plC "ends" (natD (mchP d).2.2)
/-- what was there stays, but for r -/
def Oth (R R' : Rs) (r : Addr) : Prop := ∀ x ro, R x = some ro → x ≠ r → R' x = some ro
theorem Oth.put {R R' : Rs} {r p : Addr} {o : RO} (h : Oth R R' r) (hp : R p = none ∨ p = r) : Oth R (put R' p o) r := fun x ro hx hn => by
  have : x ≠ p := by
    rintro rfl
    rcases hp with e | e
    · rw [e] at hx; cases hx
    · exact hn e
  rw [put_ne this]; exact h x ro hx hn
def plF0 (q a : Addr) : List (Str × D) := [("read", .ref q), ("after", .ref a)]
def plF1 (q a : Addr) (S Z : List Nat) : List (Str × D) := [("read", .ref q), ("after", .ref a), ("starts", natD S), ("ends", natD Z)]
theorem sn1 : ¬ Str.ofString "read" = Str.ofString "after" := by decide +kernel
theorem sn2 : ¬ Str.ofString "read" = Str.ofString "starts" := by decide +kernel
theorem sn3 : ¬ Str.ofString "after" = Str.ofString "starts" := by decide +kernel
theorem sn4 : ¬ Str.ofString "read" = Str.ofString "ends" := by decide +kernel
theorem sn5 : ¬ Str.ofString "after" = Str.ofString "ends" := by decide +kernel
theorem sn6 : ¬ Str.ofString "starts" = Str.ofString "ends" := by decide +kernel
theorem lk_pl {q a : Addr} {l : List (Str × D)} : List.lookup ("read" : Str) (("read", D.ref q) :: ("after", D.ref a) :: l) = some (.ref q) ∧ List.lookup ("after" : Str) (("read", D.ref q) :: ("after", D.ref a) :: l) = some (.ref a) := by
  have e1 : (("read" : Str) == "read") = true := by decide +kernel
  have e2 : (("after" : Str) == "read") = false := by decide +kernel
  have e3 : (("after" : Str) == "after") = true := by decide +kernel
  simp [List.lookup, e1, e2, e3]
theorem lk_pl2 {q a : Addr} {S Z : List Nat} : (plF1 q a S Z).lookup ("starts" : Str) = some (natD S) ∧ (plF1 q a S Z).lookup ("ends" : Str) = some (natD Z) := by
  have e1 : (("starts" : Str) == "read") = false := by decide +kernel
  have e2 : (("starts" : Str) == "after") = false := by decide +kernel
  have e3 : (("starts" : Str) == "starts") = true := by decide +kernel
  have e4 : (("ends" : Str) == "read") = false := by decide +kernel
  have e5 : (("ends" : Str) == "after") = false := by decide +kernel
  have e6 : (("ends" : Str) == "starts") = false := by decide +kernel
  have e7 : (("ends" : Str) == "ends") = true := by decide +kernel
  unfold plF1
  simp [List.lookup, e1, e2, e3, e4, e5, e6, e7]
def MI1 (plC r dx : Addr) (d : D) (R : Rs) (s' : DSt) (R' : Rs) : Prop := ∃ q, q ≠ r ∧ R q = none ∧ Oth R R' r ∧ R' r = some (.ins plC dx [("read", .ref q)]) ∧ R' q = some (.lst [.str ""]) ∧ s' = [some (.ref r), some d]
structure PlI (plC r dx q a : Addr) (R R' : Rs) (m : Mch) (fs : List (Str × D)) : Prop where
  qr : q ≠ r
  ar : a ≠ r
  qa : q ≠ a
  rq : R q = none
  ra : R a = none
  o : Oth R R' r
  i : R' r = some (.ins plC dx fs)
  l : R' q = some (.lst (rdD m))
  k : R' a = some (.dK (aftK m))
theorem PlI.at0 {r dx q a : Addr} {R R' : Rs} {m : Mch} (h : PlI plC r dx q a R R' m (plF0 q a)) : PlAt plC R' r q a m := ⟨⟨dx, _, h.i, lk_pl.1, lk_pl.2, by
  intro x hx
  simp only [plF0, List.map_cons, List.map_nil, List.mem_cons, List.not_mem_nil, or_false] at hx ⊢
  rcases hx with e | e
  · exact .inl e
  · exact .inr (.inl e)⟩, h.l, h.k, h.qa, h.qr.symm, h.ar.symm⟩
theorem PlI.at1 {r dx q a : Addr} {R R' : Rs} {m : Mch} {S Z : List Nat} (h : PlI plC r dx q a R R' m (plF1 q a S Z)) : PlAt plC R' r q a m := ⟨⟨dx, _, h.i, lk_pl.1, lk_pl.2, by
  intro x hx
  simp only [plF1, List.map_cons, List.map_nil] at hx
  exact hx⟩, h.l, h.k, h.qa, h.qr.symm, h.ar.symm⟩
theorem m00_ok : MOk m00 := fun e he => by
  have : e = (("" : Str), []) := List.mem_singleton.mp he
  rw [this]
  exact ⟨(fun i hi => by cases hi), Nat.zero_le _⟩
def spPlInit (plC : Addr) : DSp := fun ds R Q _ => ∃ (r dx : Addr) (d : D), ds = [.ref r, d] ∧ isN 6 d = true ∧ (clsN 6 d).length ≤ 12 ∧ R r = some (.ins plC dx []) ∧ ∀ R', (∀ x ro, R x = some ro → x ≠ r → R' x = some ro) → PlOk plC R' r d → Q .non R'
theorem ok_plinit (F : Fun K "__init__" "Places.__init__" s_Places_init f fd) (Z : Blt mg bl) (cl_Places : Cls K plC) (na_Places_after : NoAttr K plC "after") (na_Places_read : NoAttr K plC "read") (na_Places_starts : NoAttr K plC "starts") (na_Places_ends : NoAttr K plC "ends") (m_Places_add : MetD P w K mg base 16 plC "add" (spAdd plC 7)) : FnG P w K mg base (L2.CX P w) 17 f fd ["self", "pattern"] (spOf K (spPlInit plC)) := by
  refine okX F sc_Places_init (fun ds R Q E h => by obtain ⟨r, dx, d, rfl, _⟩ := h; rfl) fun cdv A outer s H E Ed gd hr tk => ?_
  refine ⟨_, (dss_cut (ds_setF cl_Places na_Places_read (dv 0) (de_lst (da_cons de_str da_nil)))
    (dss_cut (ds_setF cl_Places na_Places_after (dv 0) (de_dispR (.cons de_int (de_lstF da_nil) .nil)))
    (dss_cut (ds_asg (de_meth m_Places_add gd hr (by omega) (dv 0) (da_cons (dv 1) da_nil)) (dg_tup (n := 2) rfl (dgs_cons (dg_fld cl_Places na_Places_starts (dv 0)) (dgs_cons (dg_fld cl_Places na_Places_ends (dv 0)) dgs_nil))))
    (dss_one (ds_asg (de_fld cl_Places na_Places_starts (dv 0)) (dg_sub (de_fld cl_Places na_Places_after (dv 0)) de_int (dset_dk (hu_of hr)))))))), fun ds R Qd h => ?_⟩
  obtain ⟨r, dx, d, rfl, hd, hcl, hx, qq⟩ := h
  refine (show dCut _ _ _ _ _ from ?_)
  refine ⟨MI1 plC r dx d R, ?_, ?_⟩
  · simp only [dSeq, dGetK, rdInK, dGetT, dInT, rdSetK, dNewK, dDcF, dDc2F, dIEnum, dIZip, dISeq, dStar, dCont, dBrk, dOrT, rdInC, dCallK, dCVal, dMeth, dFld, dSetF, dNewF, dNew0F, dDisp, dPairs, dGet2, dGIndex, DL.keyOf, DL.keysOf, dCallL, dLam, dJoin, dJs, dFmtS, dRepl, dRaise, dCallX, dDelTail, dAugL, dXF, dAsg, dIf, dIfS, dB, dAnd, dOr, dNot, dAndV, dOrV, dNotV, dChain, dOp, dUn, dVar, dC, rdI0, rdI, dCB, dCall, rd1, dCons, dNil, dgName, dgSub, dgTup, dgLst, dSortSet, dgCons, dgNil, rdSetL, dRet, dLst, dLstF, dTup, dDrop, dNext, dPar, dBM, dBM0, dSl, dPart, dNoPart, dstart, dwipe, List.map_cons, List.map_nil, List.length_cons, List.length_nil, List.replicate_succ, List.replicate_zero, List.cons_append, List.nil_append, List.set_cons_zero, List.set_cons_succ, List.getElem?_cons_zero, List.getElem?_cons_succ, Nat.reduceAdd, Nat.reduceSub, Option.some.injEq, D.int.injEq, D.bl.injEq, D.str.injEq, D.ref.injEq, D.ty.injEq, D.tup.injEq, D.lst.injEq, D.rls.injEq, RO.lst.injEq, List.cons.injEq, exists_and_left, exists_eq_left', exists_eq_left, and_true, true_and, put_same, put_put, at0, at1, at2, ix30, ix31, ix32, and_assoc, dLcF, dLc, dLcT, dIRng1, dIRng2, dIRng3, dIStr, dITup, dILst, dYes, if_true, Bool.false_eq_true, if_false, eqS_ii, neS_ii, eqS_ss, neS_ss, decide_eq_true_eq, sq_tup, sq_lst, sq_rls, lo_lst, lo_rls, tr_lst, isi_tt, isi_st, isi_nt, isi_bt, isi_it, isi_lt, isi_ts, isi_ss, isi_ns, isi_bs, isi_is, isi_ls, List.append_nil, sz0, sz1, sz2, sz3, sz4, sz5, sz6, sl0, sl1, sl2, ty_put, ty_str, lo_put, sq_put, tr_put, reduceCtorEq, false_and, and_false, exists_false, or_false, false_or, Bool.not_false, Bool.not_true, List.isEmpty_nil, List.isEmpty_cons, app1_empty, dDispR, dLc2F, dMatch, dGoM, dgFld]
    intro p hp
    have hpr : p ≠ r := by rintro rfl; rw [hx] at hp; cases hp
    refine ⟨dx, [], by rw [put_ne hpr.symm]; exact hx, by simp, p, hpr, hp, ?_, put_same, by rw [put_ne hpr, put_same], rfl⟩
    have o0 : Oth R R r := fun x ro h _ => h
    exact (o0.put (.inl hp)).put (.inr rfl)
  rintro s1 R1 ⟨q, hqr, hq0, ho, hi, hl, rfl⟩
  refine (show dCut _ _ _ _ _ from ?_)
  refine ⟨fun s' R' => ∃ a, PlI plC r dx q a R R' m00 (plF0 q a) ∧ s' = [some (.ref r), some d], ?_, ?_⟩
  · simp only [dSeq, dGetK, rdInK, dGetT, dInT, rdSetK, dNewK, dDcF, dDc2F, dIEnum, dIZip, dISeq, dStar, dCont, dBrk, dOrT, rdInC, dCallK, dCVal, dMeth, dFld, dSetF, dNewF, dNew0F, dDisp, dPairs, dGet2, dGIndex, DL.keyOf, DL.keysOf, dCallL, dLam, dJoin, dJs, dFmtS, dRepl, dRaise, dCallX, dDelTail, dAugL, dXF, dAsg, dIf, dIfS, dB, dAnd, dOr, dNot, dAndV, dOrV, dNotV, dChain, dOp, dUn, dVar, dC, rdI0, rdI, dCB, dCall, rd1, dCons, dNil, dgName, dgSub, dgTup, dgLst, dSortSet, dgCons, dgNil, rdSetL, dRet, dLst, dLstF, dTup, dDrop, dNext, dPar, dBM, dBM0, dSl, dPart, dNoPart, dstart, dwipe, List.map_cons, List.map_nil, List.length_cons, List.length_nil, List.replicate_succ, List.replicate_zero, List.cons_append, List.nil_append, List.set_cons_zero, List.set_cons_succ, List.getElem?_cons_zero, List.getElem?_cons_succ, Nat.reduceAdd, Nat.reduceSub, Option.some.injEq, D.int.injEq, D.bl.injEq, D.str.injEq, D.ref.injEq, D.ty.injEq, D.tup.injEq, D.lst.injEq, D.rls.injEq, RO.lst.injEq, List.cons.injEq, exists_and_left, exists_eq_left', exists_eq_left, and_true, true_and, put_same, put_put, at0, at1, at2, ix30, ix31, ix32, and_assoc, dLcF, dLc, dLcT, dIRng1, dIRng2, dIRng3, dIStr, dITup, dILst, dYes, if_true, Bool.false_eq_true, if_false, eqS_ii, neS_ii, eqS_ss, neS_ss, decide_eq_true_eq, sq_tup, sq_lst, sq_rls, lo_lst, lo_rls, tr_lst, isi_tt, isi_st, isi_nt, isi_bt, isi_it, isi_lt, isi_ts, isi_ss, isi_ns, isi_bs, isi_is, isi_ls, List.append_nil, sz0, sz1, sz2, sz3, sz4, sz5, sz6, sl0, sl1, sl2, ty_put, ty_str, lo_put, sq_put, tr_put, reduceCtorEq, false_and, and_false, exists_false, or_false, false_or, Bool.not_false, Bool.not_true, List.isEmpty_nil, List.isEmpty_cons, app1_empty, dDispR, dLc2F, dMatch, dGoM, dgFld]
    refine ⟨[(.inl 0, .lst [])], rfl, by decide, by simp, fun p hp => ?_⟩
    have hpr : p ≠ r := by rintro rfl; rw [hi] at hp; cases hp
    have hqp : q ≠ p := by rintro rfl; rw [hl] at hp; cases hp
    have hp0 : R p = none := by
      cases e : R p with
      | none => rfl
      | some ro => rw [ho p ro e hpr] at hp; cases hp
    have e1 : putD (Str.ofString "after") (D.ref p) [(Str.ofString "read", D.ref q)] = plF0 q p := by
      unfold putD
      rw [if_neg sn1]
      rfl
    refine ⟨dx, _, by rw [put_ne hpr.symm]; exact hi, by simp, p, ⟨hqr, hpr, hqp, hq0, hp0, (ho.put (.inl hp0)).put (.inr rfl), by rw [e1, put_same], by rw [put_ne hqr, put_ne hqp]; exact hl, by rw [put_ne hpr, put_same]; rfl⟩⟩
  rintro s2 R2 ⟨a, h2, rfl⟩
  refine (show dCut _ _ _ _ _ from ?_)
  refine ⟨fun s' R' => PlI plC r dx q a R R' (addP 6 d m00).1 (plF1 q a (addP 6 d m00).2.1 (addP 6 d m00).2.2) ∧ s' = [some (.ref r), some d], ?_, ?_⟩
  · simp only [dSeq, dGetK, rdInK, dGetT, dInT, rdSetK, dNewK, dDcF, dDc2F, dIEnum, dIZip, dISeq, dStar, dCont, dBrk, dOrT, rdInC, dCallK, dCVal, dMeth, dFld, dSetF, dNewF, dNew0F, dDisp, dPairs, dGet2, dGIndex, DL.keyOf, DL.keysOf, dCallL, dLam, dJoin, dJs, dFmtS, dRepl, dRaise, dCallX, dDelTail, dAugL, dXF, dAsg, dIf, dIfS, dB, dAnd, dOr, dNot, dAndV, dOrV, dNotV, dChain, dOp, dUn, dVar, dC, rdI0, rdI, dCB, dCall, rd1, dCons, dNil, dgName, dgSub, dgTup, dgLst, dSortSet, dgCons, dgNil, rdSetL, dRet, dLst, dLstF, dTup, dDrop, dNext, dPar, dBM, dBM0, dSl, dPart, dNoPart, dstart, dwipe, List.map_cons, List.map_nil, List.length_cons, List.length_nil, List.replicate_succ, List.replicate_zero, List.cons_append, List.nil_append, List.set_cons_zero, List.set_cons_succ, List.getElem?_cons_zero, List.getElem?_cons_succ, Nat.reduceAdd, Nat.reduceSub, Option.some.injEq, D.int.injEq, D.bl.injEq, D.str.injEq, D.ref.injEq, D.ty.injEq, D.tup.injEq, D.lst.injEq, D.rls.injEq, RO.lst.injEq, List.cons.injEq, exists_and_left, exists_eq_left', exists_eq_left, and_true, true_and, put_same, put_put, at0, at1, at2, ix30, ix31, ix32, and_assoc, dLcF, dLc, dLcT, dIRng1, dIRng2, dIRng3, dIStr, dITup, dILst, dYes, if_true, Bool.false_eq_true, if_false, eqS_ii, neS_ii, eqS_ss, neS_ss, decide_eq_true_eq, sq_tup, sq_lst, sq_rls, lo_lst, lo_rls, tr_lst, isi_tt, isi_st, isi_nt, isi_bt, isi_it, isi_lt, isi_ts, isi_ss, isi_ns, isi_bs, isi_is, isi_ls, List.append_nil, sz0, sz1, sz2, sz3, sz4, sz5, sz6, sl0, sl1, sl2, ty_put, ty_str, lo_put, sq_put, tr_put, reduceCtorEq, false_and, and_false, exists_false, or_false, false_or, Bool.not_false, Bool.not_true, List.isEmpty_nil, List.isEmpty_cons, app1_empty, dDispR, dLc2F, dMatch, dGoM, dgFld]
    have hat := h2.at0
    have ir : ∀ m', plPut R2 q a m' r = some (.ins plC dx (plF0 q a)) := fun m' => by unfold plPut; rw [put_ne h2.ar.symm, put_ne h2.qr.symm]; exact h2.i
    refine ⟨hat.insA (by decide +kernel), r, q, a, m00, d, 6, rfl, by decide, by decide, hd, hat, m00_ok, by show 1 + _ ≤ 60; omega, _, rfl, rfl, _, _, rfl, dx, _, ir _, by simp [plF0], _, _, rfl, dx, _, rfl, ?_, rfl, ?_⟩
    · unfold plF0 putD
      rw [if_neg sn2]
      unfold putD
      rw [if_neg sn3]
      simp [putD]
    · have e2 : putD (Str.ofString "ends") (natD (addP 6 d m00).2.2) (putD (Str.ofString "starts") (natD (addP 6 d m00).2.1) (plF0 q a)) = plF1 q a (addP 6 d m00).2.1 (addP 6 d m00).2.2 := by
        simp only [plF0, putD, sn2, sn3, sn4, sn5, sn6, if_false]
        rfl
      rw [e2]
      refine ⟨h2.qr, h2.ar, h2.qa, h2.rq, h2.ra, ?_, put_same, by unfold plPut; rw [put_ne h2.qr, put_ne h2.qa, put_same], by unfold plPut; rw [put_ne h2.ar, put_same]⟩
      exact ((h2.o.put (.inl h2.rq)).put (.inl h2.ra)).put (.inr rfl)
  rintro s3 R3 ⟨h3, rfl⟩
  simp only [dSeq, dGetK, rdInK, dGetT, dInT, rdSetK, dNewK, dDcF, dDc2F, dIEnum, dIZip, dISeq, dStar, dCont, dBrk, dOrT, rdInC, dCallK, dCVal, dMeth, dFld, dSetF, dNewF, dNew0F, dDisp, dPairs, dGet2, dGIndex, DL.keyOf, DL.keysOf, dCallL, dLam, dJoin, dJs, dFmtS, dRepl, dRaise, dCallX, dDelTail, dAugL, dXF, dAsg, dIf, dIfS, dB, dAnd, dOr, dNot, dAndV, dOrV, dNotV, dChain, dOp, dUn, dVar, dC, rdI0, rdI, dCB, dCall, rd1, dCons, dNil, dgName, dgSub, dgTup, dgLst, dSortSet, dgCons, dgNil, rdSetL, dRet, dLst, dLstF, dTup, dDrop, dNext, dPar, dBM, dBM0, dSl, dPart, dNoPart, dstart, dwipe, List.map_cons, List.map_nil, List.length_cons, List.length_nil, List.replicate_succ, List.replicate_zero, List.cons_append, List.nil_append, List.set_cons_zero, List.set_cons_succ, List.getElem?_cons_zero, List.getElem?_cons_succ, Nat.reduceAdd, Nat.reduceSub, Option.some.injEq, D.int.injEq, D.bl.injEq, D.str.injEq, D.ref.injEq, D.ty.injEq, D.tup.injEq, D.lst.injEq, D.rls.injEq, RO.lst.injEq, List.cons.injEq, exists_and_left, exists_eq_left', exists_eq_left, and_true, true_and, put_same, put_put, at0, at1, at2, ix30, ix31, ix32, and_assoc, dLcF, dLc, dLcT, dIRng1, dIRng2, dIRng3, dIStr, dITup, dILst, dYes, if_true, Bool.false_eq_true, if_false, eqS_ii, neS_ii, eqS_ss, neS_ss, decide_eq_true_eq, sq_tup, sq_lst, sq_rls, lo_lst, lo_rls, tr_lst, isi_tt, isi_st, isi_nt, isi_bt, isi_it, isi_lt, isi_ts, isi_ss, isi_ns, isi_bs, isi_is, isi_ls, List.append_nil, sz0, sz1, sz2, sz3, sz4, sz5, sz6, sl0, sl1, sl2, ty_put, ty_str, lo_put, sq_put, tr_put, reduceCtorEq, false_and, and_false, exists_false, or_false, false_or, Bool.not_false, Bool.not_true, List.isEmpty_nil, List.isEmpty_cons, app1_empty, dDispR, dLc2F, dMatch, dGoM, dgFld]
  have hat := h3.at1
  obtain ⟨e0, he0, hn0⟩ : ∃ e : Str × List Nat, (addP 6 d m00).1[0]? = some e ∧ e.1 = ("" : Str) := ⟨(("" : Str), []), add_old 6 hd m00 m00_ok 0 (by decide), rfl⟩
  refine ⟨_, ⟨dx, _, h3.i, lk_pl2.1⟩, _, hat.fafter, a, rfl, _, h3.k, ?_, fin (qq _ ?_ ⟨⟨q, a, ?_⟩, ?_, ?_⟩)⟩
  · rw [aftK_len, (add_ok 6 hd m00 m00_ok).len]
    show 1 + _ < 1000
    omega
  · exact h3.o.put (.inl h3.ra)
  · have eK : putKD (aftK (addP 6 d m00).1) (Sum.inl ((0 : Nat) : Int)) (natD (addP 6 d m00).2.1) = aftK (mchP d).1 := by
      rw [aftK_set he0, hn0]
      rfl
    have eR : rdD (mchP d).1 = rdD (addP 6 d m00).1 := by
      have := rdD_set he0 (addP 6 d m00).2.1
      rw [hn0] at this
      exact this
    refine ⟨⟨dx, _, by rw [put_ne h3.ar.symm]; exact h3.i, lk_pl.1, lk_pl.2, ?_⟩, by rw [put_ne h3.qa, eR]; exact h3.l, by rw [put_same, ← eK]; rfl, h3.qa, h3.qr.symm, h3.ar.symm⟩
    intro x hx
    simp only [plF1, List.map_cons, List.map_nil] at hx
    exact hx
  · exact ⟨dx, _, by rw [put_ne h3.ar.symm]; exact h3.i, lk_pl2.1⟩
  · exact ⟨dx, _, by rw [put_ne h3.ar.symm]; exact h3.i, lk_pl2.2⟩
end

end Law
end
section
set_option Elab.async false
set_option maxRecDepth 100000
set_option maxHeartbeats 4000000
set_option linter.all false
set_option autoImplicit false
namespace Law
open PySem PySem.Spec PyProof.Rows L2 DL TL TrA TrA.Tr
section
variable [TabCtx] {P : Program} {w : World} {K : KB} {mg : Str → Option Value} {base : Heap} {f : Addr} {fd : FuncData} {plC pC : Addr}
def aftN (m : Mch) (p : Nat) : List Nat := (m[p]?.map (·.2)).getD []
def rdN (m : Mch) (g : Nat) : Str := (m[g]?.map (·.1)).getD ""
/-- where a class leads from some places -/
def gLed (m : Mch) (x : Str) (p : Nat) : List Nat := (aftN m p).filter fun g => decide (rdN m g = x)
def ledP (m : Mch) (ps : List Nat) (x : Str) : List Nat := upS m.length (ps.flatMap (gLed m x))
theorem aft_lt {m : Mch} (h : MOk m) {p g : Nat} (hg : g ∈ aftN m p) : g < m.length := by
  unfold aftN at hg
  cases e : m[p]? with
  | none => rw [e] at hg; cases hg
  | some x => rw [e] at hg; exact (h x (List.mem_of_getElem? e)).1 g hg
theorem aft_len {m : Mch} (h : MOk m) (p : Nat) : (aftN m p).length ≤ m.length := by
  unfold aftN
  cases e : m[p]? with
  | none => exact Nat.zero_le _
  | some x => exact (h x (List.mem_of_getElem? e)).2
theorem set_ok {m : Mch} {S : List Nat} (h : MOk m) (hS : (∀ i ∈ S, i < m.length) ∧ S.length ≤ m.length) (x : Str) : MOk (m.set 0 (x, S)) := fun e he => by
  rw [List.length_set]
  rcases List.mem_or_eq_of_mem_set he with z | z
  · exact h e z
  · rw [z]; exact hS
/-- the machine of a pattern is in order -/
theorem mch_ok {d : D} (hd : isN 6 d = true) : MOk (mchP d).1 ∧ (mchP d).1.length = 1 + (clsN 6 d).length := by
  have a := add_ok 6 hd m00 m00_ok
  have al : (addP 6 d m00).1.length = 1 + (clsN 6 d).length := a.len
  have af := a.fl
  exact ⟨set_ok a.ok ⟨fun i hi => (a.f i hi).2, by omega⟩ _, by show (List.set _ _ _).length = _; rw [List.length_set]; exact al⟩
theorem aftF_at : ∀ (m : Mch) (i j : Nat), (aftF i m)[j]? = m[j]?.map fun e => (.inl ((i + j : Nat) : Int), natD e.2)
  | [], i, j => by simp [aftF]
  | e :: m, i, 0 => rfl
  | e :: m, i, j + 1 => by
    unfold aftF
    rw [List.getElem?_cons_succ, List.getElem?_cons_succ, aftF_at m (i + 1) j, show i + 1 + j = i + (j + 1) by omega]
theorem aftK_at {m : Mch} {j : Nat} : (aftK m)[j]? = m[j]?.map fun e => (.inl ((j : Nat) : Int), natD e.2) := by
  have := aftF_at m 0 j
  rw [Nat.zero_add] at this
  exact this
/-- ascending places -/
def AAsc (s : Adds) : Prop := s.2.1.Pairwise (· < ·) ∧ s.2.2.Pairwise (· < ·) ∧ ∀ e ∈ s.1, e.2.Pairwise (· < ·)
theorem link_asc {m : Mch} {Z F : List Nat} (h : ∀ e ∈ m, e.2.Pairwise (· < ·)) : ∀ e ∈ linkP m Z F, e.2.Pairwise (· < ·) := fun e he => by
  obtain ⟨j, hj⟩ := List.getElem?_of_mem he
  rw [link_at] at hj
  cases hm : m[j]? with
  | none => rw [hm] at hj; cases hj
  | some e0 =>
    rw [hm] at hj
    have hj : (if j ∈ Z then (e0.1, upS m.length (e0.2 ++ F)) else e0) = e := Option.some.inj hj
    by_cases hZ : j ∈ Z
    · rw [if_pos hZ] at hj
      rw [← hj]; exact upS_asc _ _
    · rw [if_neg hZ] at hj
      rw [← hj]; exact h e0 (List.mem_of_getElem? hm)
theorem seq_asc {f : D → Mch → Adds} {g : D → Nat} : ∀ {ps : List D} {m : Mch}, (∀ p ∈ ps, ∀ m, MOk m → AOk m (f p m) (g p)) → (∀ p ∈ ps, ∀ m, MOk m → (∀ e ∈ m, e.2.Pairwise (· < ·)) → AAsc (f p m)) → MOk m → (∀ e ∈ m, e.2.Pairwise (· < ·)) → AAsc ((seqP f ps m).1, (seqP f ps m).2.flatMap (·.1), (seqP f ps m).2.flatMap (·.2))
  | [], m, _, _, _, hm => ⟨List.Pairwise.nil, List.Pairwise.nil, hm⟩
  | p :: ps, m, h, h2, ho, hm => by
    have a := h p (by simp) m ho
    obtain ⟨a1, a2, a3⟩ := h2 p (by simp) m ho hm
    obtain ⟨b1, b2, b3⟩ := seq_asc (ps := ps) (m := (f p m).1) (fun q hq => h q (by simp [hq])) (fun q hq => h2 q (by simp [hq])) a.ok a3
    have b := seq_ok (ps := ps) (m := (f p m).1) (g := g) (fun q hq => h q (by simp [hq])) a.ok
    refine ⟨?_, ?_, b3⟩
    · show ((f p m).2.1 ++ _).Pairwise _
      exact List.pairwise_append.mpr ⟨a1, b1, fun x hx y hy => by have := (a.f x hx).2; have := (b.f y hy).1; omega⟩
    · show ((f p m).2.2 ++ _).Pairwise _
      exact List.pairwise_append.mpr ⟨a2, b2, fun x hx y hy => by have := (a.z x hx).2; have := (b.z y hy).1; omega⟩
theorem row_asc {f : D → Mch → Adds} {g : D → Nat} : ∀ {ps : List D} {s : Adds}, (∀ p ∈ ps, ∀ m, MOk m → AOk m (f p m) (g p)) → (∀ p ∈ ps, ∀ m, MOk m → (∀ e ∈ m, e.2.Pairwise (· < ·)) → AAsc (f p m)) → MOk s.1 → AAsc s → AAsc (rowP f ps s)
  | [], s, _, _, _, hs => hs
  | p :: ps, (m, S, Z), h, h2, ho, ⟨c1, c2, c3⟩ => by
    have a := h p (by simp) m ho
    obtain ⟨a1, a2, a3⟩ := h2 p (by simp) m ho c3
    exact row_asc (ps := ps) (s := (linkP (f p m).1 Z (f p m).2.1, S, (f p m).2.2)) (fun q hq => h q (by simp [hq])) (fun q hq => h2 q (by simp [hq])) (a.ok.link fun x hx => (a.f x hx).2) ⟨c1, a2, link_asc a3⟩
theorem add_asc : ∀ (k : Nat) {d : D}, isN k d = true → ∀ m, MOk m → (∀ e ∈ m, e.2.Pairwise (· < ·)) → AAsc (addP k d m)
  | 0, _, h, _, _, _ => by cases h
  | k + 1, d, h, m, ho, hm => by
    obtain ⟨x, e, rfl, hc⟩ := isN_form h
    rcases hc with ⟨rfl, y, rfl, hy⟩ | ⟨rfl | rfl, ps, rfl, hp2, hp4, hps⟩ | ⟨rfl, he⟩
    · rw [addP_one]
      refine ⟨List.pairwise_singleton _ _, List.pairwise_singleton _ _, fun e he => ?_⟩
      rcases List.mem_append.mp he with z | z
      · exact hm e z
      · rw [List.mem_singleton.mp z]; exact List.Pairwise.nil
    · rw [addP_any]
      exact seq_asc (g := fun d => (clsN k d).length) (fun p hp m hm => add_ok k (hps p hp) m hm) (fun p hp m ho hm => add_asc k (hps p hp) m ho hm) ho hm
    · match ps, hp2, hps with
      | p :: ps, hp2, hps =>
        rw [addP_row]
        exact row_asc (g := fun d => (clsN k d).length) (fun q hq m hm => add_ok k (hps q (by simp [hq])) m hm) (fun q hq m ho hm => add_asc k (hps q (by simp [hq])) m ho hm) (add_ok k (hps p (by simp)) m ho).ok (add_asc k (hps p (by simp)) m ho hm)
    · rw [addP_many]
      obtain ⟨a1, a2, a3⟩ := add_asc k he m ho hm
      exact ⟨a1, a2, link_asc a3⟩
theorem mch_asc {d : D} (hd : isN 6 d = true) : (mchP d).2.1.Pairwise (· < ·) ∧ (mchP d).2.2.Pairwise (· < ·) ∧ ∀ p, (aftN (mchP d).1 p).Pairwise (· < ·) := by
  obtain ⟨a1, a2, a3⟩ := add_asc 6 hd m00 m00_ok fun e he => by
    have : e = (("" : Str), []) := List.mem_singleton.mp he
    rw [this]; exact List.Pairwise.nil
  refine ⟨a1, a2, fun p => ?_⟩
  unfold aftN
  cases e : (mchP d).1[p]? with
  | none => exact List.Pairwise.nil
  | some x =>
    rcases List.mem_or_eq_of_mem_set (List.mem_of_getElem? e) with z | z
    · exact a3 x z
    · show x.2.Pairwise _
      rw [z]; exact a1
end

end Law
end
section
set_option Elab.async false
set_option maxRecDepth 100000
set_option maxHeartbeats 4000000
set_option linter.all false
set_option autoImplicit false
namespace Law
open PySem PySem.Spec PyProof.Rows L2 DL TL TrA TrA.Tr
section
variable [TabCtx] {P : Program} {w : World} {K : KB} {mg : Str → Option Value} {base : Heap} {f : Addr} {fd : FuncData} {plC pC : Addr}
abbrev s_Places_steps : Stmt := inClass (top 20) 4
abbrev n_Places_steps : List Str := ["self", "place", "goals", "goal"]
theorem sc_Places_steps : FnScope n_Places_steps ["self"] (defScope s_Places_steps) := ⟨rfl, rfl, rfl, by decide +kernel, rfl, by decide +kernel, by decide +kernel⟩
def stepD (m : Mch) (p g : Nat) : D := .tup [.int (p : Nat), .int (g : Nat), .str (rdN m g)]
def stepsD (m : Mch) : List D := (List.range m.length).flatMap fun p => (aftN m p).map (stepD m p)
def spSteps (plC : Addr) : DSp := fun ds R Q _ => ∃ (r : Addr) (d : D), ds = [.ref r] ∧ PlOk plC R r d ∧ isN 6 d = true ∧ (clsN 6 d).length ≤ 12 ∧ ∀ p, R p = none → Q (.ref p) (put R p (.lst (stepsD (mchP d).1)))
theorem step_lt {a b c e : Nat} {x y : Str} (h : a < c ∨ a = c ∧ b < e) : PySem.W.dataLt (.tuple [.int (c : Nat), .int (e : Nat), .str y]) (.tuple [.int (a : Nat), .int (b : Nat), .str x]) = false := by
  rw [PySem.W.dataLt_tuple, PySem.W.dataLt_cons (by simp [PySem.W.alike])]
  by_cases h1 : a = c
  · subst h1
    have h2 : b < e := by rcases h with h | h <;> omega
    rw [if_pos (by simp [PyData.eqv]), PySem.W.dataLt_cons (by simp [PySem.W.alike]), if_neg (by simp [PyData.eqv]; omega), PySem.W.dataLt_int]
    simp; omega
  · rw [if_neg (by simp [PyData.eqv]; omega), PySem.W.dataLt_int]
    simp; omega
theorem py_step (m : Mch) (p g : Nat) : (stepD m p g).py = .tuple [.int (p : Nat), .int (g : Nat), .str (rdN m g)] := by simp [stepD, D.py, D.pys]
theorem steps_mem {m : Mch} {x : D} (h : x ∈ stepsD m) : ∃ p g, x = stepD m p g := by
  obtain ⟨p, _, h⟩ := List.mem_flatMap.mp h
  obtain ⟨g, _, rfl⟩ := List.mem_map.mp h
  exact ⟨p, g, rfl⟩
theorem plains_of : ∀ {xs : List D}, (∀ x ∈ xs, x.plain = true) → D.plains xs = true
  | [], _ => rfl
  | x :: xs, h => by rw [D.plains, h x (by simp), plains_of fun y hy => h y (by simp [hy])]; rfl
theorem steps_pw {m : Mch} (ha : ∀ p, (aftN m p).Pairwise (· < ·)) : (D.pys (stepsD m)).Pairwise (fun a b => PySem.W.dataLt b a = false) := by
  rw [pys_map, List.pairwise_map]
  unfold stepsD
  rw [List.pairwise_flatMap]
  refine ⟨fun p _ => ?_, ?_⟩
  · rw [List.pairwise_map]
    refine (ha p).imp fun {b e} h => ?_
    rw [py_step, py_step]
    exact step_lt (.inr ⟨rfl, h⟩)
  · refine List.pairwise_lt_range.imp fun {p p2} h x hx y hy => ?_
    obtain ⟨g, _, rfl⟩ := List.mem_map.mp hx
    obtain ⟨g2, _, rfl⟩ := List.mem_map.mp hy
    rw [py_step, py_step]
    exact step_lt (.inl h)
theorem steps_len {m : Mch} (hm : MOk m) : ∀ n, ((List.range n).flatMap fun p => (aftN m p).map (stepD m p)).length ≤ n * m.length
  | 0 => by simp
  | n + 1 => by
    have h1 := steps_len hm n
    have h2 := aft_len hm n
    have h3 : ([n].flatMap fun p => (aftN m p).map (stepD m p)).length = (aftN m n).length := by simp
    rw [List.range_succ, List.flatMap_append, List.length_append, Nat.add_mul, h3]
    omega
theorem ok_steps (F : Fun K "steps" "Places.steps" s_Places_steps f fd) (Z : Blt mg bl) (cl_Places : Cls K plC) (na_Places_after : NoAttr K plC "after") (na_Places_read : NoAttr K plC "read") : FnG P w K mg base CX0 1 f fd ["self"] (spOf K (spSteps plC)) := by
  refine okD F sc_Places_steps (fun ds R Q E h => by obtain ⟨r, d, rfl, _⟩ := h; rfl) fun cdv A outer s H E gd hr => ?_
  refine ⟨_, (dss_one (ds_ret (de_callB (cd_sortAR hr) (by rfl) (Z _ (by decide)) bt_sorted (da_cons (de_lc2It (own := [("place", 1), ("goals", 2), ("goal", 3)]) (vs1 := [3]) rfl sc_Places_steps.nd (de_fld cl_Places na_Places_after (dv 0)) (blkOk_by (N := n_Places_steps) (sc := defScope s_Places_steps) (by decide +kernel)) (by decide) (fun _ _ _ _ _ => (dgw_tup (n := 2) rfl (dgsw_cons (dgw_name (i := 1) sc_Places_steps.nd rfl (.inl rfl)) (dgsw_cons (dgw_name (i := 2) sc_Places_steps.nd rfl (.inl rfl)) dgsw_nil)))) (fun _ _ _ _ _ => dts_nil) (fun _ _ _ _ _ => (di_list (dv 2))) (fun _ _ _ _ _ => (dgw_name (i := 3) sc_Places_steps.nd rfl (.inl rfl))) (fun _ _ _ _ _ => dts_nil) (fun _ _ _ _ _ => (de_tup (da_cons (dv 1) (da_cons (dv 3) (da_cons (de_ix xd_seq (de_fld cl_Places na_Places_read (dv 0)) (dv 3) (fun _ _ => rfl)) da_nil)))))) da_nil)))), fun ds R Qd Ed h => ?_⟩
  obtain ⟨r, d, rfl, ⟨⟨q, a, hat⟩, _, _⟩, hd, hcl, qq⟩ := h
  obtain ⟨hm, hml⟩ := mch_ok hd
  have hasc := (mch_asc hd).2.2
  generalize (mchP d).1 = m at *
  simp only [dSeq, dGetK, rdInK, dGetT, dInT, rdSetK, dNewK, dDcF, dDc2F, dIEnum, dIZip, dISeq, dStar, dCont, dBrk, dOrT, rdInC, dCallK, dCVal, dMeth, dFld, dSetF, dNewF, dNew0F, dDisp, dPairs, dGet2, dGIndex, DL.keyOf, DL.keysOf, dCallL, dLam, dJoin, dJs, dFmtS, dRepl, dRaise, dCallX, dDelTail, dAugL, dXF, dAsg, dIf, dIfS, dB, dAnd, dOr, dNot, dAndV, dOrV, dNotV, dChain, dOp, dUn, dVar, dC, rdI0, rdI, dCB, dCall, rd1, dCons, dNil, dgName, dgSub, dgTup, dgLst, dSortSet, dgCons, dgNil, rdSetL, dRet, dLst, dLstF, dTup, dDrop, dNext, dPar, dBM, dBM0, dSl, dPart, dNoPart, dstart, dwipe, List.map_cons, List.map_nil, List.length_cons, List.length_nil, List.replicate_succ, List.replicate_zero, List.cons_append, List.nil_append, List.set_cons_zero, List.set_cons_succ, List.getElem?_cons_zero, List.getElem?_cons_succ, Nat.reduceAdd, Nat.reduceSub, Option.some.injEq, D.int.injEq, D.bl.injEq, D.str.injEq, D.ref.injEq, D.ty.injEq, D.tup.injEq, D.lst.injEq, D.rls.injEq, RO.lst.injEq, List.cons.injEq, exists_and_left, exists_eq_left', exists_eq_left, and_true, true_and, put_same, put_put, at0, at1, at2, ix30, ix31, ix32, and_assoc, dLcF, dLc, dLcT, dIRng1, dIRng2, dIRng3, dIStr, dITup, dILst, dYes, if_true, Bool.false_eq_true, if_false, eqS_ii, neS_ii, eqS_ss, neS_ss, decide_eq_true_eq, sq_tup, sq_lst, sq_rls, lo_lst, lo_rls, tr_lst, isi_tt, isi_st, isi_nt, isi_bt, isi_it, isi_lt, isi_ts, isi_ss, isi_ns, isi_bs, isi_is, isi_ls, List.append_nil, sz0, sz1, sz2, sz3, sz4, sz5, sz6, sl0, sl1, sl2, ty_put, ty_str, lo_put, sq_put, tr_put, reduceCtorEq, false_and, and_false, exists_false, or_false, false_or, Bool.not_false, Bool.not_true, List.isEmpty_nil, List.isEmpty_cons, app1_empty, dLc2It]
  refine ⟨a, aftK m, hat.ha, fun u => ⟨_, ?_, rfl, fun i acc R' => R' = put R a (.raw u) ∧ acc = (List.range i).flatMap fun p => (aftN m p).map (stepD m p), ⟨rfl, rfl⟩, fun i acc R' _ h => by rw [h.1, put_same], ?_, ?_⟩⟩
  · obtain ⟨dx, fs, i1, _, i3, _⟩ := hat.ins
    exact ⟨dx, fs, by rw [put_ne hat.ra]; exact i1, i3⟩
  · rintro i k v acc R' hk ⟨rfl, rfl⟩
    rw [aftK_at] at hk
    cases hmi : m[i]? with
    | none => rw [hmi] at hk; cases hk
    | some e =>
      rw [hmi] at hk
      cases hk
      have ea : aftN m i = e.2 := by unfold aftN; rw [hmi]; rfl
      have hlt := (List.getElem?_eq_some_iff.mp hmi).1
      have hok := hm e (List.mem_of_getElem? hmi)
      have hsl := steps_len hm i
      have hmm : i * m.length ≤ 13 * 13 := Nat.mul_le_mul (by omega) (by omega)
      refine ⟨_, .inl ⟨rfl, fun j acc R2 => R2 = put R a (.raw u) ∧ acc = ((List.range i).flatMap fun p => (aftN m p).map (stepD m p)) ++ (e.2.take j).map (stepD m i), ⟨rfl, by simp⟩, ?_, ?_, ?_⟩⟩
      · rintro j acc R2 hj ⟨rfl, rfl⟩
        rw [List.length_append, List.length_map, List.length_take]
        omega
      · rintro j y acc R2 hy ⟨rfl, rfl⟩
        obtain ⟨n, rfl, hn, hni, hnt⟩ := take_step (c := fun n => D.int (n : Nat)) hy
        obtain ⟨e2, he2⟩ : ∃ e2 : Str × List Nat, m[n]? = some e2 := ⟨_, List.getElem?_eq_getElem (hok.1 n hn)⟩
        have er : rdN m n = e2.1 := by unfold rdN; rw [he2]; rfl
        obtain ⟨dx, fs, i1, i2, _, _⟩ := hat.ins
        refine ⟨_, ⟨dx, fs, by rw [put_ne hat.ra]; exact i1, i2⟩, _, sq_ref (by rw [put_ne hat.qa]; exact hat.hq), _, rfl, .str e2.1, atI_nat (by unfold rdD; rw [List.getElem?_map, he2]; rfl), rfl, ?_⟩
        rw [hnt, List.map_append, ← List.append_assoc]
        rw [← er]
        rfl
      · rintro acc R2 ⟨rfl, rfl⟩
        rw [List.length_map, List.take_length]
        refine ⟨rfl, ?_⟩
        rw [List.range_succ, List.flatMap_append, ← ea]
        simp
  · rintro acc R' ⟨rfl, rfl⟩
    rw [aftK_len]
    have e1 : put (put R a (RO.raw u)) a (RO.dK (aftK m)) = R := by rw [put_put, put_self hat.ha]
    rw [e1]
    have hsl := steps_len hm m.length
    have hmm : m.length * m.length ≤ 13 * 13 := Nat.mul_le_mul (by omega) (by omega)
    have hmem : ∀ y ∈ D.pys (stepsD m), ∃ p g, y = .tuple [.int (p : Nat), .int (g : Nat), .str (rdN m g)] := fun y hy => by
      rw [pys_map] at hy
      obtain ⟨x, hx, rfl⟩ := List.mem_map.mp hy
      obtain ⟨p, g, rfl⟩ := steps_mem hx
      exact ⟨p, g, py_step m p g⟩
    refine ⟨plains_of fun x hx => ?_, ?_, .inl fun y hy => ?_, by simp only [sizeLine]; omega, fun x hx => ?_, steps_pw hasc, fun p hp => fin (qq p hp)⟩
    · obtain ⟨p, g, rfl⟩ := steps_mem hx
      rfl
    · intro y hy z hz
      obtain ⟨p, g, rfl⟩ := hmem y hy
      obtain ⟨p2, g2, rfl⟩ := hmem z hz
      simp [PySem.W.alike, PySem.W.alikeAll]
    · obtain ⟨p, g, rfl⟩ := hmem y hy
      exact ⟨_, _, rfl⟩
    · obtain ⟨p, g, rfl⟩ := steps_mem hx
      rw [py_step]
      simp [PyData.depth, PyData.depthAll]
end

end Law
end
section
set_option Elab.async false
set_option maxRecDepth 100000
set_option maxHeartbeats 4000000
set_option linter.all false
set_option autoImplicit false
namespace Law
open PySem PySem.Spec PyProof.Rows L2 DL TL TrA TrA.Tr
section
open PySem PySem.W PySem.Calls PyProof.Rows PySem.HandSPX PySem.LX
def iA_NoPattern : Arguments := { posonlyargs := [], args := [{ arg := "self", annotation := none, pos := ⟨15, 17, 15, 21⟩ }, { arg := "pattern", annotation := none, pos := ⟨15, 23, 15, 30⟩ }], vararg := none, kwonlyargs := [], kw_defaults := [], kwarg := none, defaults := [] }
def iB_NoPattern : List Stmt := [.Assign [.Attribute (.Name "self" ⟨16, 8, 16, 12⟩) "pattern" ⟨16, 8, 16, 20⟩] (.Name "pattern" ⟨16, 23, 16, 30⟩) ⟨16, 8, 16, 30⟩]
def iS_NoPattern : Scope := { kind := .function, names := [(PySem.Str.ofString "self", .local), (PySem.Str.ofString "pattern", .local)], isGenerator := false, isCoroutine := false, more := [] }
theorem low_NoPattern {K : Frag} {mg : Str → Option Value} {C fI : Addr} {nm q : Str} {N : Addr} {bs : List Value} {sn : List Str} {sub : List Value} {ab : Bool} {col : Option Bool} {dd : Option Addr} {k0 k1 k2 k3 k5 : Option Value} {oc : Value} {od : Option Addr} {doc pm : Value} {an : Option Addr} {cdv ct : Value} {osl : Array (Option Value)}
    (aC : mg "NoPattern" = some (.ref C)) (hC : K.lookup C = some (excClassObj nm q C N bs [.type "ValueError", .type "Exception", .type "BaseException", .type "object"] true sn sub ab col dd k0 k1 k2 k3 k5 "ValueError.__new__"))
    (sa : findIn K (.ref C) "__setattr__" = some (some (.builtin "object.__setattr__"))) (ga : findIn K (.ref C) "__getattribute__" = some (some (.builtin "BaseException.__getattribute__"))) (gg : findIn K (.ref C) "__getattr__" = some none) (noN : findIn K (.ref C) "pattern" = some none)
    (iC : findIn K (.ref C) "__init__" = some (some (.ref fI))) (tC : typeIn K (.ref fI) = some (.type "function"))
    (ho : K.lookup fI = some ⟨oc, od, .func (fnOf "__init__" "NoPattern.__init__" iA_NoPattern iB_NoPattern iS_NoPattern .none .none doc pm an cdv ct), osl⟩) (hcd : codeIn K cdv "NoPattern.__init__" = true)
    (kC : keepIn K (.ref C) = true) (exC : subIn K (.ref C) (.type "BaseException") = some true) (tyC : typeIn K (.ref C) = some (.type "type")) (hdC : hasDictIn K C = true) (icC : isClsIn K C = true) (sC : subIn K (.ref C) (.ref C) = some true) : PySem.LX.Low K mg "NoPattern" "pattern" C := by
  have hcl : clsIn K C = some { name := nm, bases := bs, mro := .ref C :: [.type "ValueError", .type "Exception", .type "BaseException", .type "object"], ns := N, qualname := q, hasDict := true, slotNames := sn, subclasses := sub, abstract := ab, collection := col, hasDel := false } := by unfold clsIn; rw [hC] <;> rfl
  have init : ∀ (prog : Program) (w : World) (A : Around) (R : Result → Shared → Prop) (s : Shared) (x t0 : Addr) (v : Value), K.In s.heap → s.heap.NoLimit → s.heap.get? x = some (excO C t0) → A.depth < recursionLimit →
      (∀ h' tk dx, InitEnd s.heap h' x C dx t0 "pattern" v → R (.ok (.ret .none)) { s with heap := h', toks := tk }) → codeAny (model prog w) A (.call (.ref fI) ⟨[.ref x, v], []⟩) R s := by
    intro prog w A R s x t0 v X hlim hx hroom hq
    refine Att.call_fn (binds := [("self", .ref x), ("pattern", v)]) X hlim ho hcd hroom (BindsTo.of_eq (by first | rfl | with_unfolding_all rfl)) (by first | rfl | decide | with_unfolding_all rfl) (fun s₁ IC => ?_) rfl rfl rfl
    obtain ⟨h₁, tk₁, rfl⟩ := IC.toInCall.same
    have k : ∀ b o, s.heap.get? b = some o → h₁.get? b = some o := IC.toInCall.keep
    have hn := IC.toInCall.ns
    have X₁ : K.In h₁ := X.keeps k
    have hx₁ := k _ _ hx
    show wpAny _ _ (execs _ _) _ _ _
    refine wpAny_execs_cons (plainObj_wpAny_Assign_Attribute ?_)
    refine ldC (v := v) hn (by first | rfl | with_unfolding_all rfl | kernel_rfl) (ldC (v := .ref x) hn (by first | rfl | with_unfolding_all rfl | kernel_rfl) ?_)
    refine set_plain X₁ (ox := excO C t0) (od := none) ⟨hx₁, rfl, rfl, trivial⟩ sa ?_
    refine PySem.LX.exc_osa X₁ hx₁ hcl rfl F.store_ValueError.passes (by decide +kernel) rfl noN (fun h₃ tk₃ dx k₃ dn dne hx₃ hn₃ => ?_)
    show wpAny _ _ (execs _ _) _ _ _
    have z : s.heap.objs.size < h₁.objs.size := hn.lt
    exact wpAny_execs_nil (hq h₃ tk₃ dx ⟨fun b o hb e => k₃ b o hb (k b o e), hx₃, Nat.le_of_lt (Nat.lt_of_lt_of_le z dn), dne, hn₃⟩)
  refine { gC := aC, ga := ga, gg := gg, noN := noN, kC := kC, exC := exC, tyC := tyC, hdC := hdC, te := exm_self exC icC tyC sC, made := ?_ }
  intro prog w A R s v X hlim hroom hq
  obtain ⟨hp, g, dr, tk, os⟩ := s
  have k : ∀ b o, hp.get? b = some o → ((hp.push (kdv_tup [v])).push (excO C hp.objs.size)).get? b = some o := fun b o e => Heap.get?_push_of_some _ (Heap.get?_push_of_some _ e)
  have hget : ((hp.push (kdv_tup [v])).push (excO C hp.objs.size)).get? (hp.objs.size + 1) = some (excO C hp.objs.size) := by heap_get
  refine call_own F.excBase_ValueError (fun X => rfl) (X _ _ hC) (looks_findIn X iC) (fun self => bind_fn X self tC) (one_size v) ?_
  refine init _ _ _ _ ⟨(hp.push (kdv_tup [v])).push (excO C hp.objs.size), g, dr, tk, os⟩ _ _ _ (X.keeps k) (hlim.keeps k) hget ?_ fun h' tk' dx ⟨k', hx, dn, dne, hns⟩ => ?_
  · show A.depth + 1 < recursionLimit
    exact hroom
  · have old : ∀ b o, hp.get? b = some o → h'.get? b = some o := fun b o e => k' b o (Nat.ne_of_lt (Nat.lt_succ_of_lt (Heap.lt_size e))) (k b o e)
    have z : hp.objs.size + 1 + 1 ≤ dx := by
      first
        | (simpa only [Heap.size_push] using dn)
        | exact dn
        | (have q := dn; rw [Heap.size_push, Heap.size_push] at q; exact q)
    exact ⟨rfl, hq h' tk' (hp.objs.size + 1) dx ⟨old, Nat.le_succ _, ⟨_, _, hx, rfl, rfl, rfl, rfl, rfl, (by decide : (4 : Nat) < 6)⟩, Nat.le_trans (Nat.le_trans (Nat.le_succ _) (Nat.le_succ _)) z, dne, hns⟩⟩
end

section
variable [TabCtx] {P : Program} {w : World} {K : KB} {mg : Str → Option Value} {base : Heap} {f : Addr} {fd : FuncData} {plC pC : Addr}
abbrev s_check_pattern : Stmt := top 19
abbrev n_check_pattern : List Str := ["pattern", "known", "classes", "name"]
theorem sc_check_pattern : FnScope n_check_pattern ["pattern", "known"] (defScope s_check_pattern) := ⟨rfl, rfl, rfl, by decide +kernel, rfl, by decide +kernel, by decide +kernel⟩
def spChk (pC : Addr) : DSp := fun ds R Q E => ∃ d : D, ds = [d, .tup []] ∧ gdB d = true ∧ (patB d = false → E (.ref pC) [("pattern", d)] R) ∧ (patB d = true → Q .non R)
theorem bind_chk (kV doc pm : Value) (an : Option Addr) (cdv ct : Value) : ∀ us rest : List Value, us.length = (["pattern"] : List Str).length → bindArgs (PySem.W.fnOf "check_pattern" "check_pattern" (defArgs s_check_pattern) (defBody s_check_pattern) (defScope s_check_pattern) .none kV doc pm an cdv ct) ⟨us ++ rest, []⟩ = (newTuple rest >>= fun t => pure ((["pattern"] : List Str).zip us ++ [(("known" : Str), t)])) :=
  StX.bind_star1 (B := fun vs => bindArgs (PySem.W.fnOf "check_pattern" "check_pattern" (defArgs s_check_pattern) (defBody s_check_pattern) (defScope s_check_pattern) .none kV doc pm an cdv ct) ⟨vs, []⟩) (fun _ => rfl) (fun _ _ _ => rfl)
theorem ok_chk (F : Fun K "check_pattern" "check_pattern" s_check_pattern f fd) (Z : Blt mg bl) (x_NoPattern : PySem.LX.Low K mg "NoPattern" "pattern" pC) (c_is_pattern : Cal P w K mg base 10 "is_pattern" spPat) (c_classes_in : Cal P w K mg base 9 "classes_in" (spCls 7)) : FnSt P w K mg base (L2.CX P w) 11 f (spOf K (starD 1 (spChk pC))) := by
  refine okXS F (ps := ["pattern"]) (pv := "known") sc_check_pattern bind_chk fun cdv A outer s H E Ed gd hr tk => ?_
  refine ⟨_, (dss_cut (ds_if (dt_not (dt_val (de_c c_is_pattern gd hr (by omega) (by rfl) (da_cons (dv 0) da_nil)))) (dss_one (ds_raise rfl x_NoPattern hr tk (da_cons (dv 0) da_nil) (by rfl))) dss_nil)
    (dss_one (ds_for (passes_of rfl) rfl (di_tup (dv 1)) (dg_name (i := 2) sc_check_pattern.nd rfl (.inr rfl)) (dss_one (ds_if (dt_not (dt_val (de_callB (cd_all rfl) (by rfl) (Z _ (by decide)) bt_all (da_cons (de_lcF (own := [("name", 3)]) rfl sc_check_pattern.nd (lcd (di_list (de_c c_classes_in gd hr (by omega) (by rfl) (da_cons (dv 0) da_nil))) (blkOk_by (N := n_check_pattern) (sc := defScope s_check_pattern) (by decide +kernel)) (fun _ _ _ _ _ => (dgw_name (i := 3) sc_check_pattern.nd rfl (.inl rfl))) (fun _ _ _ _ _ => dts_nil) (fun _ _ _ _ _ => (de_cmp (od_inD (DL.Room.c65 hr)) (dv 3) (dv 2) (by with_unfolding_all rfl))))) da_nil)))) (dss_one (ds_raise rfl x_NoPattern hr tk (da_cons (dv 0) da_nil) (by rfl))) dss_nil))))), fun ds R Qd h => ?_⟩
  obtain ⟨d, rfl, hd, qE, q⟩ := h
  refine (show dCut _ _ _ _ _ from ?_)
  refine ⟨fun s' R' => R' = R ∧ patB d = true ∧ ∃ j1 j2, s' = [some d, some (.tup []), j1, j2], ?_, ?_⟩
  · simp only [dSeq, dGetK, rdInK, dGetT, dInT, rdSetK, dNewK, dDcF, dDc2F, dIEnum, dIZip, dISeq, dStar, dCont, dBrk, dOrT, rdInC, dCallK, dCVal, dMeth, dFld, dSetF, dNewF, dNew0F, dDisp, dPairs, dGet2, dGIndex, DL.keyOf, DL.keysOf, dCallL, dLam, dJoin, dJs, dFmtS, dRepl, dRaise, dCallX, dDelTail, dAugL, dXF, dAsg, dIf, dIfS, dB, dAnd, dOr, dNot, dAndV, dOrV, dNotV, dChain, dOp, dUn, dVar, dC, rdI0, rdI, dCB, dCall, rd1, dCons, dNil, dgName, dgSub, dgTup, dgLst, dSortSet, dgCons, dgNil, rdSetL, dRet, dLst, dLstF, dTup, dDrop, dNext, dPar, dBM, dBM0, dSl, dPart, dNoPart, dstart, dwipe, List.map_cons, List.map_nil, List.length_cons, List.length_nil, List.replicate_succ, List.replicate_zero, List.cons_append, List.nil_append, List.set_cons_zero, List.set_cons_succ, List.getElem?_cons_zero, List.getElem?_cons_succ, Nat.reduceAdd, Nat.reduceSub, Option.some.injEq, D.int.injEq, D.bl.injEq, D.str.injEq, D.ref.injEq, D.ty.injEq, D.tup.injEq, D.lst.injEq, D.rls.injEq, RO.lst.injEq, List.cons.injEq, exists_and_left, exists_eq_left', exists_eq_left, and_true, true_and, put_same, put_put, at0, at1, at2, ix30, ix31, ix32, and_assoc, dLcF, dLc, dLcT, dIRng1, dIRng2, dIRng3, dIStr, dITup, dILst, dYes, if_true, Bool.false_eq_true, if_false, eqS_ii, neS_ii, eqS_ss, neS_ss, decide_eq_true_eq, sq_tup, sq_lst, sq_rls, lo_lst, lo_rls, tr_lst, isi_tt, isi_st, isi_nt, isi_bt, isi_it, isi_lt, isi_ts, isi_ss, isi_ns, isi_bs, isi_is, isi_ls, List.append_nil, sz0, sz1, sz2, sz3, sz4, sz5, sz6, sl0, sl1, sl2, ty_put, ty_str, lo_put, sq_put, tr_put, reduceCtorEq, false_and, and_false, exists_false, or_false, false_or, Bool.not_false, Bool.not_true, List.isEmpty_nil, List.isEmpty_cons, app1_empty]
    refine ⟨d, rfl, hd, _, rfl, ?_⟩
    cases hp : patB d with
    | false => exact iteT rfl (finX (qE hp))
    | true => exact iteF (by decide) ⟨rfl, rfl, _, rfl⟩
  rintro s1 R1 ⟨rfl, hp, j1, j2, rfl⟩
  simp only [dFor, dSeq, dGetK, rdInK, dGetT, dInT, rdSetK, dNewK, dDcF, dDc2F, dIEnum, dIZip, dISeq, dStar, dCont, dBrk, dOrT, rdInC, dCallK, dCVal, dMeth, dFld, dSetF, dNewF, dNew0F, dDisp, dPairs, dGet2, dGIndex, DL.keyOf, DL.keysOf, dCallL, dLam, dJoin, dJs, dFmtS, dRepl, dRaise, dCallX, dDelTail, dAugL, dXF, dAsg, dIf, dIfS, dB, dAnd, dOr, dNot, dAndV, dOrV, dNotV, dChain, dOp, dUn, dVar, dC, rdI0, rdI, dCB, dCall, rd1, dCons, dNil, dgName, dgSub, dgTup, dgLst, dSortSet, dgCons, dgNil, rdSetL, dRet, dLst, dLstF, dTup, dDrop, dNext, dPar, dBM, dBM0, dSl, dPart, dNoPart, dstart, dwipe, List.map_cons, List.map_nil, List.length_cons, List.length_nil, List.replicate_succ, List.replicate_zero, List.cons_append, List.nil_append, List.set_cons_zero, List.set_cons_succ, List.getElem?_cons_zero, List.getElem?_cons_succ, Nat.reduceAdd, Nat.reduceSub, Option.some.injEq, D.int.injEq, D.bl.injEq, D.str.injEq, D.ref.injEq, D.ty.injEq, D.tup.injEq, D.lst.injEq, D.rls.injEq, RO.lst.injEq, List.cons.injEq, exists_and_left, exists_eq_left', exists_eq_left, and_true, true_and, put_same, put_put, at0, at1, at2, ix30, ix31, ix32, and_assoc, dLcF, dLc, dLcT, dIRng1, dIRng2, dIRng3, dIStr, dITup, dILst, dYes, if_true, Bool.false_eq_true, if_false, eqS_ii, neS_ii, eqS_ss, neS_ss, decide_eq_true_eq, sq_tup, sq_lst, sq_rls, lo_lst, lo_rls, tr_lst, isi_tt, isi_st, isi_nt, isi_bt, isi_it, isi_lt, isi_ts, isi_ss, isi_ns, isi_bs, isi_is, isi_ls, List.append_nil, sz0, sz1, sz2, sz3, sz4, sz5, sz6, sl0, sl1, sl2, ty_put, ty_str, lo_put, sq_put, tr_put, reduceCtorEq, false_and, and_false, exists_false, or_false, false_or, Bool.not_false, Bool.not_true, List.isEmpty_nil, List.isEmpty_cons, app1_empty]
  exact ⟨fun i s' R' => R' = R1, rfl, fun _ _ _ _ _ => trivial, (fun i x s R h => by simp at h), fun s R e => by rw [e]; exact fin (q hp)⟩
theorem chk_ok {d : D} {R : Rs} {Q : DK} {E : DXK} (hd : gdB d = true) (qE : patB d = false → E (.ref pC) [("pattern", d)] R) (q : patB d = true → Q .non R) : starD 1 (spChk pC) [d] R Q E := ⟨[d], [], rfl, rfl, by simp [sizeLine], d, rfl, hd, qE, q⟩
theorem pat6 {d : D} (h : patB d = true) : isN 6 d = true ∧ (clsN 6 d).length ≤ 12 := by
  unfold patB at h
  rw [Bool.and_eq_true, decide_eq_true_eq] at h
  exact h
theorem PlOk.insA {R : Rs} {r : Addr} {d : D} {x : Str} (h : PlOk plC R r d) (hx : x ∉ (["read", "after", "starts", "ends"] : List Str)) : insAt R (.ref r) plC x := by
  obtain ⟨q, a, hat⟩ := h.at_
  exact hat.insA hx
theorem oth_new {R R' : Rs} {r : Addr} {o : RO} (h : ∀ x ro, put R r o x = some ro → x ≠ r → R' x = some ro) (h0 : R r = none) : ∀ a ro, R a = some ro → R' a = some ro := fun a ro e => by
  have hn : a ≠ r := by rintro rfl; rw [h0] at e; cases e
  exact h a ro (by rw [put_ne hn]; exact e) hn
end

end Law
end
section
set_option Elab.async false
set_option maxRecDepth 100000
set_option maxHeartbeats 4000000
set_option linter.all false
set_option autoImplicit false
namespace Law
open PySem PySem.Spec PyProof.Rows L2 DL TL TrA TrA.Tr
section
variable [TabCtx] {P : Program} {w : World} {K : KB} {mg : Str → Option Value} {base : Heap} {f : Addr} {fd : FuncData} {plC pC : Addr}
theorem put_sub {R R' : Rs} {p : Addr} {o : RO} (h : ∀ a ro, R a = some ro → R' a = some ro) : ∀ a ro, put R p o a = some ro → put R' p o a = some ro := fun a ro e => by
  by_cases ha : a = p
  · subst ha; rw [put_same] at e ⊢; exact e
  · rw [put_ne ha] at e ⊢; exact h a ro e
theorem sub_none {R R' : Rs} {p : Addr} (h : ∀ a ro, R a = some ro → R' a = some ro) (e : R' p = none) : R p = none := by
  cases z : R p with
  | none => rfl
  | some ro => rw [h p ro z] at e; cases e
abbrev s_steps : Stmt := top 21
abbrev n_steps : List Str := ["pattern"]
theorem sc_steps : FnScope n_steps ["pattern"] (defScope s_steps) := ⟨rfl, rfl, rfl, by decide +kernel, rfl, by decide +kernel, by decide +kernel⟩
def spStepsF (pC : Addr) : DSp := fun ds R Q E => ∃ d : D, ds = [d] ∧ gdB d = true ∧ (patB d = false → E (.ref pC) [("pattern", d)] R) ∧ (patB d = true → ∀ p, R p = none → Q (.ref p) (put R p (.lst (stepsD (mchP d).1))))
theorem ok_stepsF (F : Fun K "steps" "steps" s_steps f fd) (Z : Blt mg bl) (c_check_pattern : CalS P w K mg base 11 "check_pattern" (starD 1 (spChk pC))) (n_Places : MakDX P w K mg base 17 "Places" plC (spPlInit plC)) (m_Places_steps : MetD P w K mg base 1 plC "steps" (spSteps plC)) : FnG P w K mg base (L2.CX P w) 19 f fd ["pattern"] (spOf K (spStepsF pC)) := by
  refine okX F sc_steps (fun ds R Q E h => by obtain ⟨d, rfl, _⟩ := h; rfl) fun cdv A outer s H E Ed gd hr tk => ?_
  refine ⟨_, (dss_cons (ds_expr (de_cS c_check_pattern gd hr (by omega) tk (by rfl) (da_cons (dv 0) da_nil)))
    (dss_one (ds_ret (de_meth0 m_Places_steps gd hr (by omega) (de_newR n_Places gd hr (by omega) tk (by rfl) (da_cons (dv 0) da_nil)))))), fun ds R Qd h => ?_⟩
  obtain ⟨d, rfl, hd, qE, q⟩ := h
  simp only [dSeq, dGetK, rdInK, dGetT, dInT, rdSetK, dNewK, dDcF, dDc2F, dIEnum, dIZip, dISeq, dStar, dCont, dBrk, dOrT, rdInC, dCallK, dCVal, dMeth, dFld, dSetF, dNewF, dNew0F, dDisp, dPairs, dGet2, dGIndex, DL.keyOf, DL.keysOf, dCallL, dLam, dJoin, dJs, dFmtS, dRepl, dRaise, dCallX, dDelTail, dAugL, dXF, dAsg, dIf, dIfS, dB, dAnd, dOr, dNot, dAndV, dOrV, dNotV, dChain, dOp, dUn, dVar, dC, rdI0, rdI, dCB, dCall, rd1, dCons, dNil, dgName, dgSub, dgTup, dgLst, dSortSet, dgCons, dgNil, rdSetL, dRet, dLst, dLstF, dTup, dDrop, dNext, dPar, dBM, dBM0, dSl, dPart, dNoPart, dstart, dwipe, List.map_cons, List.map_nil, List.length_cons, List.length_nil, List.replicate_succ, List.replicate_zero, List.cons_append, List.nil_append, List.set_cons_zero, List.set_cons_succ, List.getElem?_cons_zero, List.getElem?_cons_succ, Nat.reduceAdd, Nat.reduceSub, Option.some.injEq, D.int.injEq, D.bl.injEq, D.str.injEq, D.ref.injEq, D.ty.injEq, D.tup.injEq, D.lst.injEq, D.rls.injEq, RO.lst.injEq, List.cons.injEq, exists_and_left, exists_eq_left', exists_eq_left, and_true, true_and, put_same, put_put, at0, at1, at2, ix30, ix31, ix32, and_assoc, dLcF, dLc, dLcT, dIRng1, dIRng2, dIRng3, dIStr, dITup, dILst, dYes, if_true, Bool.false_eq_true, if_false, eqS_ii, neS_ii, eqS_ss, neS_ss, decide_eq_true_eq, sq_tup, sq_lst, sq_rls, lo_lst, lo_rls, tr_lst, isi_tt, isi_st, isi_nt, isi_bt, isi_it, isi_lt, isi_ts, isi_ss, isi_ns, isi_bs, isi_is, isi_ls, List.append_nil, sz0, sz1, sz2, sz3, sz4, sz5, sz6, sl0, sl1, sl2, ty_put, ty_str, lo_put, sq_put, tr_put, reduceCtorEq, false_and, and_false, exists_false, or_false, false_or, Bool.not_false, Bool.not_true, List.isEmpty_nil, List.isEmpty_cons, app1_empty, dNew]
  refine chk_ok hd (fun e => finX (qE e)) fun hp r dx hr0 => ?_
  obtain ⟨h6, hcl⟩ := pat6 hp
  refine ⟨r, dx, d, rfl, h6, hcl, put_same, fun R' ho ok => ⟨rfl, ok.insA (by decide +kernel), r, d, rfl, ok, h6, hcl, fun p hp2 => finS (put_sub (oth_new ho hr0)) (q hp p (sub_none (oth_new ho hr0) hp2))⟩⟩
abbrev s_ends : Stmt := top 22
abbrev n_ends : List Str := ["pattern"]
theorem sc_ends : FnScope n_ends ["pattern"] (defScope s_ends) := ⟨rfl, rfl, rfl, by decide +kernel, rfl, by decide +kernel, by decide +kernel⟩
def spEnds (pC : Addr) : DSp := fun ds R Q E => ∃ d : D, ds = [d] ∧ gdB d = true ∧ (patB d = false → E (.ref pC) [("pattern", d)] R) ∧ (patB d = true → ∀ p, R p = none → Q (.ref p) (put R p (.lst ((mchP d).2.2.map fun n => D.int (n : Nat)))))
theorem ok_ends (F : Fun K "ends" "ends" s_ends f fd) (Z : Blt mg bl) (cl_Places : Cls K plC) (na_Places_ends : NoAttr K plC "ends") (c_check_pattern : CalS P w K mg base 11 "check_pattern" (starD 1 (spChk pC))) (n_Places : MakDX P w K mg base 17 "Places" plC (spPlInit plC)) : FnG P w K mg base (L2.CX P w) 19 f fd ["pattern"] (spOf K (spEnds pC)) := by
  refine okX F sc_ends (fun ds R Q E h => by obtain ⟨d, rfl, _⟩ := h; rfl) fun cdv A outer s H E Ed gd hr tk => ?_
  refine ⟨_, (dss_cons (ds_expr (de_cS c_check_pattern gd hr (by omega) tk (by rfl) (da_cons (dv 0) da_nil)))
    (dss_one (ds_ret (de_callB cd_sortedIR (by rfl) (Z _ (by decide)) bt_sorted (da_cons (de_fld cl_Places na_Places_ends (de_newR n_Places gd hr (by omega) tk (by rfl) (da_cons (dv 0) da_nil))) da_nil))))), fun ds R Qd h => ?_⟩
  obtain ⟨d, rfl, hd, qE, q⟩ := h
  simp only [dSeq, dGetK, rdInK, dGetT, dInT, rdSetK, dNewK, dDcF, dDc2F, dIEnum, dIZip, dISeq, dStar, dCont, dBrk, dOrT, rdInC, dCallK, dCVal, dMeth, dFld, dSetF, dNewF, dNew0F, dDisp, dPairs, dGet2, dGIndex, DL.keyOf, DL.keysOf, dCallL, dLam, dJoin, dJs, dFmtS, dRepl, dRaise, dCallX, dDelTail, dAugL, dXF, dAsg, dIf, dIfS, dB, dAnd, dOr, dNot, dAndV, dOrV, dNotV, dChain, dOp, dUn, dVar, dC, rdI0, rdI, dCB, dCall, rd1, dCons, dNil, dgName, dgSub, dgTup, dgLst, dSortSet, dgCons, dgNil, rdSetL, dRet, dLst, dLstF, dTup, dDrop, dNext, dPar, dBM, dBM0, dSl, dPart, dNoPart, dstart, dwipe, List.map_cons, List.map_nil, List.length_cons, List.length_nil, List.replicate_succ, List.replicate_zero, List.cons_append, List.nil_append, List.set_cons_zero, List.set_cons_succ, List.getElem?_cons_zero, List.getElem?_cons_succ, Nat.reduceAdd, Nat.reduceSub, Option.some.injEq, D.int.injEq, D.bl.injEq, D.str.injEq, D.ref.injEq, D.ty.injEq, D.tup.injEq, D.lst.injEq, D.rls.injEq, RO.lst.injEq, List.cons.injEq, exists_and_left, exists_eq_left', exists_eq_left, and_true, true_and, put_same, put_put, at0, at1, at2, ix30, ix31, ix32, and_assoc, dLcF, dLc, dLcT, dIRng1, dIRng2, dIRng3, dIStr, dITup, dILst, dYes, if_true, Bool.false_eq_true, if_false, eqS_ii, neS_ii, eqS_ss, neS_ss, decide_eq_true_eq, sq_tup, sq_lst, sq_rls, lo_lst, lo_rls, tr_lst, isi_tt, isi_st, isi_nt, isi_bt, isi_it, isi_lt, isi_ts, isi_ss, isi_ns, isi_bs, isi_is, isi_ls, List.append_nil, sz0, sz1, sz2, sz3, sz4, sz5, sz6, sl0, sl1, sl2, ty_put, ty_str, lo_put, sq_put, tr_put, reduceCtorEq, false_and, and_false, exists_false, or_false, false_or, Bool.not_false, Bool.not_true, List.isEmpty_nil, List.isEmpty_cons, app1_empty, dNew]
  refine chk_ok hd (fun e => finX (qE e)) fun hp r dx hr0 => ?_
  obtain ⟨h6, hcl⟩ := pat6 hp
  refine ⟨r, dx, d, rfl, h6, hcl, put_same, fun R' ho ok => ⟨rfl, _, ok.en, (mchP d).2.2.map (fun n => ((n : Nat) : Int)), by simp [lstOf, natD], ?_, fun ys hy hs p hp2 => ?_⟩⟩
  · rw [List.length_map]
    have := (add_ok 6 h6 m00 m00_ok).zl
    have : (mchP d).2.2.length ≤ 12 := Nat.le_trans this hcl
    omega
  · have hz := (mch_asc h6).2.1
    have e : ys = (mchP d).2.2.map fun n => ((n : Nat) : Int) := by
      have hz2 : ((mchP d).2.2.map fun n => ((n : Nat) : Int)).Pairwise (· < ·) := by
        rw [List.pairwise_map]
        exact hz.imp fun h => by omega
      have hn : ys.Nodup := (hy.nodup_iff).mpr (hz2.imp fun h => by omega)
      have hlt : ys.Pairwise (· < ·) := (List.pairwise_and_iff.mpr ⟨hs, hn⟩).imp fun h => by have := h.1; have := h.2; omega
      exact asc_uniq hlt hz2 fun k => hy.mem_iff
    rw [e]
    rw [List.map_map]
    exact finS (put_sub (oth_new ho hr0)) (q hp p (sub_none (oth_new ho hr0) hp2))
end

end Law
end
section
set_option Elab.async false
set_option maxRecDepth 100000
set_option maxHeartbeats 4000000
set_option linter.all false
set_option autoImplicit false
namespace Law
open PySem PySem.Spec PyProof.Rows L2 DL TL TrA TrA.Tr
section
variable [TabCtx] {P : Program} {w : World} {K : KB} {mg : Str → Option Value} {base : Heap} {f : Addr} {fd : FuncData}
abbrev s_law_pattern : Stmt := top 27
abbrev n_law_pattern : List Str := ["_law_bag_here", "_law_names_here", "_law_deep", "_law_way", "_law_parts", "_law_turn"]
theorem sc_law_pattern : FnScope n_law_pattern ["_law_bag_here", "_law_names_here", "_law_deep"] (defScope s_law_pattern) := ⟨rfl, rfl, rfl, by decide +kernel, rfl, by decide +kernel, by decide +kernel⟩
theorem pow4 (k : Nat) : 4 ≤ 4 ^ (k + 1) := by
  have : 1 ≤ 4 ^ k := Nat.pow_pos (by decide)
  rw [Nat.pow_succ]; omega
def spPattern (n : Nat) : DSp := fun ds R Q _ => ∃ (b : Addr) (ns : List Str) (k m : Nat), ds = [.ref b, .lst (ns.map D.str), .int (k + 1 : Nat)] ∧ k < n ∧ k ≤ 5 ∧ Bag m R b ∧ m + 4 ^ (k + 1) ≤ 999900000 ∧ ns ≠ [] ∧ ns.length ≤ 26 ∧ (∀ x ∈ ns, nmB x = true) ∧ ∀ (d : D) (o : RO), isN (k + 1) d = true → (∀ x ∈ clsN (k + 1) d, x ∈ ns) → Bag (m + 4 ^ (k + 1)) (put R b o) b → Q d (put R b o)
def MPat (b : Addr) (ns : List Str) (k m : Nat) (R : Rs) (s' : DSt) (R' : Rs) : Prop := ∃ (way : Nat) (o : RO), way < 6 ∧ (way ≠ 0 → 1 ≤ k) ∧ Bag (m + 1) (put R b o) b ∧ R' = put R b o ∧ s' = [some (.ref b), some (.lst (ns.map D.str)), some (.int (k + 1 : Nat)), some (.int way), none, none]
def PPat (b : Addr) (ns : List Str) (k m : Nat) (R : Rs) (i : Nat) (acc : List D) (R' : Rs) : Prop := ∃ o : RO, acc.length = i ∧ (∀ d ∈ acc, isN (k + 1) d = true ∧ ∀ x ∈ clsN (k + 1) d, x ∈ ns) ∧ Bag (m + i * 4 ^ (k + 1)) (put R b o) b ∧ R' = put R b o
theorem step_pattern {n : Nat} (F : Fun K "_law_pattern" "_law_pattern" s_law_pattern f fd) (Z : Blt mg bl) (c_law_take : Cal P w K mg base 1 "_law_take" spTake) (c_law_pattern : Cal P w K mg base (n + 2) "_law_pattern" (spPattern n)) : FnG P w K mg base CX0 (n + 3) f fd ["_law_bag_here", "_law_names_here", "_law_deep"] (spOf K (spPattern (n + 1))) := by
  refine okD F sc_law_pattern (fun ds R Q E h => by obtain ⟨b, ns, k, m, rfl, _⟩ := h; rfl) fun cdv A outer s H E gd hr => ?_
  refine ⟨_, (dss_cut (ds_asg (de_if (dt_cmp od_gt (dv 2) de_int (nomark _)) (de_c c_law_take gd hr (by omega) (by rfl) (da_cons (dv 0) (da_cons de_int da_nil))) de_int) (dg_name (i := 3) sc_law_pattern.nd rfl (.inl rfl)))
    (dss_cons (ds_if (dt_cmp od_lt (dv 3) de_int (nomark _)) (dss_one (ds_ret (de_tup (da_cons de_str (da_cons (de_ix xd_seq (dv 1) (de_c c_law_take gd hr (by omega) (by rfl) (da_cons (dv 0) (da_cons (de_callB cd_len (by rfl) (Z _ (by decide)) bt_len (da_cons (dv 1) da_nil)) da_nil))) (fun _ _ => rfl)) da_nil))))) dss_nil)
    (dss_cons (ds_if (dt_cmp od_eqS (dv 3) de_int (nomark _)) (dss_one (ds_ret (de_tup (da_cons de_str (da_cons (de_c c_law_pattern gd hr (by omega) (by rfl) (da_cons (dv 0) (da_cons (dv 1) (da_cons (de_op od_sub (dv 2) de_int) da_nil)))) da_nil))))) dss_nil)
    (dss_cons (ds_setLcF (i := 4) (own := [("_law_turn", 5)]) rfl sc_law_pattern.nd rfl rfl (sw_true rfl rfl rfl (by decide +kernel)) (lcd (di_range1 (by rfl) (Z _ (by decide)) (de_op od_add de_int (de_callTy cd_intB (by rfl) (Z _ (by decide)) bt_int (da_cons (de_cmp od_eqS (de_c c_law_take gd hr (by omega) (by rfl) (da_cons (dv 0) (da_cons de_int da_nil))) de_int (nomark _)) da_nil)))) (blkOk_by (N := n_law_pattern) (sc := defScope s_law_pattern) (by decide +kernel)) (fun _ _ _ _ _ => (dgw_name (i := 5) sc_law_pattern.nd rfl (.inl rfl))) (fun _ _ _ _ _ => dts_nil) (fun _ _ _ _ _ => (de_c c_law_pattern gd hr (by omega) (by rfl) (da_cons (dv 0) (da_cons (dv 1) (da_cons (de_op od_sub (dv 2) de_int) da_nil)))))))
    (dss_one (ds_ret (de_tup (da_cons (de_ix xd_seq (de_lstF (da_cons de_str (da_cons de_str (da_cons de_str da_nil)))) (de_op od_sub (dv 3) de_int) (fun _ _ => rfl)) (da_cons (de_callTy cd_tuple (by rfl) (Z _ (by decide)) bt_tuple (da_cons (dv 4) da_nil)) da_nil))))))))), fun ds R Qd Ed h => ?_⟩
  obtain ⟨b, ns, k, m, rfl, hk, hk5, hB, hm, hne, hns, hnb, q⟩ := h
  have hp4 : 4 ^ (k + 1) ≤ 4 ^ 6 := Nat.pow_le_pow_right (by decide) (by omega)
  have e46 : 4 ^ 6 = 4096 := by decide
  have hp1 := pow4 k
  refine (show dCut _ _ _ _ _ from ?_)
  refine ⟨MPat b ns k m R, ?_, ?_⟩
  · simp only [dSeq, dGetK, rdInK, dGetT, dInT, rdSetK, dNewK, dDcF, dDc2F, dIEnum, dIZip, dISeq, dStar, dCont, dBrk, dOrT, rdInC, dCallK, dCVal, dMeth, dFld, dSetF, dNewF, dNew0F, dDisp, dPairs, dGet2, dGIndex, DL.keyOf, DL.keysOf, dCallL, dLam, dJoin, dJs, dFmtS, dRepl, dRaise, dCallX, dDelTail, dAugL, dXF, dAsg, dIf, dIfS, dB, dAnd, dOr, dNot, dAndV, dOrV, dNotV, dChain, dOp, dUn, dVar, dC, rdI0, rdI, dCB, dCall, rd1, dCons, dNil, dgName, dgSub, dgTup, dgLst, dSortSet, dgCons, dgNil, rdSetL, dRet, dLst, dLstF, dTup, dDrop, dNext, dPar, dBM, dBM0, dSl, dPart, dNoPart, dstart, dwipe, List.map_cons, List.map_nil, List.length_cons, List.length_nil, List.replicate_succ, List.replicate_zero, List.cons_append, List.nil_append, List.set_cons_zero, List.set_cons_succ, List.getElem?_cons_zero, List.getElem?_cons_succ, Nat.reduceAdd, Nat.reduceSub, Option.some.injEq, D.int.injEq, D.bl.injEq, D.str.injEq, D.ref.injEq, D.ty.injEq, D.tup.injEq, D.lst.injEq, D.rls.injEq, RO.lst.injEq, List.cons.injEq, exists_and_left, exists_eq_left', exists_eq_left, and_true, true_and, put_same, put_put, at0, at1, at2, ix30, ix31, ix32, and_assoc, dLcF, dLc, dLcT, dIRng1, dIRng2, dIRng3, dIStr, dITup, dILst, dYes, if_true, Bool.false_eq_true, if_false, eqS_ii, neS_ii, eqS_ss, neS_ss, decide_eq_true_eq, sq_tup, sq_lst, sq_rls, lo_lst, lo_rls, tr_lst, isi_tt, isi_st, isi_nt, isi_bt, isi_it, isi_lt, isi_ts, isi_ss, isi_ns, isi_bs, isi_is, isi_ls, List.append_nil, sz0, sz1, sz2, sz3, sz4, sz5, sz6, sl0, sl1, sl2, ty_put, ty_str, lo_put, sq_put, tr_put, reduceCtorEq, false_and, and_false, exists_false, or_false, false_or, Bool.not_false, Bool.not_true, List.isEmpty_nil, List.isEmpty_cons, app1_empty]
    by_cases hk0 : 1 ≤ k
    · refine iteT (by omega) (take_ok hB (by omega) (by decide) (by decide) fun v o h0 h1 hB1 => ?_)
      obtain ⟨v, rfl⟩ := Int.eq_ofNat_of_zero_le h0
      exact ⟨v, o, by omega, fun _ => hk0, hB1, rfl, rfl⟩
    · refine iteF (by omega) ?_
      obtain ⟨o, ho⟩ := hB.self
      exact ⟨0, o, by decide, fun z => (z rfl).elim, by rw [ho]; exact Bag.mono hB (by omega), ho.symm, rfl⟩
  rintro s1 R1 ⟨way, o, hw, hwk, hB1, rfl, rfl⟩
  simp only [dSeq, dGetK, rdInK, dGetT, dInT, rdSetK, dNewK, dDcF, dDc2F, dIEnum, dIZip, dISeq, dStar, dCont, dBrk, dOrT, rdInC, dCallK, dCVal, dMeth, dFld, dSetF, dNewF, dNew0F, dDisp, dPairs, dGet2, dGIndex, DL.keyOf, DL.keysOf, dCallL, dLam, dJoin, dJs, dFmtS, dRepl, dRaise, dCallX, dDelTail, dAugL, dXF, dAsg, dIf, dIfS, dB, dAnd, dOr, dNot, dAndV, dOrV, dNotV, dChain, dOp, dUn, dVar, dC, rdI0, rdI, dCB, dCall, rd1, dCons, dNil, dgName, dgSub, dgTup, dgLst, dSortSet, dgCons, dgNil, rdSetL, dRet, dLst, dLstF, dTup, dDrop, dNext, dPar, dBM, dBM0, dSl, dPart, dNoPart, dstart, dwipe, List.map_cons, List.map_nil, List.length_cons, List.length_nil, List.replicate_succ, List.replicate_zero, List.cons_append, List.nil_append, List.set_cons_zero, List.set_cons_succ, List.getElem?_cons_zero, List.getElem?_cons_succ, Nat.reduceAdd, Nat.reduceSub, Option.some.injEq, D.int.injEq, D.bl.injEq, D.str.injEq, D.ref.injEq, D.ty.injEq, D.tup.injEq, D.lst.injEq, D.rls.injEq, RO.lst.injEq, List.cons.injEq, exists_and_left, exists_eq_left', exists_eq_left, and_true, true_and, put_same, put_put, at0, at1, at2, ix30, ix31, ix32, and_assoc, dLcF, dLc, dLcT, dIRng1, dIRng2, dIRng3, dIStr, dITup, dILst, dYes, if_true, Bool.false_eq_true, if_false, eqS_ii, neS_ii, eqS_ss, neS_ss, decide_eq_true_eq, sq_tup, sq_lst, sq_rls, lo_lst, lo_rls, tr_lst, isi_tt, isi_st, isi_nt, isi_bt, isi_it, isi_lt, isi_ts, isi_ss, isi_ns, isi_bs, isi_is, isi_ls, List.append_nil, sz0, sz1, sz2, sz3, sz4, sz5, sz6, sl0, sl1, sl2, ty_put, ty_str, lo_put, sq_put, tr_put, reduceCtorEq, false_and, and_false, exists_false, or_false, false_or, Bool.not_false, Bool.not_true, List.isEmpty_nil, List.isEmpty_cons, app1_empty]
  have hl0 : 0 < ns.length := List.length_pos_iff.mpr hne
  by_cases hw2 : way < 2
  · refine iteT (by omega) ?_
    rw [List.length_map]
    refine take_ok hB1 (by omega) (by omega) (by omega) fun v o2 h0 h1 hB2 => ?_
    obtain ⟨a, ea, ma, _⟩ := at_lt (l := ns) h0 h1
    rw [put_put] at hB2 ⊢
    refine ⟨v, rfl, _, at_map D.str ea, fin (q _ o2 (by rw [isN_one]; exact hnb a ma) (fun x hx => ?_) (hB2.mono (by omega)))⟩
    rw [clsN_one, List.mem_singleton] at hx
    rw [hx]; exact ma
  refine iteF (by omega) ?_
  obtain ⟨k, rfl⟩ : ∃ j, k = j + 1 := ⟨k - 1, by have := hwk (by omega); omega⟩
  have hp2 : 4 ^ (k + 1 + 1) = 4 * 4 ^ (k + 1) := by rw [Nat.pow_succ 4 (k + 1), Nat.mul_comm]
  have hp3 := pow4 k
  by_cases hw3 : way = 2
  · refine iteT (by omega) ⟨b, ns, k, m + 1, by rw [show (((k + 1 + 1 : Nat) : Int) - 1) = ((k + 1 : Nat) : Int) by omega], by omega, by omega, hB1, by omega, hne, hns, hnb, fun d o2 hd hc hB2 => fin ?_⟩
    rw [put_put] at hB2 ⊢
    exact q _ o2 (by rw [isN_many]; exact hd) (by rw [clsN_many]; exact hc) (hB2.mono (by omega))
  refine iteF (by omega) (take_ok hB1 (by omega) (by decide) (by decide) fun v o2 h0 h1 hB2 => eqS_ii.mpr ⟨_, rfl, ?_⟩)
  rw [put_put] at hB2 ⊢
  obtain ⟨n1, en1, hn1, hn2⟩ : ∃ n1 : Nat, (2 + if decide (v = 0) = true then 1 else 0 : Int) = n1 ∧ 2 ≤ n1 ∧ n1 ≤ 3 := by
    by_cases hv : v = 0
    · exact ⟨3, by rw [if_pos (decide_eq_true hv)]; rfl, by decide, by decide⟩
    · exact ⟨2, by rw [if_neg (by simpa using hv)]; rfl, by decide, by decide⟩
  refine ⟨n1, en1, by omega, by rw [List.length_map, List.length_range]; simp only [sizeLine]; omega, PPat b ns k (m + 2) R, ⟨o2, rfl, by simp, hB2.mono (by omega), rfl⟩, fun _ _ _ _ _ => trivial, ?_, ?_⟩
  · rintro i x acc R' hx hlk ⟨o3, hl, hall, hB3, rfl⟩
    obtain ⟨rfl, hi⟩ := range_step hx
    have hi3 : i * 4 ^ (k + 1) ≤ 2 * 4 ^ (k + 1) := Nat.mul_le_mul_right _ (by omega)
    refine ⟨b, ns, k, m + 2 + i * 4 ^ (k + 1), by rw [show (((k + 1 + 1 : Nat) : Int) - 1) = ((k + 1 : Nat) : Int) by omega], by omega, by omega, hB3, by omega, hne, hns, hnb, fun d o4 hd hc hB4 => ⟨o4, by rw [List.length_append, hl]; rfl, fun y hy => ?_, ?_, by rw [put_put]⟩⟩
    · rcases List.mem_append.mp hy with z | z
      · exact hall y z
      · rw [List.mem_singleton.mp z]; exact ⟨hd, hc⟩
    · rw [put_put] at hB4
      rw [Nat.add_mul, Nat.one_mul, ← Nat.add_assoc]
      exact hB4
  · rintro acc R' hlk ⟨o3, hl, hall, hB3, rfl⟩
    rw [List.length_map, List.length_range] at hl hB3
    have hi3 : n1 * 4 ^ (k + 1) ≤ 3 * 4 ^ (k + 1) := Nat.mul_le_mul_right _ hn2
    have hB5 : Bag (m + 4 ^ (k + 1 + 1)) (put R b o3) b := hB3.mono (by omega)
    have hcl : ∀ x ∈ acc.flatMap (clsN (k + 1)), x ∈ ns := fun x hx => by
      obtain ⟨d, hd, hx⟩ := List.mem_flatMap.mp hx
      exact (hall d hd).2 x hx
    have hal : (decide (2 ≤ acc.length) && decide (acc.length ≤ 4) && acc.all (isN (k + 1))) = true := by
      rw [decide_eq_true (by omega), decide_eq_true (by omega)]
      exact List.all_eq_true.mpr fun d hd => (hall d hd).1
    have hrow := fin (q (.tup [.str "row", .tup acc]) o3 (by rw [isN_row]; exact hal) (by rw [clsN_row]; exact hcl) hB5)
    have hany := fin (q (.tup [.str "any", .tup acc]) o3 (by rw [isN_any]; exact hal) (by rw [clsN_any]; exact hcl) hB5)
    rcases (by omega : way = 3 ∨ way = 4 ∨ way = 5) with rfl | rfl | rfl
    · exact ⟨_, rfl, hrow⟩
    · exact ⟨_, rfl, hany⟩
    · exact ⟨_, rfl, hrow⟩
theorem ok_pattern (F : Fun K "_law_pattern" "_law_pattern" s_law_pattern f fd) (Z : Blt mg bl) (c_law_take : Cal P w K mg base 1 "_law_take" spTake) (hm : mg "_law_pattern" = some (.ref f)) (bd : Binds K fd ["_law_bag_here", "_law_names_here", "_law_deep"] []) : ∀ n : Nat, FnG P w K mg base CX0 (n + 2) f fd ["_law_bag_here", "_law_names_here", "_law_deep"] (spOf K (spPattern n))
  | 0 => fnG_none fun ds R Q E ⟨b, ns, k, m, _, hk, _⟩ => by omega
  | n + 1 => step_pattern F Z c_law_take ⟨_, _, _, ok_pattern F Z c_law_take hm bd n, hm, F.kp, bd⟩
end

end Law
end
section
set_option Elab.async false
set_option maxRecDepth 100000
set_option maxHeartbeats 4000000
set_option linter.all false
set_option autoImplicit false
namespace Law
open PySem PySem.Spec PyProof.Rows L2 DL TL TrA TrA.Tr
section
variable [TabCtx]
/-! ### the law's own walk over a pattern, plainly: classes and pairs of places are gathered -/
abbrev WkS := List Str × List (Nat × Nat)
abbrev Wk := WkS × List Nat × List Nat
def prodP (Z F : List Nat) : List (Nat × Nat) := Z.flatMap fun z => F.map fun g => (z, g)
def wkL (any : Bool) (f : D → WkS → Wk) : List D → Wk → Wk
  | [], r => r
  | p :: ps, (s, B, C) => if any = true then wkL any f ps ((f p s).1, B ++ (f p s).2.1, C ++ (f p s).2.2) else wkL any f ps (((f p s).1.1, (f p s).1.2 ++ prodP C (f p s).2.1), B, (f p s).2.2)
def wkP : Nat → D → WkS → Wk
  | 0, _, s => (s, [], [])
  | k + 1, d, s => match d with
    | .tup [.str x, e] => if x = "one" then (match e with | .str y => ((s.1 ++ [y], s.2), [s.1.length + 1], [s.1.length + 1]) | _ => (s, [], []))
      else if x = "any" then (match e with | .tup (p :: ps) => wkL true (wkP k) ps (wkP k p s) | _ => (s, [], []))
      else if x = "row" then (match e with | .tup (p :: ps) => wkL false (wkP k) ps (wkP k p s) | _ => (s, [], []))
      else (((wkP k e s).1.1, (wkP k e s).1.2 ++ prodP (wkP k e s).2.2 (wkP k e s).2.1), (wkP k e s).2)
    | _ => (s, [], [])
theorem wkP_s {k : Nat} {x : Str} {e : D} {s : WkS} : wkP (k + 1) (.tup [.str x, e]) s = if x = "one" then (match e with | .str y => ((s.1 ++ [y], s.2), [s.1.length + 1], [s.1.length + 1]) | _ => (s, [], []))
      else if x = "any" then (match e with | .tup (p :: ps) => wkL true (wkP k) ps (wkP k p s) | _ => (s, [], []))
      else if x = "row" then (match e with | .tup (p :: ps) => wkL false (wkP k) ps (wkP k p s) | _ => (s, [], []))
      else (((wkP k e s).1.1, (wkP k e s).1.2 ++ prodP (wkP k e s).2.2 (wkP k e s).2.1), (wkP k e s).2) := rfl
theorem wkP_one {k : Nat} {y : Str} {s : WkS} : wkP (k + 1) (.tup [.str "one", .str y]) s = ((s.1 ++ [y], s.2), [s.1.length + 1], [s.1.length + 1]) := by rw [wkP_s, if_pos rfl]
theorem wkP_any {k : Nat} {p : D} {ps : List D} {s : WkS} : wkP (k + 1) (.tup [.str "any", .tup (p :: ps)]) s = wkL true (wkP k) ps (wkP k p s) := by rw [wkP_s, if_neg (by decide +kernel), if_pos rfl]
theorem wkP_row {k : Nat} {p : D} {ps : List D} {s : WkS} : wkP (k + 1) (.tup [.str "row", .tup (p :: ps)]) s = wkL false (wkP k) ps (wkP k p s) := by rw [wkP_s, if_neg (by decide +kernel), if_neg (by decide +kernel), if_pos rfl]
theorem wkP_many {k : Nat} {e : D} {s : WkS} : wkP (k + 1) (.tup [.str "many", e]) s = (((wkP k e s).1.1, (wkP k e s).1.2 ++ prodP (wkP k e s).2.2 (wkP k e s).2.1), (wkP k e s).2) := by rw [wkP_s, if_neg (by decide +kernel), if_neg (by decide +kernel), if_neg (by decide +kernel)]
theorem prod_mem {Z F : List Nat} {a b : Nat} : (a, b) ∈ prodP Z F ↔ a ∈ Z ∧ b ∈ F := by
  unfold prodP
  rw [List.mem_flatMap]
  constructor
  · rintro ⟨z, hz, h⟩
    obtain ⟨g, hg, e⟩ := List.mem_map.mp h
    cases e; exact ⟨hz, hg⟩
  · rintro ⟨h1, h2⟩
    exact ⟨a, h1, List.mem_map.mpr ⟨b, h2, rfl⟩⟩
theorem prod_len (F : List Nat) : ∀ Z : List Nat, (prodP Z F).length = Z.length * F.length
  | [] => by simp [prodP]
  | z :: Z => by
    have := prod_len F Z
    unfold prodP at this ⊢
    rw [List.flatMap_cons, List.length_append, this, List.length_map, List.length_cons, Nat.succ_mul, Nat.add_comm]
/-! ### how much is gathered -/
structure WkOk (s : WkS) (r : Wk) (n c : Nat) : Prop where
  a : r.1.1.length = s.1.length + n
  b : r.1.2.length ≤ s.2.length + 12 * c
  f : r.2.1.length ≤ n
  z : r.2.2.length ≤ n
theorem wkL_ok {any : Bool} {f : D → WkS → Wk} {g : D → Nat} {k : Nat} {s0 : WkS} : ∀ {ps : List D} {r : Wk} {n c : Nat}, (∀ p ∈ ps, g p ≤ 12 → ∀ s, WkOk s (f p s) (g p) (k * g p)) → WkOk s0 r n c → n + (ps.map g).sum ≤ 12 → WkOk s0 (wkL any f ps r) (n + (ps.map g).sum) (c + (k + 1) * (ps.map g).sum)
  | [], r, n, c, _, hr, _ => ⟨hr.a, hr.b, hr.f, hr.z⟩
  | p :: ps, (s, B, C), n, c, h, hr, hn => by
    rw [List.map_cons, List.sum_cons] at hn
    have h1 := h p (by simp) (by omega) s
    have a1 := hr.a; have a2 := hr.b; have a3 := hr.f; have a4 := hr.z
    have b1 := h1.a; have b2 := h1.b; have b3 := h1.f; have b4 := h1.z
    have a1 : s.1.length = s0.1.length + n := a1
    have a2 : s.2.length ≤ s0.2.length + 12 * c := a2
    have a3 : B.length ≤ n := a3
    have a4 : C.length ≤ n := a4
    have e1 : (k + 1) * g p = k * g p + g p := Nat.succ_mul _ _
    have goal : ∀ r2 : Wk, WkOk s0 r2 (n + g p) (c + (k + 1) * g p) → WkOk s0 (wkL any f ps r2) (n + ((p :: ps).map g).sum) (c + (k + 1) * ((p :: ps).map g).sum) := fun r2 h2 => by
      have := wkL_ok (ps := ps) (any := any) (fun q hq => h q (by simp [hq])) h2 (by omega)
      rw [List.map_cons, List.sum_cons, Nat.mul_add, ← Nat.add_assoc, ← Nat.add_assoc]
      exact this
    unfold wkL
    cases any with
    | true =>
      rw [if_pos rfl]
      refine goal _ ⟨?_, ?_, ?_, ?_⟩
      · show (f p s).1.1.length = _; omega
      · show (f p s).1.2.length ≤ _; omega
      · show (B ++ _).length ≤ _; rw [List.length_append]; omega
      · show (C ++ _).length ≤ _; rw [List.length_append]; omega
    | false =>
      rw [if_neg (by decide)]
      refine goal _ ⟨?_, ?_, ?_, ?_⟩
      · show (f p s).1.1.length = _; omega
      · show ((f p s).1.2 ++ _).length ≤ _
        rw [List.length_append, prod_len]
        have : C.length * (f p s).2.1.length ≤ 12 * g p := Nat.mul_le_mul (by omega) b3
        omega
      · show B.length ≤ _; omega
      · show (f p s).2.2.length ≤ _; omega
def wkS (any : Bool) (r t : Wk) : Wk := if any = true then (t.1, r.2.1 ++ t.2.1, r.2.2 ++ t.2.2) else ((t.1.1, t.1.2 ++ prodP r.2.2 t.2.1), r.2.1, t.2.2)
theorem wkL_cons {any : Bool} {f : D → WkS → Wk} {p : D} {ps : List D} {r : Wk} : wkL any f (p :: ps) r = wkL any f ps (wkS any r (f p r.1)) := by
  obtain ⟨s, B, C⟩ := r
  cases any <;> rfl
theorem wkS_ok {any : Bool} {s0 : WkS} {r t : Wk} {n c k g : Nat} (hr : WkOk s0 r n c) (h1 : WkOk r.1 t g (k * g)) (hn : n + g ≤ 12) : WkOk s0 (wkS any r t) (n + g) (c + (k + 1) * g) := by
  have a1 := hr.a; have a2 := hr.b; have a3 := hr.f; have a4 := hr.z
  have b1 := h1.a; have b2 := h1.b; have b3 := h1.f; have b4 := h1.z
  have e1 : (k + 1) * g = k * g + g := Nat.succ_mul _ _
  unfold wkS
  cases any with
  | true =>
    rw [if_pos rfl]
    refine ⟨?_, ?_, ?_, ?_⟩
    · show t.1.1.length = _; omega
    · show t.1.2.length ≤ _; omega
    · show (r.2.1 ++ _).length ≤ _; rw [List.length_append]; omega
    · show (r.2.2 ++ _).length ≤ _; rw [List.length_append]; omega
  | false =>
    rw [if_neg (by decide)]
    refine ⟨?_, ?_, ?_, ?_⟩
    · show t.1.1.length = _; omega
    · show (t.1.2 ++ _).length ≤ _
      rw [List.length_append, prod_len]
      have : r.2.2.length * t.2.1.length ≤ 12 * g := Nat.mul_le_mul (by omega) b3
      omega
    · show r.2.1.length ≤ _; omega
    · show t.2.2.length ≤ _; omega
theorem wk_ok : ∀ (k : Nat) {d : D}, isN k d = true → (clsN k d).length ≤ 12 → ∀ s, WkOk s (wkP k d s) (clsN k d).length (k * (clsN k d).length)
  | 0, _, h, _, _ => by cases h
  | k + 1, d, h, hn, s => by
    obtain ⟨x, e, rfl, hc⟩ := isN_form h
    have lst : ∀ (any : Bool) (p : D) (ps : List D), (∀ q ∈ p :: ps, isN k q = true) → ((p :: ps).flatMap (clsN k)).length ≤ 12 → WkOk s (wkL any (wkP k) ps (wkP k p s)) ((p :: ps).flatMap (clsN k)).length ((k + 1) * ((p :: ps).flatMap (clsN k)).length) := fun any p ps hps hl => by
      rw [List.flatMap_cons, List.length_append, ← sum_len (fun d => (clsN k d).length) (clsN k) fun _ _ => rfl] at hl ⊢
      have h0 := wk_ok k (hps p (by simp)) (by omega) s
      have := wkL_ok (any := any) (f := wkP k) (g := fun d => (clsN k d).length) (k := k) (ps := ps) (fun q hq hg s => wk_ok k (hps q (by simp [hq])) hg s) h0 hl
      have e1 : (k + 1) * (clsN k p).length = k * (clsN k p).length + (clsN k p).length := Nat.succ_mul _ _
      have b := this.b
      exact ⟨this.a, by rw [Nat.mul_add]; omega, this.f, this.z⟩
    rcases hc with ⟨rfl, y, rfl, hy⟩ | ⟨rfl | rfl, ps, rfl, hp2, hp4, hps⟩ | ⟨rfl, he⟩
    · rw [wkP_one, clsN_one]
      exact ⟨by simp, Nat.le_add_right _ _, Nat.le_refl _, Nat.le_refl _⟩
    · match ps, hp2, hps, hn with
      | p :: ps, hp2, hps, hn =>
        rw [clsN_any] at hn ⊢
        rw [wkP_any]
        exact lst true p ps hps hn
    · match ps, hp2, hps, hn with
      | p :: ps, hp2, hps, hn =>
        rw [clsN_row] at hn ⊢
        rw [wkP_row]
        exact lst false p ps hps hn
    · rw [clsN_many] at hn ⊢
      rw [wkP_many]
      have h0 := wk_ok k he hn s
      have b := h0.b; have f := h0.f; have z := h0.z
      refine ⟨h0.a, ?_, f, z⟩
      show ((wkP k e s).1.2 ++ prodP (wkP k e s).2.2 (wkP k e s).2.1).length ≤ _
      rw [List.length_append, prod_len, Nat.succ_mul k]
      have : (wkP k e s).2.2.length * (wkP k e s).2.1.length ≤ 12 * (clsN k e).length := Nat.mul_le_mul (by omega) f
      omega
/-! ### it is the machine of the pattern -/
structure Rl (m : Mch) (s : WkS) : Prop where
  nm : m.map (·.1) = (("" : Str) :: s.1)
  ed : ∀ a b, (a, b) ∈ s.2 ↔ b ∈ aftN m a
theorem Rl.len {m : Mch} {s : WkS} (h : Rl m s) : m.length = s.1.length + 1 := by
  have := congrArg List.length h.nm
  rw [List.length_map] at this
  exact this
theorem aft_app {m : Mch} {y : Str} (a : Nat) : aftN (m ++ [(y, [])]) a = aftN m a := by
  unfold aftN
  by_cases h : a < m.length
  · rw [List.getElem?_append_left h]
  · rw [List.getElem?_append_right (by omega), List.getElem?_eq_none (l := m) (by omega)]
    cases hh : a - m.length with
    | zero => rfl
    | succ j => rfl
theorem aft_link {m : Mch} {Z F : List Nat} (hm : MOk m) (hF : ∀ x ∈ F, x < m.length) (hZ : ∀ x ∈ Z, x < m.length) (a b : Nat) : b ∈ aftN (linkP m Z F) a ↔ b ∈ aftN m a ∨ (a ∈ Z ∧ b ∈ F) := by
  unfold aftN
  rw [link_at]
  cases e : m[a]? with
  | none =>
    have : ¬ a ∈ Z := fun h => by
      have := hZ a h
      rw [List.getElem?_eq_getElem this] at e; cases e
    simp [this]
  | some x =>
    show b ∈ (if a ∈ Z then (x.1, upS m.length (x.2 ++ F)) else x).2 ↔ b ∈ x.2 ∨ _
    by_cases hZa : a ∈ Z
    · rw [if_pos hZa]
      show b ∈ upS m.length (x.2 ++ F) ↔ _
      rw [upS_mem fun y hy => (List.mem_append.mp hy).elim ((hm x (List.mem_of_getElem? e)).1 y) (hF y), List.mem_append]
      simp [hZa]
    · rw [if_neg hZa]; simp [hZa]
theorem link_nm (m : Mch) (Z F : List Nat) : (linkP m Z F).map (·.1) = m.map (·.1) := by
  unfold linkP
  refine List.ext_getElem? fun i => ?_
  rw [List.getElem?_map, List.getElem?_map, List.getElem?_mapIdx]
  cases m[i]? with
  | none => rfl
  | some e => show some (if i ∈ Z then _ else e).1 = _; split <;> rfl
theorem Rl.link {m : Mch} {s : WkS} {Z F : List Nat} (h : Rl m s) (hm : MOk m) (hF : ∀ x ∈ F, x < m.length) (hZ : ∀ x ∈ Z, x < m.length) : Rl (linkP m Z F) (s.1, s.2 ++ prodP Z F) := ⟨by rw [link_nm]; exact h.nm, fun a b => by
  rw [aft_link hm hF hZ, List.mem_append, prod_mem, h.ed]⟩
theorem wkL_any {f : D → Mch → Adds} {g : D → WkS → Wk} {n : D → Nat} : ∀ {ps : List D} {m : Mch} {s : WkS} {B C : List Nat}, (∀ p ∈ ps, ∀ m s, MOk m → Rl m s → AOk m (f p m) (n p) ∧ Rl (f p m).1 (g p s).1 ∧ (g p s).2 = (f p m).2) → MOk m → Rl m s →
    Rl (seqP f ps m).1 (wkL true g ps (s, B, C)).1 ∧ (wkL true g ps (s, B, C)).2 = (B ++ (seqP f ps m).2.flatMap (·.1), C ++ (seqP f ps m).2.flatMap (·.2))
  | [], m, s, B, C, _, _, hr => ⟨hr, by show (B, C) = (B ++ [], C ++ []); simp⟩
  | p :: ps, m, s, B, C, h, hm, hr => by
    obtain ⟨a, b, c⟩ := h p (by simp) m s hm hr
    have := wkL_any (ps := ps) (B := B ++ (f p m).2.1) (C := C ++ (f p m).2.2) (fun q hq => h q (by simp [hq])) a.ok b
    unfold wkL
    rw [if_pos rfl, c]
    refine ⟨this.1, this.2.trans ?_⟩
    rw [List.append_assoc, List.append_assoc]
    rfl
theorem wkL_row {f : D → Mch → Adds} {g : D → WkS → Wk} {n : D → Nat} : ∀ {ps : List D} {m : Mch} {s : WkS} {B C : List Nat}, (∀ p ∈ ps, ∀ m s, MOk m → Rl m s → AOk m (f p m) (n p) ∧ Rl (f p m).1 (g p s).1 ∧ (g p s).2 = (f p m).2) → MOk m → Rl m s → (∀ x ∈ C, x < m.length) →
    Rl (rowP f ps (m, B, C)).1 (wkL false g ps (s, B, C)).1 ∧ (wkL false g ps (s, B, C)).2 = (rowP f ps (m, B, C)).2
  | [], m, s, B, C, _, _, hr, _ => ⟨hr, rfl⟩
  | p :: ps, m, s, B, C, h, hm, hr, hC => by
    obtain ⟨a, b, c⟩ := h p (by simp) m s hm hr
    have al := a.len
    have hF : ∀ x ∈ (f p m).2.1, x < (f p m).1.length := fun x hx => (a.f x hx).2
    have := wkL_row (ps := ps) (m := linkP (f p m).1 C (f p m).2.1) (s := ((g p s).1.1, (g p s).1.2 ++ prodP C (f p m).2.1)) (B := B) (C := (f p m).2.2) (fun q hq => h q (by simp [hq])) (a.ok.link hF)
      (b.link a.ok hF fun x hx => by have := hC x hx; omega) fun x hx => by rw [link_len]; exact (a.z x hx).2
    unfold wkL
    rw [if_neg (by decide), c]
    exact this
theorem wk_add : ∀ (k : Nat) {d : D}, isN k d = true → ∀ m s, MOk m → Rl m s → Rl (addP k d m).1 (wkP k d s).1 ∧ (wkP k d s).2 = (addP k d m).2
  | 0, _, h, _, _, _, _ => by cases h
  | k + 1, d, h, m, s, hm, hr => by
    obtain ⟨x, e, rfl, hc⟩ := isN_form h
    have all : ∀ ps : List D, (∀ q ∈ ps, isN k q = true) → ∀ p ∈ ps, ∀ m s, MOk m → Rl m s → AOk m (addP k p m) (clsN k p).length ∧ Rl (addP k p m).1 (wkP k p s).1 ∧ (wkP k p s).2 = (addP k p m).2 := fun ps hps p hp m s hm hr => ⟨add_ok k (hps p hp) m hm, wk_add k (hps p hp) m s hm hr⟩
    rcases hc with ⟨rfl, y, rfl, hy⟩ | ⟨rfl | rfl, ps, rfl, hp2, hp4, hps⟩ | ⟨rfl, he⟩
    · rw [wkP_one, addP_one]
      refine ⟨⟨?_, fun a b => ?_⟩, ?_⟩
      · show List.map (fun e : Str × List Nat => e.1) (m ++ [(y, [])]) = ("" : Str) :: (s.1 ++ [y])
        rw [List.map_append, hr.nm]; rfl
      · show (a, b) ∈ s.2 ↔ b ∈ aftN (m ++ [(y, [])]) a
        rw [aft_app]; exact hr.ed a b
      · show ([s.1.length + 1], [s.1.length + 1]) = ([m.length], [m.length])
        rw [hr.len]
    · match ps, hp2, hps with
      | p :: ps, hp2, hps =>
        rw [wkP_any, addP_any]
        obtain ⟨a, b, c⟩ := all _ hps p (by simp) m s hm hr
        have := wkL_any (n := fun d => (clsN k d).length) (ps := ps) (s := (wkP k p s).1) (B := (wkP k p s).2.1) (C := (wkP k p s).2.2) (fun q hq => all _ hps q (by simp [hq])) a.ok b
        refine ⟨this.1, this.2.trans ?_⟩
        rw [c]
        rfl
    · match ps, hp2, hps with
      | p :: ps, hp2, hps =>
        rw [wkP_row, addP_row]
        obtain ⟨a, b, c⟩ := all _ hps p (by simp) m s hm hr
        have := wkL_row (n := fun d => (clsN k d).length) (ps := ps) (m := (addP k p m).1) (s := (wkP k p s).1) (B := (addP k p m).2.1) (C := (addP k p m).2.2) (fun q hq => all _ hps q (by simp [hq])) a.ok b fun x hx => (a.z x hx).2
        rw [← c] at this
        have e2 : rowP (addP k) ps ((addP k p m).1, (wkP k p s).2.1, (wkP k p s).2.2) = rowP (addP k) ps (addP k p m) := by rw [c]
        rw [e2] at this
        exact this
    · rw [wkP_many, addP_many]
      obtain ⟨b, c⟩ := wk_add k he m s hm hr
      have a := add_ok k he m hm
      rw [c]
      exact ⟨b.link a.ok (fun x hx => (a.f x hx).2) fun x hx => (a.z x hx).2, rfl⟩
/-- what the law walks, beside the machine -/
theorem wk_mch {d : D} (hd : isN 6 d = true) : ((mchP d).1.map (·.1) = ("" : Str) :: (wkP 6 d ([], [])).1.1) ∧ (∀ a b, (a, b) ∈ (wkP 6 d ([], [])).1.2 ++ (wkP 6 d ([], [])).2.1.map (fun p => (0, p)) ↔ b ∈ aftN (mchP d).1 a) ∧ (wkP 6 d ([], [])).2 = (mchP d).2 := by
  have r0 : Rl m00 ([], []) := ⟨rfl, fun a b => by
    constructor
    · intro h; cases h
    · intro h
      unfold aftN m00 at h
      cases a with
      | zero => cases h
      | succ j => cases h⟩
  obtain ⟨h1, h2⟩ := wk_add 6 hd m00 _ m00_ok r0
  have a := add_ok 6 hd m00 m00_ok
  have old := add_old 6 hd m00 m00_ok 0 (by decide)
  have e0 : (addP 6 d m00).1[0]? = some (("" : Str), ([] : List Nat)) := old
  have hl : 0 < (addP 6 d m00).1.length := by have := a.len; have h0 : m00.length = 1 := rfl; omega
  refine ⟨?_, fun x b => ?_, h2⟩
  · rw [← h1.nm]
    show ((addP 6 d m00).1.set 0 ("", (addP 6 d m00).2.1)).map (·.1) = _
    rw [List.map_set]
    refine List.ext_getElem? fun i => ?_
    rw [List.getElem?_set]
    by_cases hi : 0 = i
    · subst hi
      rw [if_pos rfl, if_pos (by rw [List.length_map]; exact hl), List.getElem?_map, e0]
      rfl
    · rw [if_neg hi]
  · rw [List.mem_append, h1.ed, h2]
    show _ ↔ b ∈ aftN ((addP 6 d m00).1.set 0 ("", (addP 6 d m00).2.1)) x
    unfold aftN
    rw [List.getElem?_set]
    by_cases hx : 0 = x
    · subst hx
      rw [if_pos rfl, if_pos hl, e0]
      show b ∈ ([] : List Nat) ∨ _ ↔ b ∈ (addP 6 d m00).2.1
      constructor
      · rintro (h | h)
        · cases h
        · obtain ⟨q, hq, e⟩ := List.mem_map.mp h
          cases e; exact hq
      · intro h
        exact .inr (List.mem_map.mpr ⟨b, h, rfl⟩)
    · rw [if_neg hx]
      constructor
      · rintro (h | h)
        · exact h
        · obtain ⟨q, hq, e⟩ := List.mem_map.mp h
          cases e; exact absurd rfl hx
      · exact .inl
end

end Law
end
section
set_option Elab.async false
set_option maxRecDepth 100000
set_option maxHeartbeats 4000000
set_option linter.all false
set_option autoImplicit false
namespace Law
open PySem PySem.Spec PyProof.Rows L2 DL TL TrA TrA.Tr
section
variable [TabCtx] {P : Program} {w : World} {K : KB} {mg : Str → Option Value} {base : Heap} {f : Addr} {fd : FuncData}
abbrev s_law_walked : Stmt := top 28
abbrev n_law_walked : List Str := ["_law_pattern_here", "_law_classes", "_law_found", "_law_kind", "_law_inner", "_law_firsts", "_law_lasts", "_law_place", "_law_begin", "_law_close", "_law_part", "_law_goal"]
theorem sc_law_walked : FnScope n_law_walked ["_law_pattern_here", "_law_classes", "_law_found"] (defScope s_law_walked) := ⟨rfl, rfl, rfl, by decide +kernel, rfl, by decide +kernel, by decide +kernel⟩
def stsD (cs : List Str) : List D := cs.map D.str
def prsD (fs : List (Nat × Nat)) : List D := fs.map fun e => .tup [.int (e.1 : Nat), .int (e.2 : Nat)]
def wkPut (R : Rs) (c e : Addr) (s : WkS) : Rs := put (put R c (.lst (stsD s.1))) e (.lst (prsD s.2))
structure WkAt (R : Rs) (c e : Addr) (s : WkS) : Prop where
  hc : R c = some (.lst (stsD s.1))
  he : R e = some (.lst (prsD s.2))
  ne : c ≠ e
theorem wkPut2 {R : Rs} {c e : Addr} {s t : WkS} (h : c ≠ e) : wkPut (wkPut R c e s) c e t = wkPut R c e t := by
  unfold wkPut
  rw [put_comm h.symm, put_put, put_put]
theorem WkAt.same {R : Rs} {c e : Addr} {s : WkS} (h : WkAt R c e s) : wkPut R c e s = R := by unfold wkPut; rw [put_self h.hc, put_self h.he]
theorem WkAt.put {R : Rs} {c e : Addr} {s : WkS} (h : c ≠ e) : WkAt (wkPut R c e s) c e s := ⟨by unfold wkPut; rw [put_ne h, put_same], put_same, h⟩
def spWalked (n : Nat) : DSp := fun ds R Q _ => ∃ (d : D) (c e : Addr) (s : WkS) (k : Nat), ds = [d, .ref c, .ref e] ∧ k < n ∧ k ≤ 6 ∧ isN k d = true ∧ (clsN k d).length ≤ 12 ∧ WkAt R c e s ∧ s.1.length + (clsN k d).length ≤ 100 ∧ s.2.length + 12 * (k * (clsN k d).length) ≤ 5000 ∧ Q (pairD (wkP k d s).2) (wkPut R c e (wkP k d s).1)
theorem prod_take (Z F : List Nat) (i : Nat) : (prodP (Z.take i) F).length ≤ Z.length * F.length := by
  rw [prod_len]
  exact Nat.mul_le_mul_right _ (by rw [List.length_take]; exact Nat.min_le_right _ _)
theorem wk_step {R : Rs} {c e : Addr} {a : List Str} {l : List (Nat × Nat)} {Z F : List Nat} {i z : Nat} (hzt : Z.take (i + 1) = Z.take i ++ [z]) : DL.put (wkPut R c e (a, l ++ prodP (Z.take i) F)) e (.lst (prsD (l ++ prodP (Z.take i) F) ++ F.map fun g => .tup [.int (z : Nat), .int (g : Nat)])) = wkPut R c e (a, l ++ prodP (Z.take (i + 1)) F) := by
  unfold wkPut
  rw [put_put, hzt]
  unfold prodP prsD
  rw [List.flatMap_append, ← List.append_assoc, List.map_append (l₂ := List.flatMap _ [z]), List.flatMap_singleton, List.map_map]
  rfl
theorem natD_app (a b : List Nat) : natD (a ++ b) = D.lst ((a.map fun n => D.int (n : Nat)) ++ b.map fun n => D.int (n : Nat)) := by unfold natD; rw [List.map_append]
def WLp (R : Rs) (c e : Addr) (s : WkS) (Z F : List Nat) (hd : Option D → DSt) (i : Nat) (s' : DSt) (R' : Rs) : Prop := ∃ j : Option D, R' = wkPut R c e (s.1, s.2 ++ prodP (Z.take i) F) ∧ s' = hd j
def stW (c e : Addr) (x : Str) (b : D) (r : Wk) (j5 j6 j7 j10 : Option D) : DSt := [some (.tup [.str x, b]), some (.ref c), some (.ref e), some (.str x), some b, j5, j6, j7, some (natD r.2.1), some (natD r.2.2), j10, none]
def WWk (any : Bool) (k : Nat) (R : Rs) (c e : Addr) (s : WkS) (x : Str) (p : D) (ps : List D) (i : Nat) (s' : DSt) (R' : Rs) : Prop := ∃ (r : Wk) (j5 j6 j7 j10 : Option D) (m : Nat), wkL any (wkP k) ps (wkP k p s) = wkL any (wkP k) (ps.drop i) r ∧
  WkOk s r ((clsN k p).length + ((ps.take i).map fun d => (clsN k d).length).sum) m ∧ m ≤ (k + 1) * ((clsN k p).length + ((ps.take i).map fun d => (clsN k d).length).sum) ∧ R' = wkPut R c e r.1 ∧ s' = stW c e x (.tup (p :: ps)) r j5 j6 j7 j10
def WIn (R : Rs) (c e : Addr) (x : Str) (b : D) (r t : Wk) (j10 : Option D) (i : Nat) (s' : DSt) (R' : Rs) : Prop := ∃ j : Option D, R' = wkPut R c e (t.1.1, t.1.2 ++ prodP (r.2.2.take i) t.2.1) ∧ s' = stW c e x b r (some (natD t.2.1)) (some (natD t.2.2)) j j10
theorem step_walked {n : Nat} (F : Fun K "_law_walked" "_law_walked" s_law_walked f fd) (Z : Blt mg bl) (c_law_walked : Cal P w K mg base (n + 1) "_law_walked" (spWalked n)) : FnG P w K mg base CX0 (n + 2) f fd ["_law_pattern_here", "_law_classes", "_law_found"] (spOf K (spWalked (n + 1))) := by
  refine okD F sc_law_walked (fun ds R Q E h => by obtain ⟨d, c, e, s, k, rfl, _⟩ := h; rfl) fun cdv A outer s0 H E gd hr => ?_
  refine ⟨_, (dss_cons (ds_asg (dv 0) (dg_tup (n := 2) rfl (dgs_cons (dg_name (i := 3) sc_law_walked.nd rfl (.inl rfl)) (dgs_cons (dg_name (i := 4) sc_law_walked.nd rfl (.inl rfl)) dgs_nil))))
    (dss_cons (ds_if (dt_cmp od_eqS (dv 3) de_str (nomark _)) (dss_cons (ds_expr (de_bm PySem.F.plainAttrs_list PySem.F.slot_list_append PySem.F.type_list_append md_append (dv 1) (da_cons (dv 4) da_nil)))
      (dss_one (ds_ret (de_tup (da_cons (de_lstF (da_cons (de_callB cd_len (by rfl) (Z _ (by decide)) bt_len (da_cons (dv 1) da_nil)) da_nil)) (da_cons (de_lstF (da_cons (de_callB cd_len (by rfl) (Z _ (by decide)) bt_len (da_cons (dv 1) da_nil)) da_nil)) da_nil)))))) dss_nil)
    (dss_cons (ds_if (dt_cmp od_eqS (dv 3) de_str (nomark _)) (dss_cons (ds_asg (de_c c_law_walked gd hr (by omega) (by rfl) (da_cons (dv 4) (da_cons (dv 1) (da_cons (dv 2) da_nil)))) (dg_tup (n := 2) rfl (dgs_cons (dg_name (i := 5) sc_law_walked.nd rfl (.inl rfl)) (dgs_cons (dg_name (i := 6) sc_law_walked.nd rfl (.inl rfl)) dgs_nil))))
      (dss_cons (ds_for PassesOwn.never rfl (di_list (dv 6)) (dg_name (i := 7) sc_law_walked.nd rfl (.inr rfl)) (dss_one (ds_expr (de_bm PySem.F.plainAttrs_list PySem.F.slot_list_extend PySem.F.type_list_extend md_extend (dv 2) (da_cons (de_lcF (own := [("_law_goal", 11)]) rfl sc_law_walked.nd (lcd (di_list (dv 5)) (blkOk_by (N := n_law_walked) (sc := defScope s_law_walked) (by decide +kernel)) (fun _ _ _ _ _ => (dgw_name (i := 11) sc_law_walked.nd rfl (.inl rfl))) (fun _ _ _ _ _ => dts_nil) (fun _ _ _ _ _ => (de_tup (da_cons (dv 7) (da_cons (dv 11) da_nil)))))) da_nil)))))
      (dss_one (ds_ret (de_tup (da_cons (dv 5) (da_cons (dv 6) da_nil))))))) dss_nil)
    (dss_cut (ds_asg (de_c c_law_walked gd hr (by omega) (by rfl) (da_cons (de_ix xd_seq (dv 4) de_int (fun _ _ => rfl)) (da_cons (dv 1) (da_cons (dv 2) da_nil)))) (dg_tup (n := 2) rfl (dgs_cons (dg_name (i := 8) sc_law_walked.nd rfl (.inl rfl)) (dgs_cons (dg_name (i := 9) sc_law_walked.nd rfl (.inl rfl)) dgs_nil))))
    (dss_cut (ds_for PassesOwn.never rfl (di_tup (de_slice sd_tup (dv 4) (do_some de_int) do_none)) (dg_name (i := 10) sc_law_walked.nd rfl (.inl rfl)) (dss_cons (ds_asg (de_c c_law_walked gd hr (by omega) (by rfl) (da_cons (dv 10) (da_cons (dv 1) (da_cons (dv 2) da_nil)))) (dg_tup (n := 2) rfl (dgs_cons (dg_name (i := 5) sc_law_walked.nd rfl (.inl rfl)) (dgs_cons (dg_name (i := 6) sc_law_walked.nd rfl (.inl rfl)) dgs_nil))))
      (dss_one (ds_if (dt_cmp od_eqS (dv 3) de_str (nomark _)) (dss_one (ds_par (i := 8) (j := 9) rfl sc_law_walked.nd rfl rfl (by decide) rfl rfl (da_cons (de_op od_catF (dv 8) (dv 5)) (da_cons (de_op od_catF (dv 9) (dv 6)) da_nil)) rfl)) (dss_cons (ds_for PassesOwn.never rfl (di_list (dv 9)) (dg_name (i := 7) sc_law_walked.nd rfl (.inr rfl)) (dss_one (ds_expr (de_bm PySem.F.plainAttrs_list PySem.F.slot_list_extend PySem.F.type_list_extend md_extend (dv 2) (da_cons (de_lcF (own := [("_law_goal", 11)]) rfl sc_law_walked.nd (lcd (di_list (dv 5)) (blkOk_by (N := n_law_walked) (sc := defScope s_law_walked) (by decide +kernel)) (fun _ _ _ _ _ => (dgw_name (i := 11) sc_law_walked.nd rfl (.inl rfl))) (fun _ _ _ _ _ => dts_nil) (fun _ _ _ _ _ => (de_tup (da_cons (dv 7) (da_cons (dv 11) da_nil)))))) da_nil)))))
        (dss_one (ds_asg (dv 6) (dg_name (i := 9) sc_law_walked.nd rfl (.inl rfl)))))))))
    (dss_one (ds_ret (de_tup (da_cons (dv 8) (da_cons (dv 9) da_nil)))))))))), fun ds R Qd Ed h => ?_⟩
  obtain ⟨d, c, e, s, k, rfl, hk, hk6, hd, hn, hat, hs1, hs2, q⟩ := h
  obtain ⟨k, rfl⟩ : ∃ j, k = j + 1 := by
    cases k with
    | zero => cases hd
    | succ j => exact ⟨j, rfl⟩
  obtain ⟨x, b, rfl, hc⟩ := isN_form hd
  simp only [dFor, dSeq, dGetK, rdInK, dGetT, dInT, rdSetK, dNewK, dDcF, dDc2F, dIEnum, dIZip, dISeq, dStar, dCont, dBrk, dOrT, rdInC, dCallK, dCVal, dMeth, dFld, dSetF, dNewF, dNew0F, dDisp, dPairs, dGet2, dGIndex, DL.keyOf, DL.keysOf, dCallL, dLam, dJoin, dJs, dFmtS, dRepl, dRaise, dCallX, dDelTail, dAugL, dXF, dAsg, dIf, dIfS, dB, dAnd, dOr, dNot, dAndV, dOrV, dNotV, dChain, dOp, dUn, dVar, dC, rdI0, rdI, dCB, dCall, rd1, dCons, dNil, dgName, dgSub, dgTup, dgLst, dSortSet, dgCons, dgNil, rdSetL, dRet, dLst, dLstF, dTup, dDrop, dNext, dPar, dBM, dBM0, dSl, dPart, dNoPart, dstart, dwipe, List.map_cons, List.map_nil, List.length_cons, List.length_nil, List.replicate_succ, List.replicate_zero, List.cons_append, List.nil_append, List.set_cons_zero, List.set_cons_succ, List.getElem?_cons_zero, List.getElem?_cons_succ, Nat.reduceAdd, Nat.reduceSub, Option.some.injEq, D.int.injEq, D.bl.injEq, D.str.injEq, D.ref.injEq, D.ty.injEq, D.tup.injEq, D.lst.injEq, D.rls.injEq, RO.lst.injEq, List.cons.injEq, exists_and_left, exists_eq_left', exists_eq_left, and_true, true_and, put_same, put_put, at0, at1, at2, ix30, ix31, ix32, and_assoc, dLcF, dLc, dLcT, dIRng1, dIRng2, dIRng3, dIStr, dITup, dILst, dYes, if_true, Bool.false_eq_true, if_false, eqS_ii, neS_ii, eqS_ss, neS_ss, decide_eq_true_eq, sq_tup, sq_lst, sq_rls, lo_lst, lo_rls, tr_lst, isi_tt, isi_st, isi_nt, isi_bt, isi_it, isi_lt, isi_ts, isi_ss, isi_ns, isi_bs, isi_is, isi_ls, List.append_nil, sz0, sz1, sz2, sz3, sz4, sz5, sz6, sl0, sl1, sl2, ty_put, ty_str, lo_put, sq_put, tr_put, reduceCtorEq, false_and, and_false, exists_false, or_false, false_or, Bool.not_false, Bool.not_true, List.isEmpty_nil, List.isEmpty_cons, app1_empty]
  rcases hc with ⟨rfl, y, rfl, hy⟩ | ⟨hx, ps, rfl, hp2, hp4, hps⟩ | ⟨rfl, he⟩
  · rw [wkP_one] at q
    rw [clsN_one] at hs1 hs2
    have hs1 : s.1.length + 1 ≤ 100 := hs1
    have hl : (stsD s.1).length = s.1.length := List.length_map _
    refine iteT (by simp) ⟨.inl ⟨rfl, _, hat.hc⟩, _, hat.hc, by rw [hl]; simp only [sizeLine]; omega, fin ?_⟩
    have e1 : wkPut R c e (s.1 ++ [y], s.2) = put R c (.lst (stsD s.1 ++ [.str y])) := by
      unfold wkPut
      rw [put_comm hat.ne, put_self hat.he]
      unfold stsD
      rw [List.map_append]; rfl
    rw [e1] at q
    have e2 : pairD ([s.1.length + 1], [s.1.length + 1]) = D.tup [D.lst [D.int ((stsD s.1 ++ [D.str y]).length : Nat)], D.lst [D.int ((stsD s.1 ++ [D.str y]).length : Nat)]] := by
      rw [List.length_append, hl]; rfl
    rw [e2] at q
    exact q
  · match ps, hp2, hps with
    | p :: ps, hp2, hps =>
    obtain ⟨any, hany, q⟩ : ∃ any : Bool, (any = true ↔ x = "any") ∧ Qd (pairD (wkL any (wkP k) ps (wkP k p s)).2) (wkPut R c e (wkL any (wkP k) ps (wkP k p s)).1) := by
      rcases hx with rfl | rfl
      · rw [wkP_any] at q; exact ⟨true, by simp, q⟩
      · rw [wkP_row] at q; exact ⟨false, by constructor <;> intro z <;> first | cases z | exact absurd z (by decide +kernel), q⟩
    have ecl : clsN (k + 1) (.tup [.str x, .tup (p :: ps)]) = (p :: ps).flatMap (clsN k) := by
      rcases hx with rfl | rfl
      · exact clsN_any
      · exact clsN_row
    have ho : ¬ x = "one" := by rcases hx with rfl | rfl <;> decide +kernel
    have hm : ¬ x = "many" := by rcases hx with rfl | rfl <;> decide +kernel
    rw [ecl, List.flatMap_cons, List.length_append, ← sum_len (fun d => (clsN k d).length) (clsN k) fun _ _ => rfl] at hs1 hs2 hn
    refine iteF ho (iteF hm ?_)
    refine (show dCut _ _ _ _ _ from ?_)
    refine ⟨WWk any k R c e s x p ps 0, ?_, ?_⟩
    · simp only [dSeq, dGetK, rdInK, dGetT, dInT, rdSetK, dNewK, dDcF, dDc2F, dIEnum, dIZip, dISeq, dStar, dCont, dBrk, dOrT, rdInC, dCallK, dCVal, dMeth, dFld, dSetF, dNewF, dNew0F, dDisp, dPairs, dGet2, dGIndex, DL.keyOf, DL.keysOf, dCallL, dLam, dJoin, dJs, dFmtS, dRepl, dRaise, dCallX, dDelTail, dAugL, dXF, dAsg, dIf, dIfS, dB, dAnd, dOr, dNot, dAndV, dOrV, dNotV, dChain, dOp, dUn, dVar, dC, rdI0, rdI, dCB, dCall, rd1, dCons, dNil, dgName, dgSub, dgTup, dgLst, dSortSet, dgCons, dgNil, rdSetL, dRet, dLst, dLstF, dTup, dDrop, dNext, dPar, dBM, dBM0, dSl, dPart, dNoPart, dstart, dwipe, List.map_cons, List.map_nil, List.length_cons, List.length_nil, List.replicate_succ, List.replicate_zero, List.cons_append, List.nil_append, List.set_cons_zero, List.set_cons_succ, List.getElem?_cons_zero, List.getElem?_cons_succ, Nat.reduceAdd, Nat.reduceSub, Option.some.injEq, D.int.injEq, D.bl.injEq, D.str.injEq, D.ref.injEq, D.ty.injEq, D.tup.injEq, D.lst.injEq, D.rls.injEq, RO.lst.injEq, List.cons.injEq, exists_and_left, exists_eq_left', exists_eq_left, and_true, true_and, put_same, put_put, at0, at1, at2, ix30, ix31, ix32, and_assoc, dLcF, dLc, dLcT, dIRng1, dIRng2, dIRng3, dIStr, dITup, dILst, dYes, if_true, Bool.false_eq_true, if_false, eqS_ii, neS_ii, eqS_ss, neS_ss, decide_eq_true_eq, sq_tup, sq_lst, sq_rls, lo_lst, lo_rls, tr_lst, isi_tt, isi_st, isi_nt, isi_bt, isi_it, isi_lt, isi_ts, isi_ss, isi_ns, isi_bs, isi_is, isi_ls, List.append_nil, sz0, sz1, sz2, sz3, sz4, sz5, sz6, sl0, sl1, sl2, ty_put, ty_str, lo_put, sq_put, tr_put, reduceCtorEq, false_and, and_false, exists_false, or_false, false_or, Bool.not_false, Bool.not_true, List.isEmpty_nil, List.isEmpty_cons, app1_empty]
      have ok := wk_ok k (hps p (by simp)) (by omega) s
      have e1 : (k + 1) * (clsN k p).length = k * (clsN k p).length + (clsN k p).length := Nat.succ_mul _ _
      have e2 : (k + 1) * ((clsN k p).length + (ps.map fun d => (clsN k d).length).sum) = (k + 1) * (clsN k p).length + (k + 1) * (ps.map fun d => (clsN k d).length).sum := Nat.mul_add _ _ _
      refine ⟨p, c, e, s, k, rfl, by omega, by omega, hps p (by simp), by omega, hat, by omega, by omega, _, rfl, rfl, _, _, rfl, _, _, rfl, rfl, wkP k p s, none, none, none, none, k * (clsN k p).length, rfl, ok, ?_, rfl, rfl⟩
      exact Nat.le_trans (Nat.le_add_right _ _) (Nat.le_of_eq e1.symm)
    rintro s1 R1 ⟨r, j5, j6, j7, j10, m, e1, ok, hmk, rfl, rfl⟩
    refine (show dCut _ _ _ _ _ from ?_)
    refine ⟨WWk any k R c e s x p ps ps.length, ?_, ?_⟩
    · simp only [dFor, stW, dSeq, dGetK, rdInK, dGetT, dInT, rdSetK, dNewK, dDcF, dDc2F, dIEnum, dIZip, dISeq, dStar, dCont, dBrk, dOrT, rdInC, dCallK, dCVal, dMeth, dFld, dSetF, dNewF, dNew0F, dDisp, dPairs, dGet2, dGIndex, DL.keyOf, DL.keysOf, dCallL, dLam, dJoin, dJs, dFmtS, dRepl, dRaise, dCallX, dDelTail, dAugL, dXF, dAsg, dIf, dIfS, dB, dAnd, dOr, dNot, dAndV, dOrV, dNotV, dChain, dOp, dUn, dVar, dC, rdI0, rdI, dCB, dCall, rd1, dCons, dNil, dgName, dgSub, dgTup, dgLst, dSortSet, dgCons, dgNil, rdSetL, dRet, dLst, dLstF, dTup, dDrop, dNext, dPar, dBM, dBM0, dSl, dPart, dNoPart, dstart, dwipe, List.map_cons, List.map_nil, List.length_cons, List.length_nil, List.replicate_succ, List.replicate_zero, List.cons_append, List.nil_append, List.set_cons_zero, List.set_cons_succ, List.getElem?_cons_zero, List.getElem?_cons_succ, Nat.reduceAdd, Nat.reduceSub, Option.some.injEq, D.int.injEq, D.bl.injEq, D.str.injEq, D.ref.injEq, D.ty.injEq, D.tup.injEq, D.lst.injEq, D.rls.injEq, RO.lst.injEq, List.cons.injEq, exists_and_left, exists_eq_left', exists_eq_left, and_true, true_and, put_same, put_put, at0, at1, at2, ix30, ix31, ix32, and_assoc, dLcF, dLc, dLcT, dIRng1, dIRng2, dIRng3, dIStr, dITup, dILst, dYes, if_true, Bool.false_eq_true, if_false, eqS_ii, neS_ii, eqS_ss, neS_ss, decide_eq_true_eq, sq_tup, sq_lst, sq_rls, lo_lst, lo_rls, tr_lst, isi_tt, isi_st, isi_nt, isi_bt, isi_it, isi_lt, isi_ts, isi_ss, isi_ns, isi_bs, isi_is, isi_ls, List.append_nil, sz0, sz1, sz2, sz3, sz4, sz5, sz6, sl0, sl1, sl2, ty_put, ty_str, lo_put, sq_put, tr_put, reduceCtorEq, false_and, and_false, exists_false, or_false, false_or, Bool.not_false, Bool.not_true, List.isEmpty_nil, List.isEmpty_cons, app1_empty]
      rw [cut_drop1, List.drop_succ_cons, List.drop_zero]
      refine ⟨WWk any k R c e s x p ps, ⟨r, j5, j6, j7, j10, m, e1, ok, hmk, rfl, rfl⟩, fun _ _ _ _ _ => trivial, ?_, fun s R h => h⟩
      clear e1 ok hmk
      rintro i y s' R' hy ⟨r, j5, j6, j7, j10, m, e1, ok, hmk, rfl, rfl⟩
      have hst := sum_take (fun d => (clsN k d).length) ps i y hy
      have hya := hps y (List.mem_cons_of_mem _ (List.mem_of_getElem? hy))
      have oy := wk_ok k hya (by omega) r.1
      generalize hN : (clsN k p).length + ((ps.take i).map fun d => (clsN k d).length).sum = N at ok hmk
      have oa := ok.a; have ob := ok.b; have of := ok.f; have oz := ok.z
      have ya := oy.a; have yb := oy.b; have yf := oy.f; have yz := oy.z
      have eN : (k + 1) * ((clsN k p).length + (ps.map fun d => (clsN k d).length).sum) ≥ (k + 1) * (N + (clsN k y).length) := Nat.mul_le_mul_left _ (by omega)
      have eN2 : (k + 1) * (N + (clsN k y).length) = (k + 1) * N + (k + 1) * (clsN k y).length := Nat.mul_add _ _ _
      have eN3 : (k + 1) * (clsN k y).length = k * (clsN k y).length + (clsN k y).length := Nat.succ_mul _ _
      have h1 : WkAt (wkPut R c e r.1) c e r.1 := WkAt.put hat.ne
      have okS := wkS_ok (any := any) ok oy (by omega)
      have ed : ps.drop i = y :: ps.drop (i + 1) := by
        obtain ⟨hi, e⟩ := List.getElem?_eq_some_iff.mp hy
        rw [List.drop_eq_getElem_cons hi, e]
      have eT : (clsN k p).length + ((ps.take (i + 1)).map fun d => (clsN k d).length).sum = N + (clsN k y).length := by
        rw [List.take_add_one, hy, List.map_append, List.sum_append, ← Nat.add_assoc, hN]; simp
      have fin2 : ∀ (j5 j6 j7 j10 : Option D), WWk any k R c e s x p ps (i + 1) (stW c e x (.tup (p :: ps)) (wkS any r (wkP k y r.1)) j5 j6 j7 j10) (wkPut R c e (wkS any r (wkP k y r.1)).1) := fun j5 j6 j7 j10 =>
        ⟨_, j5, j6, j7, j10, m + (k + 1) * (clsN k y).length, by rw [e1, ed, wkL_cons], by rw [eT]; exact okS, by rw [eT, eN2]; omega, rfl, rfl⟩
      simp only [stW, dFor, dSeq, dGetK, rdInK, dGetT, dInT, rdSetK, dNewK, dDcF, dDc2F, dIEnum, dIZip, dISeq, dStar, dCont, dBrk, dOrT, rdInC, dCallK, dCVal, dMeth, dFld, dSetF, dNewF, dNew0F, dDisp, dPairs, dGet2, dGIndex, DL.keyOf, DL.keysOf, dCallL, dLam, dJoin, dJs, dFmtS, dRepl, dRaise, dCallX, dDelTail, dAugL, dXF, dAsg, dIf, dIfS, dB, dAnd, dOr, dNot, dAndV, dOrV, dNotV, dChain, dOp, dUn, dVar, dC, rdI0, rdI, dCB, dCall, rd1, dCons, dNil, dgName, dgSub, dgTup, dgLst, dSortSet, dgCons, dgNil, rdSetL, dRet, dLst, dLstF, dTup, dDrop, dNext, dPar, dBM, dBM0, dSl, dPart, dNoPart, dstart, dwipe, List.map_cons, List.map_nil, List.length_cons, List.length_nil, List.replicate_succ, List.replicate_zero, List.cons_append, List.nil_append, List.set_cons_zero, List.set_cons_succ, List.getElem?_cons_zero, List.getElem?_cons_succ, Nat.reduceAdd, Nat.reduceSub, Option.some.injEq, D.int.injEq, D.bl.injEq, D.str.injEq, D.ref.injEq, D.ty.injEq, D.tup.injEq, D.lst.injEq, D.rls.injEq, RO.lst.injEq, List.cons.injEq, exists_and_left, exists_eq_left', exists_eq_left, and_true, true_and, put_same, put_put, at0, at1, at2, ix30, ix31, ix32, and_assoc, dLcF, dLc, dLcT, dIRng1, dIRng2, dIRng3, dIStr, dITup, dILst, dYes, if_true, Bool.false_eq_true, if_false, eqS_ii, neS_ii, eqS_ss, neS_ss, decide_eq_true_eq, sq_tup, sq_lst, sq_rls, lo_lst, lo_rls, tr_lst, isi_tt, isi_st, isi_nt, isi_bt, isi_it, isi_lt, isi_ts, isi_ss, isi_ns, isi_bs, isi_is, isi_ls, List.append_nil, sz0, sz1, sz2, sz3, sz4, sz5, sz6, sl0, sl1, sl2, ty_put, ty_str, lo_put, sq_put, tr_put, reduceCtorEq, false_and, and_false, exists_false, or_false, false_or, Bool.not_false, Bool.not_true, List.isEmpty_nil, List.isEmpty_cons, app1_empty]
      refine ⟨y, c, e, r.1, k, rfl, by omega, by omega, hya, by omega, h1, by omega, by omega, _, rfl, rfl, _, _, rfl, _, _, rfl, rfl, ?_⟩
      rw [wkPut2 hat.ne]
      cases any with
      | true =>
        refine iteT (hany.mp rfl) ⟨_, rfl, _, rfl, by rw [List.length_map, List.length_map]; simp only [sizeLine]; omega, _, rfl, _, rfl, by rw [List.length_map, List.length_map]; simp only [sizeLine]; omega, ?_⟩
        have h9 := fin2 (some (natD (wkP k y r.1).2.1)) (some (natD (wkP k y r.1).2.2)) j7 (some y)
        rw [show wkS true r (wkP k y r.1) = ((wkP k y r.1).1, r.2.1 ++ (wkP k y r.1).2.1, r.2.2 ++ (wkP k y r.1).2.2) from rfl] at h9
        unfold stW at h9
        dsimp only at h9
        rw [natD_app r.2.1, natD_app r.2.2] at h9
        exact h9
      | false =>
        refine iteF (fun z => by have := hany.mpr z; cases this) ?_
        refine ⟨_, .inl ⟨rfl, WIn R c e x (.tup (p :: ps)) r (wkP k y r.1) (some y), ⟨j7, by simp [prodP], rfl⟩, fun _ _ _ _ _ => trivial, ?_, ?_⟩⟩
        · rintro i2 x2 s' R' hx2 ⟨j, rfl, rfl⟩
          obtain ⟨z, rfl, hz, hzi, hzt⟩ := take_step (c := fun n => D.int (n : Nat)) hx2
          refine ⟨_, rfl, .inl ⟨rfl, _, (WkAt.put hat.ne).he⟩, _, rfl, _, .inl ⟨rfl, by rw [List.length_map]; simp only [sizeLine]; omega, PvM (wkP k y r.1).2.1 (fun g => .tup [.int (z : Nat), .int (g : Nat)]) _, ⟨rfl, rfl⟩, fun _ _ _ _ _ => trivial, ?_, ?_⟩⟩
          · rintro i3 x3 acc R2 hx3 hlk hP
            obtain ⟨g, rfl, hg, hgi, hgt⟩ := take_step (c := fun n => D.int (n : Nat)) hx3
            have go := PvM.go (g := fun g : Nat => D.tup [.int (z : Nat), .int (g : Nat)]) (R := R2) hgt
            obtain ⟨rfl, rfl⟩ := hP
            exact ⟨_, rfl, _, rfl, go⟩
          · rintro acc R2 hlk hP
            obtain ⟨rfl, rfl⟩ := hP.end (by rw [List.length_map])
            have hpl := prod_take r.2.2 (wkP k y r.1).2.1 i2
            have hmm : r.2.2.length * (wkP k y r.1).2.1.length ≤ 12 * 12 := Nat.mul_le_mul (by omega) (by omega)
            refine ⟨_, rfl, _, (WkAt.put hat.ne).he, by unfold prsD; rw [List.length_map, List.length_map, List.length_append]; simp only [sizeLine]; omega, some (.int (z : Nat)), wk_step hzt, rfl⟩
        · rintro s' R' ⟨j, rfl, rfl⟩
          rw [List.length_map, List.take_length]
          exact ⟨_, rfl, fin2 (some (natD (wkP k y r.1).2.1)) (some (natD (wkP k y r.1).2.2)) j (some y)⟩
    rintro s2 R2 ⟨r, j5, j6, j7, j10, m, e1, ok, hmk, rfl, rfl⟩
    rw [List.drop_length] at e1
    rw [e1] at q
    simp only [stW, dSeq, dGetK, rdInK, dGetT, dInT, rdSetK, dNewK, dDcF, dDc2F, dIEnum, dIZip, dISeq, dStar, dCont, dBrk, dOrT, rdInC, dCallK, dCVal, dMeth, dFld, dSetF, dNewF, dNew0F, dDisp, dPairs, dGet2, dGIndex, DL.keyOf, DL.keysOf, dCallL, dLam, dJoin, dJs, dFmtS, dRepl, dRaise, dCallX, dDelTail, dAugL, dXF, dAsg, dIf, dIfS, dB, dAnd, dOr, dNot, dAndV, dOrV, dNotV, dChain, dOp, dUn, dVar, dC, rdI0, rdI, dCB, dCall, rd1, dCons, dNil, dgName, dgSub, dgTup, dgLst, dSortSet, dgCons, dgNil, rdSetL, dRet, dLst, dLstF, dTup, dDrop, dNext, dPar, dBM, dBM0, dSl, dPart, dNoPart, dstart, dwipe, List.map_cons, List.map_nil, List.length_cons, List.length_nil, List.replicate_succ, List.replicate_zero, List.cons_append, List.nil_append, List.set_cons_zero, List.set_cons_succ, List.getElem?_cons_zero, List.getElem?_cons_succ, Nat.reduceAdd, Nat.reduceSub, Option.some.injEq, D.int.injEq, D.bl.injEq, D.str.injEq, D.ref.injEq, D.ty.injEq, D.tup.injEq, D.lst.injEq, D.rls.injEq, RO.lst.injEq, List.cons.injEq, exists_and_left, exists_eq_left', exists_eq_left, and_true, true_and, put_same, put_put, at0, at1, at2, ix30, ix31, ix32, and_assoc, dLcF, dLc, dLcT, dIRng1, dIRng2, dIRng3, dIStr, dITup, dILst, dYes, if_true, Bool.false_eq_true, if_false, eqS_ii, neS_ii, eqS_ss, neS_ss, decide_eq_true_eq, sq_tup, sq_lst, sq_rls, lo_lst, lo_rls, tr_lst, isi_tt, isi_st, isi_nt, isi_bt, isi_it, isi_lt, isi_ts, isi_ss, isi_ns, isi_bs, isi_is, isi_ls, List.append_nil, sz0, sz1, sz2, sz3, sz4, sz5, sz6, sl0, sl1, sl2, ty_put, ty_str, lo_put, sq_put, tr_put, reduceCtorEq, false_and, and_false, exists_false, or_false, false_or, Bool.not_false, Bool.not_true, List.isEmpty_nil, List.isEmpty_cons, app1_empty]
    exact fin q
  · rw [wkP_many] at q
    rw [clsN_many] at hs1 hs2
    rw [clsN_many] at hn
    have ok := wk_ok k he hn s
    have oa := ok.a; have ob := ok.b; have of := ok.f; have oz := ok.z
    rw [Nat.succ_mul k] at hs2
    have h1 : WkAt (wkPut R c e (wkP k b s).1) c e (wkP k b s).1 := WkAt.put hat.ne
    refine iteF (by decide +kernel) (iteT (by simp) ⟨b, c, e, s, k, rfl, by omega, by omega, he, hn, hat, hs1, by omega, _, rfl, rfl, _, _, rfl, _, _, rfl, rfl, _, .inl ⟨rfl, WLp R c e (wkP k b s).1 (wkP k b s).2.2 (wkP k b s).2.1 (fun j => [some (.tup [.str "many", b]), some (.ref c), some (.ref e), some (.str "many"), some b, some (natD (wkP k b s).2.1), some (natD (wkP k b s).2.2), j, none, none, none, none]), ⟨none, by simp [prodP], rfl⟩, fun _ _ _ _ _ => trivial, ?_, ?_⟩⟩)
    · rintro i x s' R' hx ⟨j, rfl, rfl⟩
      obtain ⟨z, rfl, hz, hzi, hzt⟩ := take_step (c := fun n => D.int (n : Nat)) hx
      refine ⟨_, rfl, .inl ⟨rfl, _, (WkAt.put hat.ne).he⟩, _, rfl, _, .inl ⟨rfl, by rw [List.length_map]; simp only [sizeLine]; omega, PvM (wkP k b s).2.1 (fun g => .tup [.int (z : Nat), .int (g : Nat)]) _, ⟨rfl, rfl⟩, fun _ _ _ _ _ => trivial, ?_, ?_⟩⟩
      · rintro i2 x2 acc R2 hx2 hlk hP
        obtain ⟨g, rfl, hg, hgi, hgt⟩ := take_step (c := fun n => D.int (n : Nat)) hx2
        have go := PvM.go (g := fun g : Nat => D.tup [.int (z : Nat), .int (g : Nat)]) (R := R2) hgt
        obtain ⟨rfl, rfl⟩ := hP
        exact ⟨_, rfl, _, rfl, go⟩
      · rintro acc R2 hlk hP
        obtain ⟨rfl, rfl⟩ := hP.end (by rw [List.length_map])
        have hpl := prod_take (wkP k b s).2.2 (wkP k b s).2.1 i
        have hmm : (wkP k b s).2.2.length * (wkP k b s).2.1.length ≤ 12 * 12 := Nat.mul_le_mul (by omega) (by omega)
        refine ⟨_, rfl, _, (WkAt.put hat.ne).he, by unfold prsD; rw [List.length_map, List.length_map, List.length_append]; simp only [sizeLine]; omega, some (.int (z : Nat)), wk_step hzt, rfl⟩
    · rintro s' R' ⟨j, rfl, rfl⟩
      rw [List.length_map, List.take_length]
      exact ⟨_, rfl, _, rfl, fin q⟩
theorem ok_walked (F : Fun K "_law_walked" "_law_walked" s_law_walked f fd) (Z : Blt mg bl) (hm : mg "_law_walked" = some (.ref f)) (bd : Binds K fd ["_law_pattern_here", "_law_classes", "_law_found"] []) : ∀ n : Nat, FnG P w K mg base CX0 (n + 1) f fd ["_law_pattern_here", "_law_classes", "_law_found"] (spOf K (spWalked n))
  | 0 => fnG_none fun ds R Q E ⟨d, c, e, s, k, _, hk, _⟩ => by omega
  | n + 1 => step_walked F Z ⟨_, _, _, ok_walked F Z hm bd n, hm, F.kp, bd⟩
end

end Law
end
section
set_option Elab.async false
set_option maxRecDepth 100000
set_option maxHeartbeats 4000000
set_option linter.all false
set_option autoImplicit false
namespace Law
open PySem PySem.Spec PyProof.Rows L2 DL TL TrA TrA.Tr
section
variable [TabCtx]
/-! ### a pattern of a lower level -/
theorem up1C : ∀ (k : Nat) {d : D}, isN k d = true → isN (k + 1) d = true ∧ clsN (k + 1) d = clsN k d
  | 0, _, h => by cases h
  | k + 1, d, h => by
    obtain ⟨x, e, rfl, hc⟩ := isN_form h
    have lst : ∀ ps : List D, 2 ≤ ps.length → ps.length ≤ 4 → (∀ p ∈ ps, isN k p = true) → (decide (2 ≤ ps.length) && decide (ps.length ≤ 4) && ps.all (isN (k + 1))) = true ∧ ps.flatMap (clsN (k + 1)) = ps.flatMap (clsN k) := fun ps h2 h4 hps => by
      rw [decide_eq_true h2, decide_eq_true h4]
      exact ⟨List.all_eq_true.mpr fun p hp => (up1C k (hps p hp)).1, by
        clear h2 h4
        induction ps with
        | nil => rfl
        | cons p ps ih => rw [List.flatMap_cons, List.flatMap_cons, (up1C k (hps p (by simp))).2, ih fun q hq => hps q (by simp [hq])]⟩
    rcases hc with ⟨rfl, y, rfl, hy⟩ | ⟨rfl | rfl, ps, rfl, hp2, hp4, hps⟩ | ⟨rfl, he⟩
    · rw [isN_one, clsN_one, clsN_one]; exact ⟨hy, rfl⟩
    · rw [isN_any, clsN_any, clsN_any]; exact lst ps hp2 hp4 hps
    · rw [isN_row, clsN_row, clsN_row]; exact lst ps hp2 hp4 hps
    · rw [isN_many, clsN_many, clsN_many]; exact up1C k he
theorem upC {k : Nat} {d : D} (h : isN k d = true) : ∀ {n : Nat}, k ≤ n → isN n d = true ∧ clsN n d = clsN k d := fun {n} hn => by
  induction n with
  | zero => have : k = 0 := by omega
            subst this; exact ⟨h, rfl⟩
  | succ n ih =>
    by_cases e : k = n + 1
    · subst e; exact ⟨h, rfl⟩
    · obtain ⟨h1, h2⟩ := ih (by omega)
      obtain ⟨g1, g2⟩ := up1C n h1
      exact ⟨g1, g2.trans h2⟩
end

end Law
end
section
set_option Elab.async false
set_option maxRecDepth 100000
set_option maxHeartbeats 4000000
set_option linter.all false
set_option autoImplicit false
namespace Law
open PySem PySem.Spec PyProof.Rows L2 DL TL TrA TrA.Tr
section
variable [TabCtx]
theorem isN_gd : ∀ (k : Nat) {d : D}, isN k d = true → gdB d = true
  | 0, _, h => by cases h
  | k + 1, d, h => by
    obtain ⟨x, e, rfl, hc⟩ := isN_form h
    have two : ∀ {x : Str} {e : D}, x.length ≤ 2000 → gdB e = true → gdB (.tup [.str x, e]) = true := fun {x e} h1 h2 => by
      rw [gdB, gdBs_all]
      show (decide (2 ≤ 1000) && (decide (x.length ≤ 2000) && (gdB e && true))) = true
      rw [h2, decide_eq_true h1]; rfl
    rcases hc with ⟨rfl, y, rfl, hy⟩ | ⟨hx, ps, rfl, hp2, hp4, hps⟩ | ⟨rfl, he⟩
    · exact two (by decide +kernel) (decide_eq_true (by have := nmB_len hy; omega))
    · refine two (by rcases hx with rfl | rfl <;> decide +kernel) ?_
      rw [gdB, gdBs_all, decide_eq_true (by omega)]
      exact List.all_eq_true.mpr fun p hp => isN_gd k (hps p hp)
    · exact two (by decide +kernel) (isN_gd k he)
/-! ### how long its text is -/
theorem nm_let {x : Str} (h : nmB x = true) : (∀ c ∈ tl x, Let c) ∧ 1 ≤ x.length := by
  unfold nmB at h
  rw [Bool.and_eq_true, Bool.and_eq_true, Bool.and_eq_true, decide_eq_true_eq, decide_eq_true_eq] at h
  exact ⟨fun c hc => letB_iff.mp (List.all_eq_true.mp h.2 c hc), h.1.1.1⟩
theorem shown_str {x : Str} (h : ∀ c ∈ tl x, Let c) : (PyData.shown (.str x)).length = x.length + 2 := by
  rw [DL.len_tl, DL.len_tl]
  show (tl (reprText x)).length = _
  rw [tl_repr h]
  simp
theorem joinL_len {S : List Nat} : ∀ (p : List Nat) (ps : List (List Nat)), (joinL S (p :: ps)).length + S.length = ((p :: ps).map fun q => q.length + S.length).sum
  | p, [] => by show p.length + _ = _; simp
  | p, q :: ps => by
    have := joinL_len (S := S) q ps
    show (p ++ (S ++ joinL S (q :: ps))).length + _ = _
    rw [List.length_append, List.length_append, List.map_cons, List.sum_cons, ← this]
    omega
theorem shown_tup (p q : PyData) (ps : List PyData) : (PyData.shown (.tuple (p :: q :: ps))).length = ((p :: q :: ps).map fun r => (PyData.shown r).length + 2).sum := by
  have e : PyData.shown (.tuple (p :: q :: ps)) = tupleText ((p :: q :: ps).map PyData.shown) := by
    rw [PyData.shown, PyProof.Rows.shownAll_eq_map]
  rw [e, DL.len_tl]
  unfold tupleText
  rw [tl_append, tl_append, tl_join]
  have c1 : tl (("(" : String) : Str) = [40] := by decide +kernel
  have c2 : tl ((", " : String) : Str) = [44, 32] := by decide +kernel
  have c3 : tl (((if ((p :: q :: ps).map PyData.shown).length == 1 then ",)" else ")" : String)) : Str) = [41] := by
    rw [List.map_cons, List.map_cons]
    show tl ((")" : String) : Str) = [41]
    decide +kernel
  rw [c1, c2, c3]
  have e3 : ((p :: q :: ps).map PyData.shown).map tl = (p :: q :: ps).map fun r => tl r.shown := by rw [List.map_map]; rfl
  rw [e3]
  have j : (joinL [44, 32] ((p :: q :: ps).map fun r => tl r.shown)).length + 2 = (((p :: q :: ps).map fun r => tl r.shown).map fun q => q.length + 2).sum := joinL_len (S := [44, 32]) (tl p.shown) ((q :: ps).map fun r : PyData => tl r.shown)
  rw [List.map_map] at j
  have e2 : (p :: q :: ps).map ((fun q : List Nat => q.length + 2) ∘ fun r : PyData => tl r.shown) = (p :: q :: ps).map fun r => (PyData.shown r).length + 2 := List.map_congr_left fun r _ => by
    show (tl r.shown).length + 2 = _
    rw [← DL.len_tl]
  rw [e2] at j
  rw [← j, List.length_append, List.length_append]
  show 1 + _ + 1 = _
  omega
theorem let1 : ∀ c ∈ tl (Str.ofString "one"), Let c := by rw [show tl (Str.ofString "one") = [111, 110, 101] by decide +kernel]; simp [Let]
theorem let3 : ∀ c ∈ tl (Str.ofString "any"), Let c := by rw [show tl (Str.ofString "any") = [97, 110, 121] by decide +kernel]; simp [Let]
theorem let4 : ∀ c ∈ tl (Str.ofString "row"), Let c := by rw [show tl (Str.ofString "row") = [114, 111, 119] by decide +kernel]; simp [Let]
theorem shown_two (x : Str) (e : D) : (D.tup [.str x, e]).py.shown.length = (PyData.shown (.str x)).length + e.py.shown.length + 4 := by
  rw [D.py, D.pys, D.pys, D.pys, shown_tup]
  simp [D.py]
  omega
theorem shown_ps (ps : List D) (g : D → Nat) (h : ∀ p ∈ ps, 17 * g p ≤ p.py.shown.length + 5) (h2 : 2 ≤ ps.length) : 17 * (ps.map g).sum ≤ (D.tup ps).py.shown.length + 3 * ps.length := by
  match ps, h2, h with
  | p :: q :: ps, _, h =>
    rw [D.py, pys_map]
    show 17 * ((p :: q :: ps).map g).sum ≤ (PyData.shown (.tuple (p.py :: q.py :: ps.map D.py))).length + _
    rw [shown_tup]
    show _ ≤ (((p :: q :: ps).map D.py).map fun r => r.shown.length + 2).sum + _
    clear h2
    generalize p :: q :: ps = l at h
    induction l with
    | nil => simp
    | cons a l ih =>
      have h0 := h a (by simp)
      have h1 := ih fun z hz => h z (by simp [hz])
      rw [List.map_cons, List.sum_cons, List.map_cons, List.map_cons, List.sum_cons, List.length_cons]
      omega
theorem shown_ge : ∀ (k : Nat) {d : D}, isN k d = true → 17 * (clsN k d).length ≤ d.py.shown.length + 5
  | 0, _, h => by cases h
  | k + 1, d, h => by
    obtain ⟨x, e, rfl, hc⟩ := isN_form h
    rw [shown_two]
    rcases hc with ⟨rfl, y, rfl, hy⟩ | ⟨hx, ps, rfl, hp2, hp4, hps⟩ | ⟨rfl, he⟩
    · obtain ⟨hl, h1⟩ := nm_let hy
      rw [clsN_one, shown_str let1, D.py, shown_str hl]
      have : (Str.ofString "one").length = 3 := by decide +kernel
      show 17 * 1 ≤ _
      omega
    · have hs := shown_ps ps (fun d => (clsN k d).length) (fun p hp => shown_ge k (hps p hp)) hp2
      rw [sum_len (fun d => (clsN k d).length) (clsN k) fun _ _ => rfl] at hs
      rcases hx with rfl | rfl
      · rw [clsN_any, shown_str let3]
        have : (Str.ofString "any").length = 3 := by decide +kernel
        omega
      · rw [clsN_row, shown_str let4]
        have : (Str.ofString "row").length = 3 := by decide +kernel
        omega
    · have := shown_ge k he
      rw [clsN_many]
      omega
theorem strOk_of {x : Str} (h : ∀ c ∈ tl x, c < 1114112) : PyData.strOk x = true := by
  unfold PyData.strOk
  rw [← Array.all_toList, List.all_eq_true]
  intro c hc
  have := h c hc
  simp only [decide_eq_true_eq]
  omega
theorem nm_strOk {x : Str} (h : nmB x = true) : PyData.strOk x = true := strOk_of fun c hc => by
  have := (nm_let h).1 c hc
  unfold Let at this
  omega
/-- it is small -/
def wN : Nat → Nat
  | 0 => 14
  | k + 1 => 4 * wN k + 14
theorem isN_sm : ∀ (k : Nat) {d : D}, isN (k + 1) d = true → Sm (2 * (k + 1)) (wN k) d := by
  intro k
  induction k with
  | zero =>
    intro d h
    obtain ⟨x, e, rfl, hc⟩ := isN_form h
    rcases hc with ⟨rfl, y, rfl, hy⟩ | ⟨hx, ps, rfl, hp2, hp4, hps⟩ | ⟨rfl, he⟩
    · exact Sm.tup (h := 1) ((Sms.cons (w := 6) (w' := 7) (Sm.str (by decide +kernel) (by decide +kernel)) (Sms.cons (w := 6) (w' := 0) (Sm.str (nm_strOk hy) (nmB_len hy)) Sms.nil)).mono (Nat.le_refl _) (by decide))
    · match ps, hp2, hps with
      | p :: ps, _, hps => have := hps p (by simp); cases this
    · cases he
  | succ k ih =>
    intro d h
    obtain ⟨x, e, rfl, hc⟩ := isN_form h
    have hw : wN (k + 1) = 4 * wN k + 14 := rfl
    rcases hc with ⟨rfl, y, rfl, hy⟩ | ⟨hx, ps, rfl, hp2, hp4, hps⟩ | ⟨rfl, he⟩
    · exact (Sm.tup (h := 1) (w := 14) ((Sms.cons (w := 6) (w' := 7) (Sm.str (by decide +kernel) (by decide +kernel)) (Sms.cons (w := 6) (w' := 0) (Sm.str (nm_strOk hy) (nmB_len hy)) Sms.nil)).mono (Nat.le_refl _) (by decide))).mono (by omega) (by omega)
    · have h1 : Sm (2 * (k + 1) + 1) ((wN k + 1) * 4) (.tup ps) := Sm.tup ((Sms.all fun p hp => ih (hps p hp)).mono (Nat.le_refl _) (Nat.mul_le_mul_left _ hp4))
      have hsx : Sm (2 * (k + 1) + 1) 6 (.str x) := by rcases hx with rfl | rfl <;> exact Sm.str (by decide +kernel) (by decide +kernel)
      exact (Sm.tup (h := 2 * (k + 1) + 1) (Sms.cons hsx (Sms.cons (w' := 0) h1 Sms.nil))).mono (by omega) (by omega)
    · have h1 := (ih he).mono (h' := 2 * (k + 1) + 1) (by omega) (Nat.le_refl _)
      have hsx : Sm (2 * (k + 1) + 1) 6 (.str "many") := Sm.str (by decide +kernel) (by decide +kernel)
      exact (Sm.tup (h := 2 * (k + 1) + 1) (Sms.cons hsx (Sms.cons (w' := 0) h1 Sms.nil))).mono (by omega) (by omega)
end

end Law
end
section
set_option Elab.async false
set_option maxRecDepth 100000
set_option maxHeartbeats 4000000
set_option linter.all false
set_option autoImplicit false
namespace Law
open PySem PySem.Spec PyProof.Rows L2 DL TL TrA TrA.Tr
section
variable [TabCtx]
/-! ### the steps, as the law gathers them -/
def stepsN (m : Mch) : List (Nat × Nat) := (List.range m.length).flatMap fun p => (aftN m p).map fun g => (p, g)
theorem stepsD_N (m : Mch) : stepsD m = (stepsN m).map fun e => stepD m e.1 e.2 := by
  unfold stepsD stepsN
  simp only [List.map_flatMap, List.map_map]
  rfl
theorem aft_out {m : Mch} {p : Nat} (h : m.length ≤ p) : aftN m p = [] := by
  unfold aftN
  rw [List.getElem?_eq_none h]; rfl
theorem steps_in {m : Mch} {p g : Nat} : (p, g) ∈ stepsN m ↔ g ∈ aftN m p := by
  unfold stepsN
  rw [List.mem_flatMap]
  constructor
  · rintro ⟨q, _, h⟩
    obtain ⟨h, hh, e⟩ := List.mem_map.mp h
    cases e; exact hh
  · intro h
    refine ⟨p, List.mem_range.mpr ?_, List.mem_map.mpr ⟨g, h, rfl⟩⟩
    by_cases hp : p < m.length
    · exact hp
    · rw [aft_out (by omega)] at h; cases h
def keyS (m : Mch) (e : Nat × Nat) : HKey := some [.inl ((e.1 : Nat) : Int), .inl ((e.2 : Nat) : Int), .inr (rdN m e.2)]
theorem keyS_P (m : Mch) (e : Nat × Nat) : hkP (keyS m e) = .tuple [.int (e.1 : Nat), .int (e.2 : Nat), .str (rdN m e.2)] := rfl
theorem keyS_inj {m : Mch} {a b : Nat × Nat} (h : keyS m a = keyS m b) : a = b := by
  unfold keyS at h
  have h := Option.some.inj h
  obtain ⟨h1, h2⟩ := List.cons.inj h
  obtain ⟨h2, _⟩ := List.cons.inj h2
  have h1 := Sum.inl.inj h1
  have h2 := Sum.inl.inj h2
  exact Prod.ext (by omega) (by omega)
def lexN (a b : Nat × Nat) : Prop := a.1 < b.1 ∨ (a.1 = b.1 ∧ a.2 < b.2)
theorem lexN_tot {a b : Nat × Nat} (h : a ≠ b) : lexN a b ∨ lexN b a := by
  obtain ⟨a1, a2⟩ := a
  obtain ⟨b1, b2⟩ := b
  have : a1 ≠ b1 ∨ a2 ≠ b2 := by
    by_cases h1 : a1 = b1
    · subst h1
      exact .inr fun h2 => h (by rw [h2])
    · exact .inl h1
  unfold lexN
  dsimp only
  omega
theorem step_gt {m : Mch} {a b : Nat × Nat} (h : lexN a b) : PySem.W.dataLt (hkP (keyS m a)) (hkP (keyS m b)) = true := by
  rw [keyS_P, keyS_P, PySem.W.dataLt_tuple, PySem.W.dataLt_cons (by simp [PySem.W.alike])]
  unfold lexN at h
  by_cases h1 : a.1 = b.1
  · have h2 : a.2 < b.2 := by omega
    rw [if_pos (by simp [PyData.eqv, h1]), PySem.W.dataLt_cons (by simp [PySem.W.alike]), if_neg (by simp [PyData.eqv]; omega), PySem.W.dataLt_int]
    simp; omega
  · rw [if_neg (by simp [PyData.eqv]; omega), PySem.W.dataLt_int]
    simp; omega
theorem lex_uniq : ∀ {a b : List (Nat × Nat)}, a.Pairwise lexN → b.Pairwise lexN → (∀ k, k ∈ a ↔ k ∈ b) → a = b
  | [], [], _, _, _ => rfl
  | [], y :: b, _, _, h => by have := (h y).mpr (by simp); cases this
  | x :: a, [], _, _, h => by have := (h x).mp (by simp); cases this
  | x :: a, y :: b, ha, hb, h => by
    obtain ⟨a1, a2⟩ := List.pairwise_cons.mp ha
    obtain ⟨b1, b2⟩ := List.pairwise_cons.mp hb
    have e : x = y := by
      rcases List.mem_cons.mp ((h x).mp (by simp)) with z | z
      · exact z
      · rcases List.mem_cons.mp ((h y).mpr (by simp)) with z2 | z2
        · exact z2.symm
        · have := b1 x z; have := a1 y z2; unfold lexN at *; omega
    subst e
    refine congrArg _ (lex_uniq a2 b2 fun k => ?_)
    have hk := h k
    rw [List.mem_cons, List.mem_cons] at hk
    constructor
    · intro z
      rcases hk.mp (.inr z) with z2 | z2
      · have := a1 k z; rw [z2] at this; unfold lexN at this; omega
      · exact z2
    · intro z
      rcases hk.mpr (.inr z) with z2 | z2
      · have := b1 k z; rw [z2] at this; unfold lexN at this; omega
      · exact z2
theorem stepsN_pw {m : Mch} (ha : ∀ p, (aftN m p).Pairwise (· < ·)) : (stepsN m).Pairwise lexN := by
  unfold stepsN
  rw [List.pairwise_flatMap]
  refine ⟨fun p _ => ?_, ?_⟩
  · rw [List.pairwise_map]
    exact (ha p).imp fun {b e} h => .inr ⟨rfl, h⟩
  · refine List.pairwise_lt_range.imp fun {p p2} h x hx y hy => ?_
    obtain ⟨g, _, rfl⟩ := List.mem_map.mp hx
    obtain ⟨g2, _, rfl⟩ := List.mem_map.mp hy
    exact .inl h
theorem unkey {m : Mch} : ∀ {L : List HKey}, (∀ k ∈ L, ∃ e, k = keyS m e) → ∃ es : List (Nat × Nat), L = es.map (keyS m)
  | [], _ => ⟨[], rfl⟩
  | k :: L, h => by
    obtain ⟨es, rfl⟩ := unkey (L := L) fun q hq => h q (by simp [hq])
    obtain ⟨e, rfl⟩ := h k (by simp)
    exact ⟨e :: es, rfl⟩
/-- the ascending set of the pairs is the list of steps -/
theorem due_eq {m : Mch} (ha : ∀ p, (aftN m p).Pairwise (· < ·)) {ps : List (Nat × Nat)} (hps : ∀ a b, (a, b) ∈ ps ↔ b ∈ aftN m a) {L : List HKey} (nd : L.Nodup) (mem : ∀ k, k ∈ L ↔ k ∈ ps.map (keyS m))
    (pw : L.Pairwise fun a b => PySem.W.dataLt (hkP b) (hkP a) = false) : L.map hkD = stepsD m := by
  obtain ⟨es, rfl⟩ := unkey (m := m) (L := L) fun k hk => by
    obtain ⟨e, _, rfl⟩ := List.mem_map.mp ((mem k).mp hk)
    exact ⟨e, rfl⟩
  have e1 : es = stepsN m := by
    refine lex_uniq ?_ (stepsN_pw ha) fun k => ?_
    · rw [List.pairwise_map] at pw
      have nd2 : es.Pairwise fun a b => a ≠ b := by
        have := nd
        unfold List.Nodup at this
        rw [List.pairwise_map] at this
        exact this.imp fun h e => h (by rw [e])
      refine (pw.and nd2).imp fun {a b} h => ?_
      rcases lexN_tot h.2 with z | z
      · exact z
      · have := step_gt (m := m) z
        rw [h.1] at this; cases this
    · constructor
      · intro hk
        obtain ⟨e, he, ee⟩ := List.mem_map.mp ((mem _).mp (List.mem_map_of_mem hk))
        have := keyS_inj ee
        subst this
        exact steps_in.mpr ((hps e.1 e.2).mp he)
      · intro hk
        obtain ⟨e, he, ee⟩ := List.mem_map.mp ((mem (keyS m k)).mpr (List.mem_map_of_mem ((hps k.1 k.2).mpr (steps_in.mp hk))))
        have := keyS_inj ee
        subst this
        exact he
  rw [e1, stepsD_N, List.map_map]
  rfl
/-! ### the places that are gathered begin at 1 -/
def WPos (r : Wk) : Prop := (∀ p ∈ r.1.2, 1 ≤ p.2) ∧ ∀ x ∈ r.2.1, 1 ≤ x
theorem wkS_pos {any : Bool} {r t : Wk} (h1 : WPos r) (h2 : WPos t) : WPos (wkS any r t) := by
  unfold wkS
  cases any with
  | true =>
    rw [if_pos rfl]
    exact ⟨h2.1, fun x hx => (List.mem_append.mp hx).elim (h1.2 x) (h2.2 x)⟩
  | false =>
    rw [if_neg (by decide)]
    refine ⟨fun p hp => ?_, h1.2⟩
    rcases List.mem_append.mp hp with z | z
    · exact h2.1 p z
    · obtain ⟨a, b⟩ := p
      exact h2.2 b (prod_mem.mp z).2
theorem wkL_pos {any : Bool} {f : D → WkS → Wk} : ∀ {ps : List D} {r : Wk}, (∀ p ∈ ps, ∀ s, (∀ p ∈ s.2, 1 ≤ p.2) → WPos (f p s)) → WPos r → WPos (wkL any f ps r)
  | [], r, _, h => h
  | p :: ps, r, hf, h => by
    rw [wkL_cons]
    exact wkL_pos (fun q hq => hf q (by simp [hq])) (wkS_pos h (hf p (by simp) r.1 h.1))
theorem wk_pos : ∀ (k : Nat) {d : D}, isN k d = true → ∀ s : WkS, (∀ p ∈ s.2, 1 ≤ p.2) → WPos (wkP k d s)
  | 0, _, h, _, _ => by cases h
  | k + 1, d, h, s, hs => by
    obtain ⟨x, e, rfl, hc⟩ := isN_form h
    rcases hc with ⟨rfl, y, rfl, hy⟩ | ⟨rfl | rfl, ps, rfl, hp2, hp4, hps⟩ | ⟨rfl, he⟩
    · rw [wkP_one]
      exact ⟨hs, fun x hx => by rw [List.mem_singleton.mp hx]; omega⟩
    · match ps, hps, hp2 with
      | p :: ps, hps, _ =>
        rw [wkP_any]
        exact wkL_pos (fun q hq => wk_pos k (hps q (by simp [hq]))) (wk_pos k (hps p (by simp)) s hs)
    · match ps, hps, hp2 with
      | p :: ps, hps, _ =>
        rw [wkP_row]
        exact wkL_pos (fun q hq => wk_pos k (hps q (by simp [hq]))) (wk_pos k (hps p (by simp)) s hs)
    · rw [wkP_many]
      have h := wk_pos k he s hs
      refine ⟨fun p hp => ?_, h.2⟩
      rcases List.mem_append.mp hp with z | z
      · exact h.1 p z
      · obtain ⟨a, b⟩ := p
        exact h.2 b (prod_mem.mp z).2
/-! ### the classes that are gathered are names -/
def WNm (r : Wk) : Prop := ∀ x ∈ r.1.1, nmB x = true
theorem wkL_nm {any : Bool} {f : D → WkS → Wk} : ∀ {ps : List D} {r : Wk}, (∀ p ∈ ps, ∀ s : WkS, (∀ x ∈ s.1, nmB x = true) → WNm (f p s)) → WNm r → WNm (wkL any f ps r)
  | [], r, _, h => h
  | p :: ps, r, hf, h => by
    rw [wkL_cons]
    refine wkL_nm (fun q hq => hf q (by simp [hq])) ?_
    have := hf p (by simp) r.1 h
    unfold wkS
    cases any <;> exact this
theorem wk_nm : ∀ (k : Nat) {d : D}, isN k d = true → ∀ s : WkS, (∀ x ∈ s.1, nmB x = true) → WNm (wkP k d s)
  | 0, _, h, _, _ => by cases h
  | k + 1, d, h, s, hs => by
    obtain ⟨x, e, rfl, hc⟩ := isN_form h
    rcases hc with ⟨rfl, y, rfl, hy⟩ | ⟨rfl | rfl, ps, rfl, hp2, hp4, hps⟩ | ⟨rfl, he⟩
    · rw [wkP_one]
      exact fun x hx => (List.mem_append.mp hx).elim (hs x) fun z => by rw [List.mem_singleton.mp z]; exact hy
    · match ps, hps, hp2 with
      | p :: ps, hps, _ =>
        rw [wkP_any]
        exact wkL_nm (fun q hq => wk_nm k (hps q (by simp [hq]))) (wk_nm k (hps p (by simp)) s hs)
    · match ps, hps, hp2 with
      | p :: ps, hps, _ =>
        rw [wkP_row]
        exact wkL_nm (fun q hq => wk_nm k (hps q (by simp [hq]))) (wk_nm k (hps p (by simp)) s hs)
    · rw [wkP_many]
      exact wk_nm k he s hs
theorem rd_nm {m : Mch} {cs : List Str} (h : m.map (·.1) = ("" : Str) :: cs) (hc : ∀ x ∈ cs, nmB x = true) (g : Nat) : PyData.strOk (rdN m g) = true ∧ (rdN m g).length ≤ 6 := by
  unfold rdN
  cases e : m[g]? with
  | none => exact ⟨by decide +kernel, by decide +kernel⟩
  | some x =>
    have : x.1 ∈ m.map (·.1) := List.mem_map_of_mem (List.mem_of_getElem? e)
    rw [h] at this
    show PyData.strOk x.1 = true ∧ x.1.length ≤ 6
    rcases List.mem_cons.mp this with z | z
    · rw [z]; exact ⟨by decide +kernel, by decide +kernel⟩
    · exact ⟨nm_strOk (hc _ z), nmB_len (hc _ z)⟩
theorem small_int : ∀ n : Nat, n < 16 → (PyData.intsShort 13 (D.int (n : Nat)).py = true ∧ PyData.weight (D.int (n : Nat)).py ≤ 5) ∧ (D.int (n : Nat)).py.showable = true := by decide +kernel
theorem sm_int {n : Nat} (h : n < 16) : Sm 1 5 (.int (n : Nat)) := ⟨rfl, rfl, (small_int n h).1.1, by simp [D.py, PyData.depth], (small_int n h).1.2⟩
theorem sm_natD {l : List Nat} (h : ∀ x ∈ l, x < 16) : Sm 2 (6 * l.length) (natD l) := by
  refine Sm.lst (h := 1) ((Sms.all (h := 1) (w := 5) fun d hd => ?_).mono (Nat.le_refl _) (by rw [List.length_map]; exact Nat.le_refl _))
  obtain ⟨n, hn, rfl⟩ := List.mem_map.mp hd
  exact sm_int (h n hn)
theorem show_steps (m : Mch) (hl : ∀ e ∈ stepsN m, e.1 < 16 ∧ e.2 < 16) : (D.lst (stepsD m)).py.showable = true := by
  rw [stepsD_N]
  refine showable_lst fun d hd => ?_
  obtain ⟨e, he, rfl⟩ := List.mem_map.mp hd
  obtain ⟨h1, h2⟩ := hl e he
  refine showable_tup fun z hz => ?_
  simp only [List.mem_cons, List.not_mem_nil, or_false] at hz
  rcases hz with rfl | rfl | rfl
  · exact (small_int _ h1).2
  · exact (small_int _ h2).2
  · rfl
/-- the class that a place reads -/
theorem rd_of {m : Mch} {cs : List Str} (h : m.map (·.1) = ("" : Str) :: cs) {g : Nat} (h1 : 1 ≤ g) (h2 : g < m.length) : atI (stsD cs) (((g : Nat) : Int) - 1) = some (.str (rdN m g)) := by
  obtain ⟨j, rfl⟩ : ∃ j, g = j + 1 := ⟨g - 1, by omega⟩
  have e : (m.map (·.1))[j + 1]? = some m[j + 1].1 := by rw [List.getElem?_map, List.getElem?_eq_getElem h2]; rfl
  rw [h, List.getElem?_cons_succ] at e
  have er : rdN m (j + 1) = m[j + 1].1 := by unfold rdN; rw [List.getElem?_eq_getElem h2]; rfl
  rw [er, show (((j + 1 : Nat) : Int) - 1) = ((j : Nat) : Int) by omega]
  exact atI_nat (by unfold stsD; rw [List.getElem?_map, e]; rfl)
theorem sm_steps (m : Mch) (hn : ∀ g, PyData.strOk (rdN m g) = true ∧ (rdN m g).length ≤ 6) (hl : ∀ e ∈ stepsN m, e.1 < 16 ∧ e.2 < 16) : Sm 3 (20 * (stepsN m).length) (.lst (stepsD m)) := by
  rw [stepsD_N]
  refine Sm.lst (h := 2) ((Sms.all (h := 2) (w := 19) fun d hd => ?_).mono (Nat.le_refl _) (by rw [List.length_map]; exact Nat.le_refl _))
  obtain ⟨e, he, rfl⟩ := List.mem_map.mp hd
  obtain ⟨h1, h2⟩ := hl e he
  have small : ∀ n : Nat, n < 16 → Sm 1 5 (.int (n : Nat)) := fun n hn => by
    have : ∀ n : Nat, n < 16 → (PyData.intsShort 13 (D.int (n : Nat)).py = true ∧ PyData.weight (D.int (n : Nat)).py ≤ 5) := by decide +kernel
    exact ⟨rfl, rfl, (this n hn).1, by simp [D.py, PyData.depth], (this n hn).2⟩
  exact Sm.tup (h := 1) ((Sms.cons (small _ h1) (Sms.cons (small _ h2) (Sms.cons (w' := 0) (Sm.str (hn _).1 (hn _).2) Sms.nil))).mono (Nat.le_refl _) (by decide))
end

end Law
end
section
set_option Elab.async false
set_option maxRecDepth 100000
set_option maxHeartbeats 4000000
set_option linter.all false
set_option autoImplicit false
namespace Law
open PySem PySem.Spec PyProof.Rows L2 DL TL TrA TrA.Tr
section
variable [TabCtx] {P : Program} {w : World} {K : KB} {mg : Str → Option Value} {base : Heap} {f : Addr} {fd : FuncData} {bC xC yC : Addr}
theorem CB.frz1 {K : KF} {G : Hp} {R : Rs} {H : Hp} {Qd : DK} {Q : VK} (h : CB K G R H Qd Q) : CB K G R H (fun d R' => ∃ l ds, d = .ref l ∧ R' l = some (.lst ds) ∧ Qd (.lst ds) (lose R' l)) Q := fun G' R' H' d v e rh dv ⟨l, ds, ed, hl, q⟩ => by
  subst ed
  obtain ⟨vs, h1, h2⟩ := rh.lst hl
  obtain ⟨S, rh2⟩ := rh.freeze hl h1
  cases dv
  exact h _ _ H' _ _ (e.trans S) rh2 (.lst upd_same (h2.st S)) q
/-- a def that returns a new list: told as one that never changes -/
def frz1 (dsp : DSp) : DSp := fun ds R Q E => dsp ds R (fun d R' => ∃ l xs, d = .ref l ∧ R' l = some (.lst xs) ∧ Q (.lst xs) (lose R' l)) E
theorem _root_.DL.FnG.frz1 {CX : CXT} {k : Nat} {ps : List Str} {dsp : DSp} (F : FnG P w K mg base CX k f fd ps (spOf K dsp)) : FnG P w K mg base CX k f fd ps (spOf K (frz1 dsp)) :=
  F.imp fun vs H Q E ⟨G, ds, R, Qd, Ed, dv, rh, q, cb, cx⟩ => ⟨G, ds, R, _, Ed, dv, rh, q, CB.frz1 cb, cx⟩
theorem frz1_ok {dsp : DSp} {ds : List D} {R : Rs} {Q : DK} {E : DXK} {xs : List D} (h : ∀ Q' : DK, (∀ p, R p = none → Q' (.ref p) (put R p (.lst xs))) → dsp ds R Q' E) (q : Q (.lst xs) R) : Law.frz1 dsp ds R Q E :=
  h _ fun p hp => ⟨p, xs, rfl, put_same, by rw [lose_put hp]; exact q⟩
theorem _root_.DL.CalX.frz1 {k : Nat} {x : Str} {dsp : DSp} (c : CalX P w K mg base k x dsp) : CalX P w K mg base k x (frz1 dsp) := let ⟨f, fd, ps, F, r⟩ := c.ex; ⟨⟨f, fd, ps, F.frz1, r⟩⟩
theorem _root_.DL.Cal.frz1 {k : Nat} {x : Str} {dsp : DSp} (c : Cal P w K mg base k x dsp) : Cal P w K mg base k x (frz1 dsp) := let ⟨f, fd, ps, F, r⟩ := c.ex; ⟨⟨f, fd, ps, F.frz1, r⟩⟩
end

end Law
end
section
set_option Elab.async false
set_option maxRecDepth 100000
set_option maxHeartbeats 4000000
set_option linter.all false
set_option autoImplicit false
namespace Law
open PySem PySem.Spec PyProof.Rows L2 DL TL TrA TrA.Tr
section
variable [TabCtx] {P : Program} {w : World} {K : KB} {mg : Str → Option Value} {base : Heap} {f : Addr} {fd : FuncData} {pC : Addr}
abbrev s_law_refused : Stmt := top 29
abbrev n_law_refused : List Str := ["_law_call", "e"]
theorem sc_law_refused : FnScope n_law_refused ["_law_call"] (defScope s_law_refused) := ⟨rfl, rfl, rfl, by decide +kernel, rfl, by decide +kernel, by decide +kernel⟩
def spRefused (pC : Addr) (L : Lam) (dl : CSp) : CSp := fun cs ds R Q _ => ds = [.lam L] ∧ ∀ (Q' : DK) (E' : DXK), (∀ (d : D) (R' : Rs), Q (.lst []) R' → Q' d R') → (∀ (v : D) (R' : Rs), Q (.lst [v]) R' → E' (.ref pC) [("pattern", v)] R') → dl cs [] R Q' E'
theorem ok_l_refused {C1 C2 C3 : Addr} {L : Lam} {fr : List Str} {dl : CSp} (F : Fun K "_law_refused" "_law_refused" s_law_refused f fd) (Z : Blt mg bl) (x_NoPattern : PySem.LX.Low K mg "NoPattern" "pattern" pC) (k_NoPattern : ExcK K pC) (g_NoBook : GC K mg "NoBook" (.ref C1)) (g_NoText : GC K mg "NoText" (.ref C2)) (g_NoTree : GC K mg "NoTree" (.ref C3)) (i1 : PySem.W.kitAny K (.ref pC) [.ref C1, .ref C2, .ref C3] = some false) (i2 : PySem.W.kitOne K (.ref pC) (.type "ValueError") = some true) (l_law_call : LamC P w K mg base 20 L fr dl) : FnL P w K mg base (L2.CX P w) 21 f fd ["_law_call"] L.cl fr (spLam K (spRefused pC L dl)) := by
  refine okXL F sc_law_refused (fun cs ds R Q E h => by obtain ⟨rfl, _⟩ := h; rfl) fun cdv A outer s H E Ed cs gd hr hcs cp tk => ?_
  refine ⟨_, (dss_cons (ds_try_asK (i := 1) rfl rfl sc_law_refused.nd rfl rfl ⟨rfl, by decide, .inl x_NoPattern.gC⟩ takesNo (fun _ _ _ _ hp tk po => (dss_one (ds_expr (de_callC0 0 (cp.tr hp) l_law_call gd hr (by omega) tk)))) (fun _ _ _ _ _ _ _ hz hf hx => (dss_one (ds_if (dw_and (dt_val (de_callB (cd_isX k_NoPattern hz hf hx) (by rfl) (Z _ (by decide)) bt_isi (da_cons (dv 1) (da_cons (de_ty (by rfl) (Z _ (by decide)) bt_ValueError) da_nil)))) (dw_and1 (dt_not (dt_val (de_callB (cd_isX k_NoPattern hz hf hx) (by rfl) (Z _ (by decide)) bt_isi (da_cons (dv 1) (da_cons (de_tup (da_cons (de_glob g_NoBook (by rfl)) (da_cons (de_glob g_NoText (by rfl)) (da_cons (de_glob g_NoTree (by rfl)) da_nil)))) da_nil))))))).dt (dss_one (ds_ret (de_lstF (da_cons (de_xF x_NoPattern hz hf hx (dv 1)) da_nil)))) dss_nil))))
    (dss_one (ds_ret (de_lstF da_nil)))), fun ds R Qd h => ?_⟩
  obtain ⟨rfl, h⟩ := h
  simp only [dTryAs, dSeq, dGetK, rdInK, dGetT, dInT, rdSetK, dNewK, dDcF, dDc2F, dIEnum, dIZip, dISeq, dStar, dCont, dBrk, dOrT, rdInC, dCallK, dCVal, dMeth, dFld, dSetF, dNewF, dNew0F, dDisp, dPairs, dGet2, dGIndex, DL.keyOf, DL.keysOf, dCallL, dLam, dJoin, dJs, dFmtS, dRepl, dRaise, dCallX, dDelTail, dAugL, dXF, dAsg, dIf, dIfS, dB, dAnd, dOr, dNot, dAndV, dOrV, dNotV, dChain, dOp, dUn, dVar, dC, rdI0, rdI, dCB, dCall, rd1, dCons, dNil, dgName, dgSub, dgTup, dgLst, dSortSet, dgCons, dgNil, rdSetL, dRet, dLst, dLstF, dTup, dDrop, dNext, dPar, dBM, dBM0, dSl, dPart, dNoPart, dstart, dwipe, List.map_cons, List.map_nil, List.length_cons, List.length_nil, List.replicate_succ, List.replicate_zero, List.cons_append, List.nil_append, List.set_cons_zero, List.set_cons_succ, List.getElem?_cons_zero, List.getElem?_cons_succ, Nat.reduceAdd, Nat.reduceSub, Option.some.injEq, D.int.injEq, D.bl.injEq, D.str.injEq, D.ref.injEq, D.ty.injEq, D.tup.injEq, D.lst.injEq, D.rls.injEq, RO.lst.injEq, List.cons.injEq, exists_and_left, exists_eq_left', exists_eq_left, and_true, true_and, put_same, put_put, at0, at1, at2, ix30, ix31, ix32, and_assoc, dLcF, dLc, dLcT, dIRng1, dIRng2, dIRng3, dIStr, dITup, dILst, dYes, if_true, Bool.false_eq_true, if_false, eqS_ii, neS_ii, eqS_ss, neS_ss, decide_eq_true_eq, sq_tup, sq_lst, sq_rls, lo_lst, lo_rls, tr_lst, isi_tt, isi_st, isi_nt, isi_bt, isi_it, isi_lt, isi_ts, isi_ss, isi_ns, isi_bs, isi_is, isi_ls, List.append_nil, sz0, sz1, sz2, sz3, sz4, sz5, sz6, sl0, sl1, sl2, ty_put, ty_str, lo_put, sq_put, tr_put, reduceCtorEq, false_and, and_false, exists_false, or_false, false_or, Bool.not_false, Bool.not_true, List.isEmpty_nil, List.isEmpty_cons, app1_empty, dCallC]
  refine h _ _ (fun d R' q => fin q) (fun v R' q => ⟨true, x_NoPattern.te, fun _ a ha => ?_, fun h => by cases h⟩)
  simp only [rdIsX, dSeq, dGetK, rdInK, dGetT, dInT, rdSetK, dNewK, dDcF, dDc2F, dIEnum, dIZip, dISeq, dStar, dCont, dBrk, dOrT, rdInC, dCallK, dCVal, dMeth, dFld, dSetF, dNewF, dNew0F, dDisp, dPairs, dGet2, dGIndex, DL.keyOf, DL.keysOf, dCallL, dLam, dJoin, dJs, dFmtS, dRepl, dRaise, dCallX, dDelTail, dAugL, dXF, dAsg, dIf, dIfS, dB, dAnd, dOr, dNot, dAndV, dOrV, dNotV, dChain, dOp, dUn, dVar, dC, rdI0, rdI, dCB, dCall, rd1, dCons, dNil, dgName, dgSub, dgTup, dgLst, dSortSet, dgCons, dgNil, rdSetL, dRet, dLst, dLstF, dTup, dDrop, dNext, dPar, dBM, dBM0, dSl, dPart, dNoPart, dstart, dwipe, List.map_cons, List.map_nil, List.length_cons, List.length_nil, List.replicate_succ, List.replicate_zero, List.cons_append, List.nil_append, List.set_cons_zero, List.set_cons_succ, List.getElem?_cons_zero, List.getElem?_cons_succ, Nat.reduceAdd, Nat.reduceSub, Option.some.injEq, D.int.injEq, D.bl.injEq, D.str.injEq, D.ref.injEq, D.ty.injEq, D.tup.injEq, D.lst.injEq, D.rls.injEq, RO.lst.injEq, List.cons.injEq, exists_and_left, exists_eq_left', exists_eq_left, and_true, true_and, put_same, put_put, at0, at1, at2, ix30, ix31, ix32, and_assoc, dLcF, dLc, dLcT, dIRng1, dIRng2, dIRng3, dIStr, dITup, dILst, dYes, if_true, Bool.false_eq_true, if_false, eqS_ii, neS_ii, eqS_ss, neS_ss, decide_eq_true_eq, sq_tup, sq_lst, sq_rls, lo_lst, lo_rls, tr_lst, isi_tt, isi_st, isi_nt, isi_bt, isi_it, isi_lt, isi_ts, isi_ss, isi_ns, isi_bs, isi_is, isi_ls, List.append_nil, sz0, sz1, sz2, sz3, sz4, sz5, sz6, sl0, sl1, sl2, ty_put, ty_str, lo_put, sq_put, tr_put, reduceCtorEq, false_and, and_false, exists_false, or_false, false_or, Bool.not_false, Bool.not_true, List.isEmpty_nil, List.isEmpty_cons, app1_empty, dCallC]
  exact ⟨true, ⟨_, .ty _, i2⟩, iteT rfl ⟨false, .inr ⟨_, .cons (.own C1) (.cons (.own C2) (.cons (.own C3) .nil)), i1⟩, iteT rfl ⟨_, rfl, fin q⟩⟩⟩
abbrev s_law : Stmt := top 30
abbrev n_law : List Str := ["_law_script", "_law_at", "_law_bag_here", "_law_names_here", "_law_turn", "_law_pattern_here", "_law_classes", "_law_pairs", "_law_begin", "_law_close", "_law_due", "_law_some", "_law_others", "_law_odd", "_law_place", "_law_one", "_law_two"]
theorem sc_law : FnScope n_law ["_law_script"] (defScope s_law) := ⟨rfl, rfl, rfl, by decide +kernel, rfl, by decide +kernel, by decide +kernel⟩
abbrev e_law_0 : Expr := (argE 0 (argE 0 (eElt 0 (sVal (sAt 0 (sBody (sAt 4 (sBody (sAt 0 (defBody s_law))))))))))
abbrev n_law_0 : List Str := ["_law_odd"]
theorem sc_law_0 : NdefX.NScope n_law_0 [] ["_law_odd"] (lamSc e_law_0) := NdefX.nscope_by (by decide +kernel)
theorem nd_law_0 : NdefX.ndefB (defScope s_law) (lamSc e_law_0) ["_law_odd"] = true := by decide +kernel
abbrev e_law_1 : Expr := (argE 0 (argE 0 (eElt 0 (sVal (sAt 1 (sBody (sAt 4 (sBody (sAt 0 (defBody s_law))))))))))
abbrev n_law_1 : List Str := ["_law_odd"]
theorem sc_law_1 : NdefX.NScope n_law_1 [] ["_law_odd"] (lamSc e_law_1) := NdefX.nscope_by (by decide +kernel)
theorem nd_law_1 : NdefX.ndefB (defScope s_law) (lamSc e_law_1) ["_law_odd"] = true := by decide +kernel
abbrev q_law : Str := "law.<locals>.<lambda>"
/-- what is no pattern is told by the error -/
def spOdd (pC : Addr) : CSp := fun cs ds R Q E => ∃ d : D, cs = [some d] ∧ ds = [] ∧ gdB d = true ∧ patB d = false ∧ E (.ref pC) [("pattern", d)] R
theorem ok_lam0 (cl : List (Str × Addr)) (Z : Blt mg bl) (c_steps : CalX P w K mg base 19 "steps" (spStepsF pC)) : LamC P w K mg base 20 (lamC q_law e_law_0 cl) n_law_0 (spOdd pC) := by
  refine okLC (N := n_law_0) sc_law_0 (fun pm cv ctv us h => match us, h with | [], _ => rfl) (fun cs ds R Q E h => by obtain ⟨d, rfl, rfl, _⟩ := h; rfl) fun A outer s H f c E Ed gd hr tk => ?_
  refine ⟨_, (de_cX c_steps gd hr (by omega) tk (by rfl) (da_cons (dv 0) da_nil)), fun cs ds R Qd hcs h => ?_⟩
  obtain ⟨d, rfl, rfl, hg, hp, h⟩ := h
  simp only [dstartF, dSeq, dGetK, rdInK, dGetT, dInT, rdSetK, dNewK, dDcF, dDc2F, dIEnum, dIZip, dISeq, dStar, dCont, dBrk, dOrT, rdInC, dCallK, dCVal, dMeth, dFld, dSetF, dNewF, dNew0F, dDisp, dPairs, dGet2, dGIndex, DL.keyOf, DL.keysOf, dCallL, dLam, dJoin, dJs, dFmtS, dRepl, dRaise, dCallX, dDelTail, dAugL, dXF, dAsg, dIf, dIfS, dB, dAnd, dOr, dNot, dAndV, dOrV, dNotV, dChain, dOp, dUn, dVar, dC, rdI0, rdI, dCB, dCall, rd1, dCons, dNil, dgName, dgSub, dgTup, dgLst, dSortSet, dgCons, dgNil, rdSetL, dRet, dLst, dLstF, dTup, dDrop, dNext, dPar, dBM, dBM0, dSl, dPart, dNoPart, dstart, dwipe, List.map_cons, List.map_nil, List.length_cons, List.length_nil, List.replicate_succ, List.replicate_zero, List.cons_append, List.nil_append, List.set_cons_zero, List.set_cons_succ, List.getElem?_cons_zero, List.getElem?_cons_succ, Nat.reduceAdd, Nat.reduceSub, Option.some.injEq, D.int.injEq, D.bl.injEq, D.str.injEq, D.ref.injEq, D.ty.injEq, D.tup.injEq, D.lst.injEq, D.rls.injEq, RO.lst.injEq, List.cons.injEq, exists_and_left, exists_eq_left', exists_eq_left, and_true, true_and, put_same, put_put, at0, at1, at2, ix30, ix31, ix32, and_assoc, dLcF, dLc, dLcT, dIRng1, dIRng2, dIRng3, dIStr, dITup, dILst, dYes, if_true, Bool.false_eq_true, if_false, eqS_ii, neS_ii, eqS_ss, neS_ss, decide_eq_true_eq, sq_tup, sq_lst, sq_rls, lo_lst, lo_rls, tr_lst, isi_tt, isi_st, isi_nt, isi_bt, isi_it, isi_lt, isi_ts, isi_ss, isi_ns, isi_bs, isi_is, isi_ls, List.append_nil, sz0, sz1, sz2, sz3, sz4, sz5, sz6, sl0, sl1, sl2, ty_put, ty_str, lo_put, sq_put, tr_put, reduceCtorEq, false_and, and_false, exists_false, or_false, false_or, Bool.not_false, Bool.not_true, List.isEmpty_nil, List.isEmpty_cons, app1_empty, dSortSetW, dSortSetI, dCallGL, dCallC]
  exact ⟨d, rfl, hg, fun _ => finX h, fun z => by rw [hp] at z; cases z⟩
theorem ok_lam1 (cl : List (Str × Addr)) (Z : Blt mg bl) (c_ends : CalX P w K mg base 19 "ends" (spEnds pC)) : LamC P w K mg base 20 (lamC q_law e_law_1 cl) n_law_1 (spOdd pC) := by
  refine okLC (N := n_law_1) sc_law_1 (fun pm cv ctv us h => match us, h with | [], _ => rfl) (fun cs ds R Q E h => by obtain ⟨d, rfl, rfl, _⟩ := h; rfl) fun A outer s H f c E Ed gd hr tk => ?_
  refine ⟨_, (de_cX c_ends gd hr (by omega) tk (by rfl) (da_cons (dv 0) da_nil)), fun cs ds R Qd hcs h => ?_⟩
  obtain ⟨d, rfl, rfl, hg, hp, h⟩ := h
  simp only [dstartF, dSeq, dGetK, rdInK, dGetT, dInT, rdSetK, dNewK, dDcF, dDc2F, dIEnum, dIZip, dISeq, dStar, dCont, dBrk, dOrT, rdInC, dCallK, dCVal, dMeth, dFld, dSetF, dNewF, dNew0F, dDisp, dPairs, dGet2, dGIndex, DL.keyOf, DL.keysOf, dCallL, dLam, dJoin, dJs, dFmtS, dRepl, dRaise, dCallX, dDelTail, dAugL, dXF, dAsg, dIf, dIfS, dB, dAnd, dOr, dNot, dAndV, dOrV, dNotV, dChain, dOp, dUn, dVar, dC, rdI0, rdI, dCB, dCall, rd1, dCons, dNil, dgName, dgSub, dgTup, dgLst, dSortSet, dgCons, dgNil, rdSetL, dRet, dLst, dLstF, dTup, dDrop, dNext, dPar, dBM, dBM0, dSl, dPart, dNoPart, dstart, dwipe, List.map_cons, List.map_nil, List.length_cons, List.length_nil, List.replicate_succ, List.replicate_zero, List.cons_append, List.nil_append, List.set_cons_zero, List.set_cons_succ, List.getElem?_cons_zero, List.getElem?_cons_succ, Nat.reduceAdd, Nat.reduceSub, Option.some.injEq, D.int.injEq, D.bl.injEq, D.str.injEq, D.ref.injEq, D.ty.injEq, D.tup.injEq, D.lst.injEq, D.rls.injEq, RO.lst.injEq, List.cons.injEq, exists_and_left, exists_eq_left', exists_eq_left, and_true, true_and, put_same, put_put, at0, at1, at2, ix30, ix31, ix32, and_assoc, dLcF, dLc, dLcT, dIRng1, dIRng2, dIRng3, dIStr, dITup, dILst, dYes, if_true, Bool.false_eq_true, if_false, eqS_ii, neS_ii, eqS_ss, neS_ss, decide_eq_true_eq, sq_tup, sq_lst, sq_rls, lo_lst, lo_rls, tr_lst, isi_tt, isi_st, isi_nt, isi_bt, isi_it, isi_lt, isi_ts, isi_ss, isi_ns, isi_bs, isi_is, isi_ls, List.append_nil, sz0, sz1, sz2, sz3, sz4, sz5, sz6, sl0, sl1, sl2, ty_put, ty_str, lo_put, sq_put, tr_put, reduceCtorEq, false_and, and_false, exists_false, or_false, false_or, Bool.not_false, Bool.not_true, List.isEmpty_nil, List.isEmpty_cons, app1_empty, dSortSetW, dSortSetI, dCallGL, dCallC]
  exact ⟨d, rfl, hg, fun _ => finX h, fun z => by rw [hp] at z; cases z⟩
def spLaw : DSp := fun ds R Q _ => ∃ ns : List Int, ds = [.rls (ns.map D.int)] ∧ ns.length ≤ 63 ∧ ∀ R', Q (.bl true) R'
abbrev scr (ns : List Int) : Option D := some (.rls (ns.map D.int))
abbrev nms (xs : List Str) : Option D := some (.lst (xs.map D.str))
def W0 (ns : List Int) (s' : DSt) (R' : Rs) : Prop := ∃ j1 j2 j3 j4 j5 j6 j7 j8 j9 j10 j11 j12 j13 j14 j15 j16 : Option D, s' = [scr ns, j1, j2, j3, j4, j5, j6, j7, j8, j9, j10, j11, j12, j13, j14, j15, j16]
def M1 (ns : List Int) (b : Addr) (s' : DSt) (R' : Rs) : Prop := Bag 0 R' b ∧ ∃ j1 j3 j4 j5 j6 j7 j8 j9 j10 j11 j12 j13 j14 j15 j16 : Option D, s' = [scr ns, j1, some (.ref b), j3, j4, j5, j6, j7, j8, j9, j10, j11, j12, j13, j14, j15, j16]
def M2 (ns : List Int) (b : Addr) (xs : List Str) (n : Nat) (s' : DSt) (R' : Rs) : Prop := Bag n R' b ∧ ∃ j1 j4 j5 j6 j7 j8 j9 j10 j11 j12 j13 j14 j15 j16 : Option D, s' = [scr ns, j1, some (.ref b), nms xs, j4, j5, j6, j7, j8, j9, j10, j11, j12, j13, j14, j15, j16]
def M5 (ns : List Int) (b : Addr) (xs : List Str) (n : Nat) (d : D) (c e : Addr) (s : WkS) (s' : DSt) (R' : Rs) : Prop := Bag n R' b ∧ WkAt R' c e s ∧ b ≠ c ∧ b ≠ e ∧ ∃ j1 j4 j8 j9 j10 j11 j12 j13 j14 j15 j16 : Option D, s' = [scr ns, j1, some (.ref b), nms xs, j4, some d, some (.ref c), some (.ref e), j8, j9, j10, j11, j12, j13, j14, j15, j16]
def M7 (ns : List Int) (b : Addr) (xs : List Str) (n : Nat) (d : D) (c e : Addr) (r : Wk) (s' : DSt) (R' : Rs) : Prop := Bag n R' b ∧ WkAt R' c e r.1 ∧ b ≠ c ∧ b ≠ e ∧ ∃ j1 j4 j10 j11 j12 j13 j14 j15 j16 : Option D, s' = [scr ns, j1, some (.ref b), nms xs, j4, some d, some (.ref c), some (.ref e), some (natD r.2.1), some (natD r.2.2), j10, j11, j12, j13, j14, j15, j16]
def M9 (ns : List Int) (b : Addr) (xs : List Str) (n : Nat) (d : D) (s' : DSt) (R' : Rs) : Prop := Bag n R' b ∧ ∃ j1 j4 j6 j7 j8 j11 j12 j13 j14 j15 j16 : Option D, s' = [scr ns, j1, some (.ref b), nms xs, j4, some d, j6, j7, j8, some (natD (mchP d).2.2), some (.lst (stepsD (mchP d).1)), j11, j12, j13, j14, j15, j16]
def M12 (ns : List Int) (b : Addr) (xs : List Str) (n : Nat) (d : D) (p1 p2 : Addr) (s' : DSt) (R' : Rs) : Prop := Bag n R' b ∧ (∃ l, R' p1 = some (.lst l) ∧ l.length ≤ 1000) ∧ (∃ l, R' p2 = some (.lst l)) ∧ b ≠ p1 ∧ b ≠ p2 ∧ p1 ≠ p2 ∧ ∃ j1 j4 j6 j7 j8 j13 j14 j15 j16 : Option D, s' = [scr ns, j1, some (.ref b), nms xs, j4, some d, j6, j7, j8, some (natD (mchP d).2.2), some (.lst (stepsD (mchP d).1)), some (.ref p1), some (.ref p2), j13, j14, j15, j16]
def M12b (ns : List Int) (b : Addr) (xs : List Str) (n : Nat) (d : D) (p2 : Addr) (s' : DSt) (R' : Rs) : Prop := Bag n R' b ∧ (∃ l, R' p2 = some (.lst l)) ∧ b ≠ p2 ∧ ∃ j1 j4 j6 j7 j8 j11 j13 j14 j15 j16 : Option D, s' = [scr ns, j1, some (.ref b), nms xs, j4, some d, j6, j7, j8, some (natD (mchP d).2.2), some (.lst (stepsD (mchP d).1)), j11, some (.ref p2), j13, j14, j15, j16]
theorem Bag.put {n : Nat} {R : Rs} {b p : Addr} {o : RO} (h : Bag n R b) (hn : b ≠ p) : Bag n (DL.put R p o) b := by
  obtain ⟨x, y, z, e, r⟩ := h
  exact ⟨x, y, z, by rw [put_ne hn]; exact e, r⟩
theorem Bag.ne {n : Nat} {R : Rs} {b p : Addr} (h : Bag n R b) (hp : R p = none) : b ≠ p := by
  rintro rfl
  obtain ⟨x, y, z, e, r⟩ := h
  rw [hp] at e; cases e
def oddL : List D := [.non, .tup [], .str "a", .tup [.str "one", .str "A"], .tup [.str "many", .str "a"], .lst [.str "one", .str "a"], .tup [.str "any", .tup [.tup [.str "one", .str "a"]]], .tup [.str "one", .str "other"]]
theorem odd_ok : ∀ x ∈ oddL, gdB x = true ∧ patB x = false ∧ Sm 6 60 (.lst [x]) := by
  have st : ∀ y : Str, PyData.strOk y = true → y.length ≤ 6 → Sm 1 6 (.str y) := fun y h1 h2 => Sm.str h1 h2
  intro x hx
  unfold oddL at hx
  simp only [List.mem_cons, List.not_mem_nil, or_false] at hx
  have one : ∀ {x : D}, Sm 5 50 x → Sm 6 60 (.lst [x]) := fun h => Sm.lst (h := 5) ((Sms.cons (w' := 0) h Sms.nil).mono (Nat.le_refl _) (by omega))
  have two : ∀ {x y : Str} , PyData.strOk x = true ∧ x.length ≤ 6 → PyData.strOk y = true ∧ y.length ≤ 6 → Sm 2 14 (.tup [.str x, .str y]) := fun {x y} h1 h2 => Sm.tup (h := 1) (Sms.cons (w := 6) (w' := 7) (Sm.str h1.1 h1.2) (Sms.cons (w := 6) (w' := 0) (Sm.str h2.1 h2.2) Sms.nil))
  rcases hx with rfl | rfl | rfl | rfl | rfl | rfl | rfl | rfl
  · exact ⟨by decide +kernel, by decide +kernel, one (Sm.non.mono (h := 1) (w := 1) (by omega) (by omega))⟩
  · exact ⟨by decide +kernel, by decide +kernel, one ((Sm.tup (h := 1) Sms.nil).mono (w := 0) (by omega) (by omega))⟩
  · exact ⟨by decide +kernel, by decide +kernel, one ((st "a" (by decide +kernel) (by decide +kernel)).mono (by omega) (by omega))⟩
  · exact ⟨by decide +kernel, by decide +kernel, one ((two (by decide +kernel) (by decide +kernel)).mono (by omega) (by omega))⟩
  · exact ⟨by decide +kernel, by decide +kernel, one ((two (by decide +kernel) (by decide +kernel)).mono (by omega) (by omega))⟩
  · exact ⟨by decide +kernel, by decide +kernel, one ((Sm.lst (h := 1) (Sms.cons (w := 6) (w' := 7) (st "one" (by decide +kernel) (by decide +kernel)) (Sms.cons (w := 6) (w' := 0) (st "a" (by decide +kernel) (by decide +kernel)) Sms.nil))).mono (by omega) (by omega))⟩
  · refine ⟨by decide +kernel, by decide +kernel, one ((Sm.tup (h := 3) (w := 23) ((Sms.cons (w := 6) (w' := 16) ((st "any" (by decide +kernel) (by decide +kernel)).mono (h' := 3) (by omega) (Nat.le_refl _)) (Sms.cons (w := 15) (w' := 0) (Sm.tup (h := 2) (Sms.cons (w' := 0) (two (by decide +kernel) (by decide +kernel)) Sms.nil)) Sms.nil)).mono (Nat.le_refl _) (by omega))).mono (by omega) (by omega))⟩
  · exact ⟨by decide +kernel, by decide +kernel, one ((two (by decide +kernel) (by decide +kernel)).mono (by omega) (by omega))⟩
theorem stepsF_ok {d : D} {R : Rs} {Q : DK} {E : DXK} (hP : patB d = true) (hg : gdB d = true) (q : Q (.lst (stepsD (mchP d).1)) R) : frz1 (spStepsF pC) [d] R Q E :=
  frz1_ok (fun Q' h => ⟨d, rfl, hg, (fun z => by rw [hP] at z; cases z), fun _ => h⟩) q
theorem endsF_ok {d : D} {R : Rs} {Q : DK} {E : DXK} (hP : patB d = true) (hg : gdB d = true) (q : Q (natD (mchP d).2.2) R) : frz1 (spEnds pC) [d] R Q E :=
  frz1_ok (fun Q' h => ⟨d, rfl, hg, (fun z => by rw [hP] at z; cases z), fun _ => h⟩) q
theorem sortZ {Z : List Nat} (hz : Z.Pairwise (· < ·)) {ys : List Int} (h1 : ys.Pairwise (· < ·)) (h2 : ∀ k : Int, k ∈ ys ↔ k ∈ Z.map fun n => ((n : Nat) : Int)) : D.lst (ys.map D.int) = natD Z := by
  have e : ys = Z.map fun n => ((n : Nat) : Int) := by
    refine asc_uniq h1 ?_ h2
    rw [List.pairwise_map]
    exact hz.imp fun h => by omega
  rw [e]
  unfold natD
  rw [List.map_map]; rfl
theorem ok_law {c PP : Addr} (F : FunC K "law" "law" s_law f fd c) (Z : Blt mg bl) (t_law : TabOk K mg base c PP fun _ _ => q_law) (c_law_bag : Cal P w K mg base 1 "_law_bag" spBag) (c_law_take : Cal P w K mg base 1 "_law_take" spTake) (c_law_names : Cal P w K mg base 2 "_law_names" spNames) (c_law_pattern : Cal P w K mg base 8 "_law_pattern" (spPattern 6)) (c_law_walked : Cal P w K mg base 8 "_law_walked" (spWalked 7)) (c_steps : CalX P w K mg base 19 "steps" (spStepsF pC)) (c_ends : CalX P w K mg base 19 "ends" (spEnds pC))
    (lam_law_0 : ∀ cl, LamC P w K mg base 20 (lamC q_law e_law_0 cl) n_law_0 (spOdd pC)) (lam_law_1 : ∀ cl, LamC P w K mg base 20 (lamC q_law e_law_1 cl) n_law_1 (spOdd pC)) (c_law_refused : ∀ (L : Lam) (fr : List Str) (dl : CSp), LamC P w K mg base 20 L fr dl → CalL P w K mg base 21 "_law_refused" L.cl fr (spRefused pC L dl)) : FnG P w K mg base CX0 22 f fd ["_law_script"] (spOf K spLaw) := by
  refine okDC F sc_law (fun ds R Q E h => by obtain ⟨ns, rfl, _⟩ := h; rfl) fun A outer s H E gd hr => ?_
  refine ⟨_, (dss_cons (ds_for PassesOwn.never rfl (di_range1 (by rfl) (Z _ (by decide)) (de_callB (cd_max2 rfl) (by rfl) (Z _ (by decide)) bt_max (da_cons de_int (da_cons (de_callB (cd_min2 rfl) (by rfl) (Z _ (by decide)) bt_min (da_cons de_int (da_cons (de_callB cd_len (by rfl) (Z _ (by decide)) bt_len (da_cons (dv 0) da_nil)) da_nil))) da_nil)))) (dg_name (i := 1) sc_law.nd rfl (.inl rfl)) (dss_cut (ds_asg (de_c c_law_bag gd hr (by omega) (by rfl) (da_cons (dv 0) (da_cons (dv 1) da_nil))) (dg_name (i := 2) sc_law.nd rfl (.inl rfl)))
      (dss_cut (ds_asg (de_c c_law_names gd hr (by omega) (by rfl) (da_cons (dv 2) (da_cons (de_op od_add de_int (de_c c_law_take gd hr (by omega) (by rfl) (da_cons (dv 2) (da_cons de_int da_nil)))) da_nil))) (dg_name (i := 3) sc_law.nd rfl (.inl rfl)))
      (dss_cons (ds_for PassesOwn.never rfl (di_range1 (by rfl) (Z _ (by decide)) de_int) (dg_name (i := 4) sc_law.nd rfl (.inl rfl)) (dss_cut (ds_asg (de_tup (da_cons (de_c c_law_pattern gd hr (by omega) (by rfl) (da_cons (dv 2) (da_cons (dv 3) (da_cons (de_op od_add de_int (de_c c_law_take gd hr (by omega) (by rfl) (da_cons (dv 2) (da_cons de_int da_nil)))) da_nil)))) (da_cons (de_lst da_nil) (da_cons (de_lst da_nil) da_nil)))) (dg_tup (n := 3) rfl (dgs_cons (dg_name (i := 5) sc_law.nd rfl (.inl rfl)) (dgs_cons (dg_name (i := 6) sc_law.nd rfl (.inr rfl)) (dgs_cons (dg_name (i := 7) sc_law.nd rfl (.inl rfl)) dgs_nil)))))
        (dss_one (ds_if (dt_cmp od_lt (de_callB cd_lenS (by rfl) (Z _ (by decide)) bt_len (da_cons (de_callB (cd_repr gd hr) (by rfl) (Z _ (by decide)) bt_repr (da_cons (dv 5) da_nil)) da_nil)) de_int (nomark _)) (dss_cut (ds_asg (de_c c_law_walked gd hr (by omega) (by rfl) (da_cons (dv 5) (da_cons (dv 6) (da_cons (dv 7) da_nil)))) (dg_tup (n := 2) rfl (dgs_cons (dg_name (i := 8) sc_law.nd rfl (.inl rfl)) (dgs_cons (dg_name (i := 9) sc_law.nd rfl (.inl rfl)) dgs_nil))))
          (dss_cut (ds_expr (de_bm PySem.F.plainAttrs_list PySem.F.slot_list_extend PySem.F.type_list_extend md_extend (dv 7) (da_cons (de_lcF (own := [("_law_place", 14)]) rfl sc_law.nd (lcd (di_list (dv 8)) (blkOk_by (N := n_law) (sc := defScope s_law) (by decide +kernel)) (fun _ _ _ _ _ => (dgw_name (i := 14) sc_law.nd rfl (.inl rfl))) (fun _ _ _ _ _ => dts_nil) (fun _ _ _ _ _ => (de_tup (da_cons de_int (da_cons (dv 14) da_nil)))))) da_nil)))
          (dss_cut (ds_asg (de_sortSetW rfl (hu64 hr) (by rfl) (Z _ (by decide)) (by rfl) (Z _ (by decide)) (de_lcF (own := [("_law_one", 15), ("_law_two", 16)]) rfl sc_law.nd (lcd (di_list (dv 7)) (blkOk_by (N := n_law) (sc := defScope s_law) (by decide +kernel)) (fun _ _ _ _ _ => (dgw_tup (n := 2) rfl (dgsw_cons (dgw_name (i := 15) sc_law.nd rfl (.inl rfl)) (dgsw_cons (dgw_name (i := 16) sc_law.nd rfl (.inl rfl)) dgsw_nil)))) (fun _ _ _ _ _ => dts_nil) (fun _ _ _ _ _ => (de_tup (da_cons (dv 15) (da_cons (dv 16) (da_cons (de_ix xd_seq (dv 6) (de_op od_sub (dv 16) de_int) (fun _ _ => rfl)) da_nil)))))))) (dg_name (i := 10) sc_law.nd rfl (.inl rfl)))
          (dss_cut (ds_if (dw_or (dt_cmp od_neS (de_callB (cd_repr gd hr) (by rfl) (Z _ (by decide)) bt_repr (da_cons (de_cX c_steps.frz1 gd hr (by omega) takesNo (by rfl) (da_cons (dv 5) da_nil)) da_nil)) (de_callB (cd_repr gd hr) (by rfl) (Z _ (by decide)) bt_repr (da_cons (dv 10) da_nil)) (nomark _)) (dw_or1 (dt_cmp od_neS (de_callB (cd_repr gd hr) (by rfl) (Z _ (by decide)) bt_repr (da_cons (de_cX c_ends.frz1 gd hr (by omega) takesNo (by rfl) (da_cons (dv 5) da_nil)) da_nil)) (de_callB (cd_repr gd hr) (by rfl) (Z _ (by decide)) bt_repr (da_cons (de_sortSetI rfl (by rfl) (Z _ (by decide)) (by rfl) (Z _ (by decide)) (dv 9)) da_nil)) (nomark _)))).dt (dss_one (ds_ret de_bl)) dss_nil)
          (dss_cut (ds_par (i := 11) (j := 12) rfl sc_law.nd rfl rfl (by decide) rfl rfl (da_cons (de_cX c_steps gd hr (by omega) takesNo (by rfl) (da_cons (dv 5) da_nil)) (da_cons (de_cX c_ends gd hr (by omega) takesNo (by rfl) (da_cons (dv 5) da_nil)) da_nil)) rfl)
          (dss_cut (ds_expr (de_bm PySem.F.plainAttrs_list PySem.F.slot_list_append PySem.F.type_list_append md_append (dv 11) (da_cons de_non da_nil)))
          (dss_cut (ds_expr (de_bm0 PySem.F.plainAttrs_list PySem.F.slot_list_clear PySem.F.type_list_clear md_clear (dv 12)))
          (dss_one (ds_if (dw_or (dt_cmp (od_neD hr.units) (de_cX c_steps.frz1 gd hr (by omega) takesNo (by rfl) (da_cons (dv 5) da_nil)) (dv 10) (nomark _)) (dw_or1 (dt_cmp (od_neD hr.units) (de_cX c_ends.frz1 gd hr (by omega) takesNo (by rfl) (da_cons (dv 5) da_nil)) (de_sortSetI rfl (by rfl) (Z _ (by decide)) (by rfl) (Z _ (by decide)) (dv 9)) (nomark _)))).dt (dss_one (ds_ret de_bl)) dss_nil))))))))) dss_nil))))
      (dss_cut (ds_asg (de_lstF (da_cons de_non (da_cons (de_tup da_nil) (da_cons de_str (da_cons (de_tup (da_cons de_str (da_cons de_str da_nil))) (da_cons (de_tup (da_cons de_str (da_cons de_str da_nil))) (da_cons (de_lstF (da_cons de_str (da_cons de_str da_nil))) (da_cons (de_tup (da_cons de_str (da_cons (de_tup (da_cons (de_tup (da_cons de_str (da_cons de_str da_nil))) da_nil)) da_nil))) (da_cons (de_tup (da_cons de_str (da_cons de_str da_nil))) da_nil))))))))) (dg_name (i := 11) sc_law.nd rfl (.inl rfl)))
      (dss_one (ds_for PassesOwn.never rfl (di_list (dv 11)) (dg_name (i := 13) sc_law.nd rfl (.inr rfl)) (dss_cons (ds_if (dt_cmp od_neS (de_callB (cd_repr gd hr) (by rfl) (Z _ (by decide)) bt_repr (da_cons (de_callGL (js := [13]) (fr := ["_law_odd"]) (fun ok => NdefX.Caps.made (scope := lamSc e_law_0) ok (NdefX.ndef_free nd_law_0) (NdefX.ndef_fr nd_law_0) rfl) (c_law_refused _ _ _ (lam_law_0 _)) gd hr (by omega) takesNo (by rfl) (da_cons (de_lam ⟨⟨_, t_law.tb, rfl⟩, t_law.on, t_law.tc⟩ (by first | rfl | decide +kernel)) da_nil)) da_nil)) (de_callB (cd_repr gd hr) (by rfl) (Z _ (by decide)) bt_repr (da_cons (de_lstF (da_cons (dv 13) da_nil)) da_nil)) (nomark _)) (dss_one (ds_ret de_bl)) dss_nil)
        (dss_one (ds_if (dt_cmp od_neS (de_callB (cd_repr gd hr) (by rfl) (Z _ (by decide)) bt_repr (da_cons (de_callGL (js := [13]) (fr := ["_law_odd"]) (fun ok => NdefX.Caps.made (scope := lamSc e_law_1) ok (NdefX.ndef_free nd_law_1) (NdefX.ndef_fr nd_law_1) rfl) (c_law_refused _ _ _ (lam_law_1 _)) gd hr (by omega) takesNo (by rfl) (da_cons (de_lam ⟨⟨_, t_law.tb, rfl⟩, t_law.on, t_law.tc⟩ (by first | rfl | decide +kernel)) da_nil)) da_nil)) (de_callB (cd_repr gd hr) (by rfl) (Z _ (by decide)) bt_repr (da_cons (de_lstF (da_cons (dv 13) da_nil)) da_nil)) (nomark _)) (dss_one (ds_ret de_bl)) dss_nil))))))))))
    (dss_one (ds_ret de_bl))), fun ds R Qd Ed h => ?_⟩
  obtain ⟨ns, rfl, hl, q⟩ := h
  simp only [dFor, dSeq, dGetK, rdInK, dGetT, dInT, rdSetK, dNewK, dDcF, dDc2F, dIEnum, dIZip, dISeq, dStar, dCont, dBrk, dOrT, rdInC, dCallK, dCVal, dMeth, dFld, dSetF, dNewF, dNew0F, dDisp, dPairs, dGet2, dGIndex, DL.keyOf, DL.keysOf, dCallL, dLam, dJoin, dJs, dFmtS, dRepl, dRaise, dCallX, dDelTail, dAugL, dXF, dAsg, dIf, dIfS, dB, dAnd, dOr, dNot, dAndV, dOrV, dNotV, dChain, dOp, dUn, dVar, dC, rdI0, rdI, dCB, dCall, rd1, dCons, dNil, dgName, dgSub, dgTup, dgLst, dSortSet, dgCons, dgNil, rdSetL, dRet, dLst, dLstF, dTup, dDrop, dNext, dPar, dBM, dBM0, dSl, dPart, dNoPart, dstart, dwipe, List.map_cons, List.map_nil, List.length_cons, List.length_nil, List.replicate_succ, List.replicate_zero, List.cons_append, List.nil_append, List.set_cons_zero, List.set_cons_succ, List.getElem?_cons_zero, List.getElem?_cons_succ, Nat.reduceAdd, Nat.reduceSub, Option.some.injEq, D.int.injEq, D.bl.injEq, D.str.injEq, D.ref.injEq, D.ty.injEq, D.tup.injEq, D.lst.injEq, D.rls.injEq, RO.lst.injEq, List.cons.injEq, exists_and_left, exists_eq_left', exists_eq_left, and_true, true_and, put_same, put_put, at0, at1, at2, ix30, ix31, ix32, and_assoc, dLcF, dLc, dLcT, dIRng1, dIRng2, dIRng3, dIStr, dITup, dILst, dYes, if_true, Bool.false_eq_true, if_false, eqS_ii, neS_ii, eqS_ss, neS_ss, decide_eq_true_eq, sq_tup, sq_lst, sq_rls, lo_lst, lo_rls, tr_lst, isi_tt, isi_st, isi_nt, isi_bt, isi_it, isi_lt, isi_ts, isi_ss, isi_ns, isi_bs, isi_is, isi_ls, List.append_nil, sz0, sz1, sz2, sz3, sz4, sz5, sz6, sl0, sl1, sl2, ty_put, ty_str, lo_put, sq_put, tr_put, reduceCtorEq, false_and, and_false, exists_false, or_false, false_or, Bool.not_false, Bool.not_true, List.isEmpty_nil, List.isEmpty_cons, app1_empty, dSortSetW, dSortSetI, dCallGL, dCallC]
  rw [List.length_map]
  obtain ⟨n, en, hn⟩ : ∃ n : Nat, (if (if (ns.length : Int) < 2 then (ns.length : Int) else 2) > 1 then (if (ns.length : Int) < 2 then (ns.length : Int) else 2) else 1) = n ∧ n ≤ 2 := by
    by_cases h2 : (ns.length : Int) < 2
    · rw [if_pos h2]
      by_cases h1 : (ns.length : Int) > 1
      · exact ⟨ns.length, by rw [if_pos h1], by omega⟩
      · exact ⟨1, by rw [if_neg h1]; rfl, by decide⟩
    · rw [if_neg h2]
      exact ⟨2, by rw [if_pos (by decide)]; rfl, by decide⟩
  refine ⟨n, en, by omega, fun _ => W0 ns, ⟨_, _, _, _, _, _, _, _, _, _, _, _, _, _, _, _, rfl⟩, fun _ _ _ _ _ => trivial, ?_, fun s R _ => fin (q R)⟩
  rintro i x s' R' hx ⟨j1, j2, j3, j4, j5, j6, j7, j8, j9, j10, j11, j12, j13, j14, j15, j16, rfl⟩
  obtain ⟨rfl, hi⟩ := range_step hx
  refine (show dCut _ _ _ _ _ from ?_)
  refine ⟨fun s' R' => ∃ b, M1 ns b s' R', ?_, ?_⟩
  · simp only [dSeq, dGetK, rdInK, dGetT, dInT, rdSetK, dNewK, dDcF, dDc2F, dIEnum, dIZip, dISeq, dStar, dCont, dBrk, dOrT, rdInC, dCallK, dCVal, dMeth, dFld, dSetF, dNewF, dNew0F, dDisp, dPairs, dGet2, dGIndex, DL.keyOf, DL.keysOf, dCallL, dLam, dJoin, dJs, dFmtS, dRepl, dRaise, dCallX, dDelTail, dAugL, dXF, dAsg, dIf, dIfS, dB, dAnd, dOr, dNot, dAndV, dOrV, dNotV, dChain, dOp, dUn, dVar, dC, rdI0, rdI, dCB, dCall, rd1, dCons, dNil, dgName, dgSub, dgTup, dgLst, dSortSet, dgCons, dgNil, rdSetL, dRet, dLst, dLstF, dTup, dDrop, dNext, dPar, dBM, dBM0, dSl, dPart, dNoPart, dstart, dwipe, List.map_cons, List.map_nil, List.length_cons, List.length_nil, List.replicate_succ, List.replicate_zero, List.cons_append, List.nil_append, List.set_cons_zero, List.set_cons_succ, List.getElem?_cons_zero, List.getElem?_cons_succ, Nat.reduceAdd, Nat.reduceSub, Option.some.injEq, D.int.injEq, D.bl.injEq, D.str.injEq, D.ref.injEq, D.ty.injEq, D.tup.injEq, D.lst.injEq, D.rls.injEq, RO.lst.injEq, List.cons.injEq, exists_and_left, exists_eq_left', exists_eq_left, and_true, true_and, put_same, put_put, at0, at1, at2, ix30, ix31, ix32, and_assoc, dLcF, dLc, dLcT, dIRng1, dIRng2, dIRng3, dIStr, dITup, dILst, dYes, if_true, Bool.false_eq_true, if_false, eqS_ii, neS_ii, eqS_ss, neS_ss, decide_eq_true_eq, sq_tup, sq_lst, sq_rls, lo_lst, lo_rls, tr_lst, isi_tt, isi_st, isi_nt, isi_bt, isi_it, isi_lt, isi_ts, isi_ss, isi_ns, isi_bs, isi_is, isi_ls, List.append_nil, sz0, sz1, sz2, sz3, sz4, sz5, sz6, sl0, sl1, sl2, ty_put, ty_str, lo_put, sq_put, tr_put, reduceCtorEq, false_and, and_false, exists_false, or_false, false_or, Bool.not_false, Bool.not_true, List.isEmpty_nil, List.isEmpty_cons, app1_empty, dSortSetW, dSortSetI, dCallGL, dCallC]
    exact ⟨ns, i, rfl, by omega, by omega, fun b o hb hB => ⟨b, hB, _, _, _, _, _, _, _, _, _, _, _, _, _, _, _, rfl⟩⟩
  rintro s1 R1 ⟨b, hB, j1, j3, j4, j5, j6, j7, j8, j9, j10, j11, j12, j13, j14, j15, j16, rfl⟩
  refine (show dCut _ _ _ _ _ from ?_)
  refine ⟨fun s' R' => ∃ xs : List Str, xs ≠ [] ∧ xs.length ≤ 4 ∧ (∀ x ∈ xs, nmB x = true) ∧ M2 ns b xs 10 s' R', ?_, ?_⟩
  · simp only [dSeq, dGetK, rdInK, dGetT, dInT, rdSetK, dNewK, dDcF, dDc2F, dIEnum, dIZip, dISeq, dStar, dCont, dBrk, dOrT, rdInC, dCallK, dCVal, dMeth, dFld, dSetF, dNewF, dNew0F, dDisp, dPairs, dGet2, dGIndex, DL.keyOf, DL.keysOf, dCallL, dLam, dJoin, dJs, dFmtS, dRepl, dRaise, dCallX, dDelTail, dAugL, dXF, dAsg, dIf, dIfS, dB, dAnd, dOr, dNot, dAndV, dOrV, dNotV, dChain, dOp, dUn, dVar, dC, rdI0, rdI, dCB, dCall, rd1, dCons, dNil, dgName, dgSub, dgTup, dgLst, dSortSet, dgCons, dgNil, rdSetL, dRet, dLst, dLstF, dTup, dDrop, dNext, dPar, dBM, dBM0, dSl, dPart, dNoPart, dstart, dwipe, List.map_cons, List.map_nil, List.length_cons, List.length_nil, List.replicate_succ, List.replicate_zero, List.cons_append, List.nil_append, List.set_cons_zero, List.set_cons_succ, List.getElem?_cons_zero, List.getElem?_cons_succ, Nat.reduceAdd, Nat.reduceSub, Option.some.injEq, D.int.injEq, D.bl.injEq, D.str.injEq, D.ref.injEq, D.ty.injEq, D.tup.injEq, D.lst.injEq, D.rls.injEq, RO.lst.injEq, List.cons.injEq, exists_and_left, exists_eq_left', exists_eq_left, and_true, true_and, put_same, put_put, at0, at1, at2, ix30, ix31, ix32, and_assoc, dLcF, dLc, dLcT, dIRng1, dIRng2, dIRng3, dIStr, dITup, dILst, dYes, if_true, Bool.false_eq_true, if_false, eqS_ii, neS_ii, eqS_ss, neS_ss, decide_eq_true_eq, sq_tup, sq_lst, sq_rls, lo_lst, lo_rls, tr_lst, isi_tt, isi_st, isi_nt, isi_bt, isi_it, isi_lt, isi_ts, isi_ss, isi_ns, isi_bs, isi_is, isi_ls, List.append_nil, sz0, sz1, sz2, sz3, sz4, sz5, sz6, sl0, sl1, sl2, ty_put, ty_str, lo_put, sq_put, tr_put, reduceCtorEq, false_and, and_false, exists_false, or_false, false_or, Bool.not_false, Bool.not_true, List.isEmpty_nil, List.isEmpty_cons, app1_empty, dSortSetW, dSortSetI, dCallGL, dCallC]
    refine take_ok hB (by omega) (by decide) (by decide) fun v o h0 h1 hB1 => ?_
    obtain ⟨v, rfl⟩ := Int.eq_ofNat_of_zero_le h0
    refine ⟨v, rfl, b, 1 + v, _, by rw [Int.natCast_add]; rfl, hB1, by omega, by decide, fun xs o2 hl2 hxs _ hB2 => ⟨xs, (fun e => by rw [e] at hl2; have : 0 = 1 + v := hl2; omega), by omega, fun x hx => (hxs x hx).1, ?_⟩⟩
    rw [put_put] at hB2 ⊢
    exact ⟨hB2.mono (by omega), _, _, _, _, _, _, _, _, _, _, _, _, _, _, rfl⟩
  clear hB
  rintro s2 R2 ⟨xs, hx0, hxl, hxs, hB, j1, j4, j5, j6, j7, j8, j9, j10, j11, j12, j13, j14, j15, j16, rfl⟩
  simp only [dFor, dSeq, dGetK, rdInK, dGetT, dInT, rdSetK, dNewK, dDcF, dDc2F, dIEnum, dIZip, dISeq, dStar, dCont, dBrk, dOrT, rdInC, dCallK, dCVal, dMeth, dFld, dSetF, dNewF, dNew0F, dDisp, dPairs, dGet2, dGIndex, DL.keyOf, DL.keysOf, dCallL, dLam, dJoin, dJs, dFmtS, dRepl, dRaise, dCallX, dDelTail, dAugL, dXF, dAsg, dIf, dIfS, dB, dAnd, dOr, dNot, dAndV, dOrV, dNotV, dChain, dOp, dUn, dVar, dC, rdI0, rdI, dCB, dCall, rd1, dCons, dNil, dgName, dgSub, dgTup, dgLst, dSortSet, dgCons, dgNil, rdSetL, dRet, dLst, dLstF, dTup, dDrop, dNext, dPar, dBM, dBM0, dSl, dPart, dNoPart, dstart, dwipe, List.map_cons, List.map_nil, List.length_cons, List.length_nil, List.replicate_succ, List.replicate_zero, List.cons_append, List.nil_append, List.set_cons_zero, List.set_cons_succ, List.getElem?_cons_zero, List.getElem?_cons_succ, Nat.reduceAdd, Nat.reduceSub, Option.some.injEq, D.int.injEq, D.bl.injEq, D.str.injEq, D.ref.injEq, D.ty.injEq, D.tup.injEq, D.lst.injEq, D.rls.injEq, RO.lst.injEq, List.cons.injEq, exists_and_left, exists_eq_left', exists_eq_left, and_true, true_and, put_same, put_put, at0, at1, at2, ix30, ix31, ix32, and_assoc, dLcF, dLc, dLcT, dIRng1, dIRng2, dIRng3, dIStr, dITup, dILst, dYes, if_true, Bool.false_eq_true, if_false, eqS_ii, neS_ii, eqS_ss, neS_ss, decide_eq_true_eq, sq_tup, sq_lst, sq_rls, lo_lst, lo_rls, tr_lst, isi_tt, isi_st, isi_nt, isi_bt, isi_it, isi_lt, isi_ts, isi_ss, isi_ns, isi_bs, isi_is, isi_ls, List.append_nil, sz0, sz1, sz2, sz3, sz4, sz5, sz6, sl0, sl1, sl2, ty_put, ty_str, lo_put, sq_put, tr_put, reduceCtorEq, false_and, and_false, exists_false, or_false, false_or, Bool.not_false, Bool.not_true, List.isEmpty_nil, List.isEmpty_cons, app1_empty, dSortSetW, dSortSetI, dCallGL, dCallC]
  refine ⟨12, rfl, by decide, fun i s' R' => M2 ns b xs (10 + 300 * i) s' R', ⟨hB, _, _, _, _, _, _, _, _, _, _, _, _, _, _, rfl⟩, fun _ _ _ _ _ => trivial, ?_, ?_⟩
  · clear hB
    rintro t x s' R' hx ⟨hB, j1, j4, j5, j6, j7, j8, j9, j10, j11, j12, j13, j14, j15, j16, rfl⟩
    obtain ⟨rfl, ht⟩ := range_step hx
    refine (show dCut _ _ _ _ _ from ?_)
    refine ⟨fun s' R' => ∃ (d : D) (k : Nat) (c e : Addr), k ≤ 3 ∧ isN (k + 1) d = true ∧ M5 ns b xs (10 + 300 * (t + 1)) d c e ([], []) s' R', ?_, ?_⟩
    · simp only [dSeq, dGetK, rdInK, dGetT, dInT, rdSetK, dNewK, dDcF, dDc2F, dIEnum, dIZip, dISeq, dStar, dCont, dBrk, dOrT, rdInC, dCallK, dCVal, dMeth, dFld, dSetF, dNewF, dNew0F, dDisp, dPairs, dGet2, dGIndex, DL.keyOf, DL.keysOf, dCallL, dLam, dJoin, dJs, dFmtS, dRepl, dRaise, dCallX, dDelTail, dAugL, dXF, dAsg, dIf, dIfS, dB, dAnd, dOr, dNot, dAndV, dOrV, dNotV, dChain, dOp, dUn, dVar, dC, rdI0, rdI, dCB, dCall, rd1, dCons, dNil, dgName, dgSub, dgTup, dgLst, dSortSet, dgCons, dgNil, rdSetL, dRet, dLst, dLstF, dTup, dDrop, dNext, dPar, dBM, dBM0, dSl, dPart, dNoPart, dstart, dwipe, List.map_cons, List.map_nil, List.length_cons, List.length_nil, List.replicate_succ, List.replicate_zero, List.cons_append, List.nil_append, List.set_cons_zero, List.set_cons_succ, List.getElem?_cons_zero, List.getElem?_cons_succ, Nat.reduceAdd, Nat.reduceSub, Option.some.injEq, D.int.injEq, D.bl.injEq, D.str.injEq, D.ref.injEq, D.ty.injEq, D.tup.injEq, D.lst.injEq, D.rls.injEq, RO.lst.injEq, List.cons.injEq, exists_and_left, exists_eq_left', exists_eq_left, and_true, true_and, put_same, put_put, at0, at1, at2, ix30, ix31, ix32, and_assoc, dLcF, dLc, dLcT, dIRng1, dIRng2, dIRng3, dIStr, dITup, dILst, dYes, if_true, Bool.false_eq_true, if_false, eqS_ii, neS_ii, eqS_ss, neS_ss, decide_eq_true_eq, sq_tup, sq_lst, sq_rls, lo_lst, lo_rls, tr_lst, isi_tt, isi_st, isi_nt, isi_bt, isi_it, isi_lt, isi_ts, isi_ss, isi_ns, isi_bs, isi_is, isi_ls, List.append_nil, sz0, sz1, sz2, sz3, sz4, sz5, sz6, sl0, sl1, sl2, ty_put, ty_str, lo_put, sq_put, tr_put, reduceCtorEq, false_and, and_false, exists_false, or_false, false_or, Bool.not_false, Bool.not_true, List.isEmpty_nil, List.isEmpty_cons, app1_empty, dSortSetW, dSortSetI, dCallGL, dCallC]
      refine take_ok hB (by omega) (by decide) (by decide) fun v o h0 h1 hB2 => ?_
      obtain ⟨v, rfl⟩ := Int.eq_ofNat_of_zero_le h0
      have ev : 4 ^ (v + 1) ≤ 4 ^ 4 := Nat.pow_le_pow_right (by decide) (by omega)
      have e4 : 4 ^ 4 = 256 := rfl
      refine ⟨v, rfl, b, xs, v, _, by rw [show ((1 : Int) + v) = ((v + 1 : Nat) : Int) by omega], by omega, by omega, hB2, by omega, hx0, by omega, hxs, fun d o3 hd _ hB3 => ?_⟩
      rw [put_put] at hB3 ⊢
      have hB4 := hB3.mono (m := 10 + 300 * (t + 1)) (by omega)
      refine fun p1 hp1 p2 hp2 => ?_
      have b1 := hB4.ne hp1
      have hB5 := hB4.put (o := .lst []) b1
      have b2 := hB5.ne hp2
      have n12 : p1 ≠ p2 := by rintro rfl; rw [put_same] at hp2; cases hp2
      exact ⟨d, v, by omega, hd, p1, p2, hB5.put b2, ⟨by rw [put_ne n12, put_same]; rfl, put_same, n12⟩, b1, b2, _, _, _, _, _, _, _, _, _, _, _, rfl⟩
    clear hB
    rintro s3 R3 ⟨d, k, c, e, hk, hd, hB, hat, hbc, hbe, j1, j4, j8, j9, j10, j11, j12, j13, j14, j15, j16, rfl⟩
    obtain ⟨h6, hc6⟩ := upC hd (n := 6) (by omega)
    have hsm := isN_sm k hd
    have hw : wN k ≤ wN 3 := by
      have : ∀ k, k ≤ 3 → wN k ≤ wN 3 := by decide
      exact this k hk
    have hw3 : wN 3 = 1190 := by decide
    have hge := shown_ge (k + 1) hd
    simp only [dSeq, dGetK, rdInK, dGetT, dInT, rdSetK, dNewK, dDcF, dDc2F, dIEnum, dIZip, dISeq, dStar, dCont, dBrk, dOrT, rdInC, dCallK, dCVal, dMeth, dFld, dSetF, dNewF, dNew0F, dDisp, dPairs, dGet2, dGIndex, DL.keyOf, DL.keysOf, dCallL, dLam, dJoin, dJs, dFmtS, dRepl, dRaise, dCallX, dDelTail, dAugL, dXF, dAsg, dIf, dIfS, dB, dAnd, dOr, dNot, dAndV, dOrV, dNotV, dChain, dOp, dUn, dVar, dC, rdI0, rdI, dCB, dCall, rd1, dCons, dNil, dgName, dgSub, dgTup, dgLst, dSortSet, dgCons, dgNil, rdSetL, dRet, dLst, dLstF, dTup, dDrop, dNext, dPar, dBM, dBM0, dSl, dPart, dNoPart, dstart, dwipe, List.map_cons, List.map_nil, List.length_cons, List.length_nil, List.replicate_succ, List.replicate_zero, List.cons_append, List.nil_append, List.set_cons_zero, List.set_cons_succ, List.getElem?_cons_zero, List.getElem?_cons_succ, Nat.reduceAdd, Nat.reduceSub, Option.some.injEq, D.int.injEq, D.bl.injEq, D.str.injEq, D.ref.injEq, D.ty.injEq, D.tup.injEq, D.lst.injEq, D.rls.injEq, RO.lst.injEq, List.cons.injEq, exists_and_left, exists_eq_left', exists_eq_left, and_true, true_and, put_same, put_put, at0, at1, at2, ix30, ix31, ix32, and_assoc, dLcF, dLc, dLcT, dIRng1, dIRng2, dIRng3, dIStr, dITup, dILst, dYes, if_true, Bool.false_eq_true, if_false, eqS_ii, neS_ii, eqS_ss, neS_ss, decide_eq_true_eq, sq_tup, sq_lst, sq_rls, lo_lst, lo_rls, tr_lst, isi_tt, isi_st, isi_nt, isi_bt, isi_it, isi_lt, isi_ts, isi_ss, isi_ns, isi_bs, isi_is, isi_ls, List.append_nil, sz0, sz1, sz2, sz3, sz4, sz5, sz6, sl0, sl1, sl2, ty_put, ty_str, lo_put, sq_put, tr_put, reduceCtorEq, false_and, and_false, exists_false, or_false, false_or, Bool.not_false, Bool.not_true, List.isEmpty_nil, List.isEmpty_cons, app1_empty, dSortSetW, dSortSetI, dCallGL, dCallC]
    refine ⟨_, hsm.asPy, hsm.r1 (by omega), hsm.r2 (by omega), hsm.r3 (by omega) (by omega), hsm.r3 (by omega) (by omega), ?_⟩
    by_cases hlen : ((d.py.shown.length : Nat) : Int) < 200
    rotate_left
    · exact iteF hlen ⟨hB, _, _, _, _, _, _, _, _, _, _, _, _, _, _, rfl⟩
    refine iteT hlen ?_
    rw [← hc6] at hge
    have hcl : (clsN 6 d).length ≤ 12 := by omega
    have hP : patB d = true := by unfold patB; rw [h6, decide_eq_true hcl]; rfl
    have hgd := isN_gd 6 h6
    have ok := wk_ok 6 h6 hcl ([], [])
    have oa := ok.a; have ob := ok.b; have of := ok.f; have oz := ok.z
    have oa : (wkP 6 d ([], [])).1.1.length = 0 + (clsN 6 d).length := oa
    have ob : (wkP 6 d ([], [])).1.2.length ≤ 0 + 12 * (6 * (clsN 6 d).length) := ob
    obtain ⟨wnm, wed, wfz⟩ := wk_mch h6
    have hpos := wk_pos 6 h6 ([], []) (fun p hp => by cases hp)
    obtain ⟨hmo, hml⟩ := mch_ok h6
    have hasc := mch_asc h6
    have hnm := wk_nm 6 h6 ([], []) (fun x hx => by cases hx)
    have hrd := rd_nm wnm hnm
    have hst16 : ∀ e ∈ stepsN (mchP d).1, e.1 < 16 ∧ e.2 < 16 := fun e he => by
      have h1 := steps_in.mp (show (e.1, e.2) ∈ _ from he)
      refine ⟨?_, ?_⟩
      · by_cases ha : e.1 < (mchP d).1.length
        · omega
        · rw [aft_out (by omega)] at h1; cases h1
      · have := aft_lt hmo h1; omega
    have sms := sm_steps (mchP d).1 hrd hst16
    have shs := show_steps (mchP d).1 hst16
    have hsl : (stepsN (mchP d).1).length ≤ 169 := by
      have h1 : (stepsD (mchP d).1).length ≤ (mchP d).1.length * (mchP d).1.length := steps_len hmo (mchP d).1.length
      have h2 : (mchP d).1.length * (mchP d).1.length ≤ 13 * 13 := Nat.mul_le_mul (by omega) (by omega)
      rw [stepsD_N, List.length_map] at h1
      omega
    have hz16 : ∀ x ∈ (mchP d).2.2, x < 16 := fun x hx => by
      have := ((add_ok 6 h6 m00 m00_ok).z x hx).2
      have h2 := (add_ok 6 h6 m00 m00_ok).len
      have h3 : m00.length = 1 := rfl
      omega
    have hzl : (mchP d).2.2.length ≤ 12 := Nat.le_trans (add_ok 6 h6 m00 m00_ok).zl hcl
    have smz := sm_natD hz16
    generalize hr0 : wkP 6 d ([], []) = r at *
    refine (show dCut _ _ _ _ _ from ?_)
    refine ⟨M7 ns b xs (10 + 300 * (t + 1)) d c e r, ?_, ?_⟩
    · simp only [dSeq, dGetK, rdInK, dGetT, dInT, rdSetK, dNewK, dDcF, dDc2F, dIEnum, dIZip, dISeq, dStar, dCont, dBrk, dOrT, rdInC, dCallK, dCVal, dMeth, dFld, dSetF, dNewF, dNew0F, dDisp, dPairs, dGet2, dGIndex, DL.keyOf, DL.keysOf, dCallL, dLam, dJoin, dJs, dFmtS, dRepl, dRaise, dCallX, dDelTail, dAugL, dXF, dAsg, dIf, dIfS, dB, dAnd, dOr, dNot, dAndV, dOrV, dNotV, dChain, dOp, dUn, dVar, dC, rdI0, rdI, dCB, dCall, rd1, dCons, dNil, dgName, dgSub, dgTup, dgLst, dSortSet, dgCons, dgNil, rdSetL, dRet, dLst, dLstF, dTup, dDrop, dNext, dPar, dBM, dBM0, dSl, dPart, dNoPart, dstart, dwipe, List.map_cons, List.map_nil, List.length_cons, List.length_nil, List.replicate_succ, List.replicate_zero, List.cons_append, List.nil_append, List.set_cons_zero, List.set_cons_succ, List.getElem?_cons_zero, List.getElem?_cons_succ, Nat.reduceAdd, Nat.reduceSub, Option.some.injEq, D.int.injEq, D.bl.injEq, D.str.injEq, D.ref.injEq, D.ty.injEq, D.tup.injEq, D.lst.injEq, D.rls.injEq, RO.lst.injEq, List.cons.injEq, exists_and_left, exists_eq_left', exists_eq_left, and_true, true_and, put_same, put_put, at0, at1, at2, ix30, ix31, ix32, and_assoc, dLcF, dLc, dLcT, dIRng1, dIRng2, dIRng3, dIStr, dITup, dILst, dYes, if_true, Bool.false_eq_true, if_false, eqS_ii, neS_ii, eqS_ss, neS_ss, decide_eq_true_eq, sq_tup, sq_lst, sq_rls, lo_lst, lo_rls, tr_lst, isi_tt, isi_st, isi_nt, isi_bt, isi_it, isi_lt, isi_ts, isi_ss, isi_ns, isi_bs, isi_is, isi_ls, List.append_nil, sz0, sz1, sz2, sz3, sz4, sz5, sz6, sl0, sl1, sl2, ty_put, ty_str, lo_put, sq_put, tr_put, reduceCtorEq, false_and, and_false, exists_false, or_false, false_or, Bool.not_false, Bool.not_true, List.isEmpty_nil, List.isEmpty_cons, app1_empty, dSortSetW, dSortSetI, dCallGL, dCallC]
      refine ⟨d, c, e, ([], []), 6, rfl, by decide, by decide, h6, hcl, hat, by show 0 + _ ≤ 100; omega, by show 0 + _ ≤ 5000; omega, _, rfl, rfl, _, _, rfl, _, _, rfl, rfl, ?_⟩
      rw [hr0]
      exact ⟨(hB.put hbc).put hbe, WkAt.put hat.ne, hbc, hbe, _, _, _, _, _, _, _, _, _, rfl⟩
    clear hB hat hbc hbe
    rintro s4 R4 ⟨hB, hat, hbc, hbe, j1, j4, j10, j11, j12, j13, j14, j15, j16, rfl⟩
    refine (show dCut _ _ _ _ _ from ?_)
    refine ⟨M7 ns b xs (10 + 300 * (t + 1)) d c e ((r.1.1, r.1.2 ++ r.2.1.map fun p => (0, p)), r.2), ?_, ?_⟩
    · simp only [dSeq, dGetK, rdInK, dGetT, dInT, rdSetK, dNewK, dDcF, dDc2F, dIEnum, dIZip, dISeq, dStar, dCont, dBrk, dOrT, rdInC, dCallK, dCVal, dMeth, dFld, dSetF, dNewF, dNew0F, dDisp, dPairs, dGet2, dGIndex, DL.keyOf, DL.keysOf, dCallL, dLam, dJoin, dJs, dFmtS, dRepl, dRaise, dCallX, dDelTail, dAugL, dXF, dAsg, dIf, dIfS, dB, dAnd, dOr, dNot, dAndV, dOrV, dNotV, dChain, dOp, dUn, dVar, dC, rdI0, rdI, dCB, dCall, rd1, dCons, dNil, dgName, dgSub, dgTup, dgLst, dSortSet, dgCons, dgNil, rdSetL, dRet, dLst, dLstF, dTup, dDrop, dNext, dPar, dBM, dBM0, dSl, dPart, dNoPart, dstart, dwipe, List.map_cons, List.map_nil, List.length_cons, List.length_nil, List.replicate_succ, List.replicate_zero, List.cons_append, List.nil_append, List.set_cons_zero, List.set_cons_succ, List.getElem?_cons_zero, List.getElem?_cons_succ, Nat.reduceAdd, Nat.reduceSub, Option.some.injEq, D.int.injEq, D.bl.injEq, D.str.injEq, D.ref.injEq, D.ty.injEq, D.tup.injEq, D.lst.injEq, D.rls.injEq, RO.lst.injEq, List.cons.injEq, exists_and_left, exists_eq_left', exists_eq_left, and_true, true_and, put_same, put_put, at0, at1, at2, ix30, ix31, ix32, and_assoc, dLcF, dLc, dLcT, dIRng1, dIRng2, dIRng3, dIStr, dITup, dILst, dYes, if_true, Bool.false_eq_true, if_false, eqS_ii, neS_ii, eqS_ss, neS_ss, decide_eq_true_eq, sq_tup, sq_lst, sq_rls, lo_lst, lo_rls, tr_lst, isi_tt, isi_st, isi_nt, isi_bt, isi_it, isi_lt, isi_ts, isi_ss, isi_ns, isi_bs, isi_is, isi_ls, List.append_nil, sz0, sz1, sz2, sz3, sz4, sz5, sz6, sl0, sl1, sl2, ty_put, ty_str, lo_put, sq_put, tr_put, reduceCtorEq, false_and, and_false, exists_false, or_false, false_or, Bool.not_false, Bool.not_true, List.isEmpty_nil, List.isEmpty_cons, app1_empty, dSortSetW, dSortSetI, dCallGL, dCallC]
      refine ⟨.inl ⟨rfl, _, hat.he⟩, _, .inl ⟨rfl, by rw [List.length_map]; simp only [sizeLine]; omega, PvM r.2.1 (fun p => .tup [.int 0, .int (p : Nat)]) R4, ⟨rfl, rfl⟩, fun _ _ _ _ _ => trivial, ?_, ?_⟩⟩
      · rintro i2 x2 acc R2 hx2 hlk hP
        obtain ⟨g, rfl, hg, hgi, hgt⟩ := take_step (c := fun n => D.int (n : Nat)) hx2
        have go := PvM.go (g := fun p : Nat => D.tup [.int 0, .int (p : Nat)]) (R := R4) hgt
        obtain ⟨rfl, rfl⟩ := hP
        exact go
      · rintro acc R2 hlk hP
        obtain ⟨rfl, rfl⟩ := hP.end (by rw [List.length_map])
        refine ⟨_, hat.he, by unfold prsD; rw [List.length_map, List.length_map]; simp only [sizeLine]; omega, hB.put hbe, ⟨?_, ?_, hat.ne⟩, hbc, hbe, _, _, _, _, _, _, _, _, _, rfl⟩
        · rw [put_ne hat.ne]; exact hat.hc
        · rw [put_same]
          unfold prsD
          rw [List.map_append, List.map_map]; rfl
    clear hB hat hbc hbe
    rintro s5 R5 ⟨hB, hat, hbc, hbe, j1, j4, j10, j11, j12, j13, j14, j15, j16, rfl⟩
    refine (show dCut _ _ _ _ _ from ?_)
    refine ⟨M9 ns b xs (10 + 300 * (t + 1)) d, ?_, ?_⟩
    · simp only [dSeq, dGetK, rdInK, dGetT, dInT, rdSetK, dNewK, dDcF, dDc2F, dIEnum, dIZip, dISeq, dStar, dCont, dBrk, dOrT, rdInC, dCallK, dCVal, dMeth, dFld, dSetF, dNewF, dNew0F, dDisp, dPairs, dGet2, dGIndex, DL.keyOf, DL.keysOf, dCallL, dLam, dJoin, dJs, dFmtS, dRepl, dRaise, dCallX, dDelTail, dAugL, dXF, dAsg, dIf, dIfS, dB, dAnd, dOr, dNot, dAndV, dOrV, dNotV, dChain, dOp, dUn, dVar, dC, rdI0, rdI, dCB, dCall, rd1, dCons, dNil, dgName, dgSub, dgTup, dgLst, dSortSet, dgCons, dgNil, rdSetL, dRet, dLst, dLstF, dTup, dDrop, dNext, dPar, dBM, dBM0, dSl, dPart, dNoPart, dstart, dwipe, List.map_cons, List.map_nil, List.length_cons, List.length_nil, List.replicate_succ, List.replicate_zero, List.cons_append, List.nil_append, List.set_cons_zero, List.set_cons_succ, List.getElem?_cons_zero, List.getElem?_cons_succ, Nat.reduceAdd, Nat.reduceSub, Option.some.injEq, D.int.injEq, D.bl.injEq, D.str.injEq, D.ref.injEq, D.ty.injEq, D.tup.injEq, D.lst.injEq, D.rls.injEq, RO.lst.injEq, List.cons.injEq, exists_and_left, exists_eq_left', exists_eq_left, and_true, true_and, put_same, put_put, at0, at1, at2, ix30, ix31, ix32, and_assoc, dLcF, dLc, dLcT, dIRng1, dIRng2, dIRng3, dIStr, dITup, dILst, dYes, if_true, Bool.false_eq_true, if_false, eqS_ii, neS_ii, eqS_ss, neS_ss, decide_eq_true_eq, sq_tup, sq_lst, sq_rls, lo_lst, lo_rls, tr_lst, isi_tt, isi_st, isi_nt, isi_bt, isi_it, isi_lt, isi_ts, isi_ss, isi_ns, isi_bs, isi_is, isi_ls, List.append_nil, sz0, sz1, sz2, sz3, sz4, sz5, sz6, sl0, sl1, sl2, ty_put, ty_str, lo_put, sq_put, tr_put, reduceCtorEq, false_and, and_false, exists_false, or_false, false_or, Bool.not_false, Bool.not_true, List.isEmpty_nil, List.isEmpty_cons, app1_empty, dSortSetW, dSortSetI, dCallGL, dCallC]
      have hpl : (r.1.2 ++ r.2.1.map fun p => (0, p)).length ≤ 900 := by rw [List.length_append, List.length_map]; omega
      have hin : ∀ a b, (a, b) ∈ (r.1.2 ++ r.2.1.map fun p => (0, p)) → a < (mchP d).1.length ∧ 1 ≤ b ∧ b < (mchP d).1.length := fun a b hab => by
        have h1 := (wed a b).mp hab
        refine ⟨?_, ?_, aft_lt hmo h1⟩
        · by_cases ha : a < (mchP d).1.length
          · exact ha
          · rw [aft_out (by omega)] at h1; cases h1
        · rcases List.mem_append.mp hab with z | z
          · exact hpos.1 _ z
          · obtain ⟨q, hq, e⟩ := List.mem_map.mp z
            cases e; exact hpos.2 _ hq
      generalize (r.1.2 ++ r.2.1.map fun p => (0, p)) = ps at *
      refine ⟨_, hat.he, by unfold prsD; rw [List.length_map]; simp only [sizeLine]; omega, PvM ps (fun e => stepD (mchP d).1 e.1 e.2) R5, ⟨rfl, rfl⟩, fun i acc R h hP => by rw [hP.1]; exact hat.he, ?_, ?_⟩
      · rintro i2 x2 acc R2 hx2 hlk hP
        obtain ⟨⟨a, g⟩, rfl, hg, hgi, hgt⟩ := take_step (c := fun e : Nat × Nat => D.tup [.int (e.1 : Nat), .int (e.2 : Nat)]) hx2
        obtain ⟨ha, hg1, hg2⟩ := hin a g hg
        have go := PvM.go (g := fun e : Nat × Nat => stepD (mchP d).1 e.1 e.2) (R := R5) hgt
        obtain ⟨rfl, rfl⟩ := hP
        exact ⟨_, rfl, rfl, _, _, rfl, _, _, rfl, rfl, _, rfl, _, sq_ref hat.hc, _, rd_of wnm hg1 hg2, go⟩
      · rintro acc R2 hlk hP
        obtain ⟨rfl, rfl⟩ := hP.end (by unfold prsD; rw [List.length_map])
        refine ⟨ps.map (keyS (mchP d).1), by rw [List.map_map]; rfl, (List.range 13).flatMap fun a => (List.range 13).map fun b => keyS (mchP d).1 (a, b), fun k hk => ?_, by rw [show ((List.range 13).flatMap fun a => (List.range 13).map fun b => keyS (mchP d).1 (a, b)).length = 169 from by simp [List.length_flatMap]; decide]; decide, ?_, .inl ?_, ?_, fun L nd mem pw => ?_⟩
        · obtain ⟨⟨a, g⟩, hag, rfl⟩ := List.mem_map.mp hk
          obtain ⟨ha, hg1, hg2⟩ := hin a g hag
          exact List.mem_flatMap.mpr ⟨a, List.mem_range.mpr (by omega), List.mem_map.mpr ⟨g, List.mem_range.mpr (by omega), rfl⟩⟩
        · intro x hx y hy
          rw [List.map_map] at hx hy
          obtain ⟨a, _, rfl⟩ := List.mem_map.mp hx
          obtain ⟨b2, _, rfl⟩ := List.mem_map.mp hy
          simp [keyS_P, PySem.W.alike, PySem.W.alikeAll]
        · intro x hx
          rw [List.map_map] at hx
          obtain ⟨a, _, rfl⟩ := List.mem_map.mp hx
          exact ⟨_, _, rfl⟩
        · intro k hk
          obtain ⟨a, _, rfl⟩ := List.mem_map.mp hk
          rw [keyS_P]
          simp [PyData.depth, PyData.depthAll]
        · rw [due_eq hasc.2.2 wed nd mem pw, wfz]
          exact ⟨hB, _, _, _, _, _, _, _, _, _, _, _, rfl⟩
    clear hB hat
    rintro s6 R6 ⟨hB, j1, j4, j6, j7, j8, j11, j12, j13, j14, j15, j16, rfl⟩
    refine (show dCut _ _ _ _ _ from ?_)
    refine ⟨M9 ns b xs (10 + 300 * (t + 1)) d, ?_, ?_⟩
    · simp only [dSeq, dGetK, rdInK, dGetT, dInT, rdSetK, dNewK, dDcF, dDc2F, dIEnum, dIZip, dISeq, dStar, dCont, dBrk, dOrT, rdInC, dCallK, dCVal, dMeth, dFld, dSetF, dNewF, dNew0F, dDisp, dPairs, dGet2, dGIndex, DL.keyOf, DL.keysOf, dCallL, dLam, dJoin, dJs, dFmtS, dRepl, dRaise, dCallX, dDelTail, dAugL, dXF, dAsg, dIf, dIfS, dB, dAnd, dOr, dNot, dAndV, dOrV, dNotV, dChain, dOp, dUn, dVar, dC, rdI0, rdI, dCB, dCall, rd1, dCons, dNil, dgName, dgSub, dgTup, dgLst, dSortSet, dgCons, dgNil, rdSetL, dRet, dLst, dLstF, dTup, dDrop, dNext, dPar, dBM, dBM0, dSl, dPart, dNoPart, dstart, dwipe, List.map_cons, List.map_nil, List.length_cons, List.length_nil, List.replicate_succ, List.replicate_zero, List.cons_append, List.nil_append, List.set_cons_zero, List.set_cons_succ, List.getElem?_cons_zero, List.getElem?_cons_succ, Nat.reduceAdd, Nat.reduceSub, Option.some.injEq, D.int.injEq, D.bl.injEq, D.str.injEq, D.ref.injEq, D.ty.injEq, D.tup.injEq, D.lst.injEq, D.rls.injEq, RO.lst.injEq, List.cons.injEq, exists_and_left, exists_eq_left', exists_eq_left, and_true, true_and, put_same, put_put, at0, at1, at2, ix30, ix31, ix32, and_assoc, dLcF, dLc, dLcT, dIRng1, dIRng2, dIRng3, dIStr, dITup, dILst, dYes, if_true, Bool.false_eq_true, if_false, eqS_ii, neS_ii, eqS_ss, neS_ss, decide_eq_true_eq, sq_tup, sq_lst, sq_rls, lo_lst, lo_rls, tr_lst, isi_tt, isi_st, isi_nt, isi_bt, isi_it, isi_lt, isi_ts, isi_ss, isi_ns, isi_bs, isi_is, isi_ls, List.append_nil, sz0, sz1, sz2, sz3, sz4, sz5, sz6, sl0, sl1, sl2, ty_put, ty_str, lo_put, sq_put, tr_put, reduceCtorEq, false_and, and_false, exists_false, or_false, false_or, Bool.not_false, Bool.not_true, List.isEmpty_nil, List.isEmpty_cons, app1_empty, dSortSetW, dSortSetI, dCallGL, dCallC]
      refine stepsF_ok hP hgd ⟨_, sms.asPy, shs, sms.r2 (by omega), sms.r3B (by omega) (by omega), _, sms.asPy, shs, sms.r2 (by omega), sms.r3B (by omega) (by omega), iteF (by simp) (endsF_ok hP hgd ⟨_, smz.asPy, smz.r1 (by omega), smz.r2 (by omega), smz.r3 (by omega) (by omega), (mchP d).2.2.map (fun n => ((n : Nat) : Int)), by simp [lstOf, natD], by rw [List.length_map]; omega, _, fun k hk => hk, by rw [List.length_map]; omega, fun ys h1 h2 => ?_⟩)⟩
      rw [sortZ hasc.2.1 h1 h2]
      exact ⟨_, smz.asPy, smz.r1 (by omega), smz.r2 (by omega), smz.r3 (by omega) (by omega), iteF (by simp) ⟨hB, _, _, _, _, _, _, _, _, _, _, _, rfl⟩⟩
    clear hB
    rintro s7 R7 ⟨hB, j1, j4, j6, j7, j8, j11, j12, j13, j14, j15, j16, rfl⟩
    refine (show dCut _ _ _ _ _ from ?_)
    refine ⟨fun s' R' => ∃ p1 p2, M12 ns b xs (10 + 300 * (t + 1)) d p1 p2 s' R', ?_, ?_⟩
    · simp only [dSeq, dGetK, rdInK, dGetT, dInT, rdSetK, dNewK, dDcF, dDc2F, dIEnum, dIZip, dISeq, dStar, dCont, dBrk, dOrT, rdInC, dCallK, dCVal, dMeth, dFld, dSetF, dNewF, dNew0F, dDisp, dPairs, dGet2, dGIndex, DL.keyOf, DL.keysOf, dCallL, dLam, dJoin, dJs, dFmtS, dRepl, dRaise, dCallX, dDelTail, dAugL, dXF, dAsg, dIf, dIfS, dB, dAnd, dOr, dNot, dAndV, dOrV, dNotV, dChain, dOp, dUn, dVar, dC, rdI0, rdI, dCB, dCall, rd1, dCons, dNil, dgName, dgSub, dgTup, dgLst, dSortSet, dgCons, dgNil, rdSetL, dRet, dLst, dLstF, dTup, dDrop, dNext, dPar, dBM, dBM0, dSl, dPart, dNoPart, dstart, dwipe, List.map_cons, List.map_nil, List.length_cons, List.length_nil, List.replicate_succ, List.replicate_zero, List.cons_append, List.nil_append, List.set_cons_zero, List.set_cons_succ, List.getElem?_cons_zero, List.getElem?_cons_succ, Nat.reduceAdd, Nat.reduceSub, Option.some.injEq, D.int.injEq, D.bl.injEq, D.str.injEq, D.ref.injEq, D.ty.injEq, D.tup.injEq, D.lst.injEq, D.rls.injEq, RO.lst.injEq, List.cons.injEq, exists_and_left, exists_eq_left', exists_eq_left, and_true, true_and, put_same, put_put, at0, at1, at2, ix30, ix31, ix32, and_assoc, dLcF, dLc, dLcT, dIRng1, dIRng2, dIRng3, dIStr, dITup, dILst, dYes, if_true, Bool.false_eq_true, if_false, eqS_ii, neS_ii, eqS_ss, neS_ss, decide_eq_true_eq, sq_tup, sq_lst, sq_rls, lo_lst, lo_rls, tr_lst, isi_tt, isi_st, isi_nt, isi_bt, isi_it, isi_lt, isi_ts, isi_ss, isi_ns, isi_bs, isi_is, isi_ls, List.append_nil, sz0, sz1, sz2, sz3, sz4, sz5, sz6, sl0, sl1, sl2, ty_put, ty_str, lo_put, sq_put, tr_put, reduceCtorEq, false_and, and_false, exists_false, or_false, false_or, Bool.not_false, Bool.not_true, List.isEmpty_nil, List.isEmpty_cons, app1_empty, dSortSetW, dSortSetI, dCallGL, dCallC]
      refine ⟨d, rfl, hgd, (fun z => by rw [hP] at z; cases z), fun _ p1 hp1 => ⟨d, rfl, hgd, (fun z => by rw [hP] at z; cases z), fun _ p2 hp2 => ?_⟩⟩
      have b1 := hB.ne hp1
      have hB5 := hB.put (o := .lst (stepsD (mchP d).1)) b1
      have b2 := hB5.ne hp2
      have n12 : p1 ≠ p2 := by rintro rfl; rw [put_same] at hp2; cases hp2
      refine ⟨p1, p2, hB5.put b2, ⟨_, by rw [put_ne n12, put_same], ?_⟩, ⟨_, put_same⟩, b1, b2, n12, _, _, _, _, _, _, _, _, _, rfl⟩
      rw [stepsD_N, List.length_map]; omega
    clear hB
    rintro s8 R8 ⟨p1, p2, hB, ⟨l1, hl1, hll⟩, ⟨l2, hl2⟩, hb1, hb2, h12, j1, j4, j6, j7, j8, j13, j14, j15, j16, rfl⟩
    refine (show dCut _ _ _ _ _ from ?_)
    refine ⟨M12b ns b xs (10 + 300 * (t + 1)) d p2, ?_, ?_⟩
    · simp only [dSeq, dGetK, rdInK, dGetT, dInT, rdSetK, dNewK, dDcF, dDc2F, dIEnum, dIZip, dISeq, dStar, dCont, dBrk, dOrT, rdInC, dCallK, dCVal, dMeth, dFld, dSetF, dNewF, dNew0F, dDisp, dPairs, dGet2, dGIndex, DL.keyOf, DL.keysOf, dCallL, dLam, dJoin, dJs, dFmtS, dRepl, dRaise, dCallX, dDelTail, dAugL, dXF, dAsg, dIf, dIfS, dB, dAnd, dOr, dNot, dAndV, dOrV, dNotV, dChain, dOp, dUn, dVar, dC, rdI0, rdI, dCB, dCall, rd1, dCons, dNil, dgName, dgSub, dgTup, dgLst, dSortSet, dgCons, dgNil, rdSetL, dRet, dLst, dLstF, dTup, dDrop, dNext, dPar, dBM, dBM0, dSl, dPart, dNoPart, dstart, dwipe, List.map_cons, List.map_nil, List.length_cons, List.length_nil, List.replicate_succ, List.replicate_zero, List.cons_append, List.nil_append, List.set_cons_zero, List.set_cons_succ, List.getElem?_cons_zero, List.getElem?_cons_succ, Nat.reduceAdd, Nat.reduceSub, Option.some.injEq, D.int.injEq, D.bl.injEq, D.str.injEq, D.ref.injEq, D.ty.injEq, D.tup.injEq, D.lst.injEq, D.rls.injEq, RO.lst.injEq, List.cons.injEq, exists_and_left, exists_eq_left', exists_eq_left, and_true, true_and, put_same, put_put, at0, at1, at2, ix30, ix31, ix32, and_assoc, dLcF, dLc, dLcT, dIRng1, dIRng2, dIRng3, dIStr, dITup, dILst, dYes, if_true, Bool.false_eq_true, if_false, eqS_ii, neS_ii, eqS_ss, neS_ss, decide_eq_true_eq, sq_tup, sq_lst, sq_rls, lo_lst, lo_rls, tr_lst, isi_tt, isi_st, isi_nt, isi_bt, isi_it, isi_lt, isi_ts, isi_ss, isi_ns, isi_bs, isi_is, isi_ls, List.append_nil, sz0, sz1, sz2, sz3, sz4, sz5, sz6, sl0, sl1, sl2, ty_put, ty_str, lo_put, sq_put, tr_put, reduceCtorEq, false_and, and_false, exists_false, or_false, false_or, Bool.not_false, Bool.not_true, List.isEmpty_nil, List.isEmpty_cons, app1_empty, dSortSetW, dSortSetI, dCallGL, dCallC]
      exact ⟨.inl ⟨rfl, _, hl1⟩, _, hl1, by simp only [sizeLine]; omega, hB.put hb1, ⟨_, by rw [put_ne h12.symm]; exact hl2⟩, hb2, _, _, _, _, _, _, _, _, _, _, rfl⟩
    clear hB hl1 hl2
    rintro s9 R9 ⟨hB, ⟨l2, hl2⟩, hb2, j1, j4, j6, j7, j8, j11, j13, j14, j15, j16, rfl⟩
    refine (show dCut _ _ _ _ _ from ?_)
    refine ⟨M9 ns b xs (10 + 300 * (t + 1)) d, ?_, ?_⟩
    · simp only [dSeq, dGetK, rdInK, dGetT, dInT, rdSetK, dNewK, dDcF, dDc2F, dIEnum, dIZip, dISeq, dStar, dCont, dBrk, dOrT, rdInC, dCallK, dCVal, dMeth, dFld, dSetF, dNewF, dNew0F, dDisp, dPairs, dGet2, dGIndex, DL.keyOf, DL.keysOf, dCallL, dLam, dJoin, dJs, dFmtS, dRepl, dRaise, dCallX, dDelTail, dAugL, dXF, dAsg, dIf, dIfS, dB, dAnd, dOr, dNot, dAndV, dOrV, dNotV, dChain, dOp, dUn, dVar, dC, rdI0, rdI, dCB, dCall, rd1, dCons, dNil, dgName, dgSub, dgTup, dgLst, dSortSet, dgCons, dgNil, rdSetL, dRet, dLst, dLstF, dTup, dDrop, dNext, dPar, dBM, dBM0, dSl, dPart, dNoPart, dstart, dwipe, List.map_cons, List.map_nil, List.length_cons, List.length_nil, List.replicate_succ, List.replicate_zero, List.cons_append, List.nil_append, List.set_cons_zero, List.set_cons_succ, List.getElem?_cons_zero, List.getElem?_cons_succ, Nat.reduceAdd, Nat.reduceSub, Option.some.injEq, D.int.injEq, D.bl.injEq, D.str.injEq, D.ref.injEq, D.ty.injEq, D.tup.injEq, D.lst.injEq, D.rls.injEq, RO.lst.injEq, List.cons.injEq, exists_and_left, exists_eq_left', exists_eq_left, and_true, true_and, put_same, put_put, at0, at1, at2, ix30, ix31, ix32, and_assoc, dLcF, dLc, dLcT, dIRng1, dIRng2, dIRng3, dIStr, dITup, dILst, dYes, if_true, Bool.false_eq_true, if_false, eqS_ii, neS_ii, eqS_ss, neS_ss, decide_eq_true_eq, sq_tup, sq_lst, sq_rls, lo_lst, lo_rls, tr_lst, isi_tt, isi_st, isi_nt, isi_bt, isi_it, isi_lt, isi_ts, isi_ss, isi_ns, isi_bs, isi_is, isi_ls, List.append_nil, sz0, sz1, sz2, sz3, sz4, sz5, sz6, sl0, sl1, sl2, ty_put, ty_str, lo_put, sq_put, tr_put, reduceCtorEq, false_and, and_false, exists_false, or_false, false_or, Bool.not_false, Bool.not_true, List.isEmpty_nil, List.isEmpty_cons, app1_empty, dSortSetW, dSortSetI, dCallGL, dCallC]
      exact ⟨.inl ⟨rfl, _, hl2⟩, _, hl2, hB.put hb2, _, _, _, _, _, _, _, _, _, _, _, rfl⟩
    clear hB hl2
    rintro s10 R10 ⟨hB, j1, j4, j6, j7, j8, j11, j12, j13, j14, j15, j16, rfl⟩
    simp only [dSeq, dGetK, rdInK, dGetT, dInT, rdSetK, dNewK, dDcF, dDc2F, dIEnum, dIZip, dISeq, dStar, dCont, dBrk, dOrT, rdInC, dCallK, dCVal, dMeth, dFld, dSetF, dNewF, dNew0F, dDisp, dPairs, dGet2, dGIndex, DL.keyOf, DL.keysOf, dCallL, dLam, dJoin, dJs, dFmtS, dRepl, dRaise, dCallX, dDelTail, dAugL, dXF, dAsg, dIf, dIfS, dB, dAnd, dOr, dNot, dAndV, dOrV, dNotV, dChain, dOp, dUn, dVar, dC, rdI0, rdI, dCB, dCall, rd1, dCons, dNil, dgName, dgSub, dgTup, dgLst, dSortSet, dgCons, dgNil, rdSetL, dRet, dLst, dLstF, dTup, dDrop, dNext, dPar, dBM, dBM0, dSl, dPart, dNoPart, dstart, dwipe, List.map_cons, List.map_nil, List.length_cons, List.length_nil, List.replicate_succ, List.replicate_zero, List.cons_append, List.nil_append, List.set_cons_zero, List.set_cons_succ, List.getElem?_cons_zero, List.getElem?_cons_succ, Nat.reduceAdd, Nat.reduceSub, Option.some.injEq, D.int.injEq, D.bl.injEq, D.str.injEq, D.ref.injEq, D.ty.injEq, D.tup.injEq, D.lst.injEq, D.rls.injEq, RO.lst.injEq, List.cons.injEq, exists_and_left, exists_eq_left', exists_eq_left, and_true, true_and, put_same, put_put, at0, at1, at2, ix30, ix31, ix32, and_assoc, dLcF, dLc, dLcT, dIRng1, dIRng2, dIRng3, dIStr, dITup, dILst, dYes, if_true, Bool.false_eq_true, if_false, eqS_ii, neS_ii, eqS_ss, neS_ss, decide_eq_true_eq, sq_tup, sq_lst, sq_rls, lo_lst, lo_rls, tr_lst, isi_tt, isi_st, isi_nt, isi_bt, isi_it, isi_lt, isi_ts, isi_ss, isi_ns, isi_bs, isi_is, isi_ls, List.append_nil, sz0, sz1, sz2, sz3, sz4, sz5, sz6, sl0, sl1, sl2, ty_put, ty_str, lo_put, sq_put, tr_put, reduceCtorEq, false_and, and_false, exists_false, or_false, false_or, Bool.not_false, Bool.not_true, List.isEmpty_nil, List.isEmpty_cons, app1_empty, dSortSetW, dSortSetI, dCallGL, dCallC]
    refine stepsF_ok hP hgd (sms.neSelf (by omega) ⟨_, rfl, iteF (by decide) (endsF_ok hP hgd ⟨(mchP d).2.2.map (fun n => ((n : Nat) : Int)), by simp [lstOf, natD], by rw [List.length_map]; omega, _, fun k hk => hk, by rw [List.length_map]; omega, fun ys h1 h2 => ?_⟩)⟩)
    rw [sortZ hasc.2.1 h1 h2]
    exact smz.neSelf (by omega) ⟨_, rfl, iteF (by decide) ⟨hB, _, _, _, _, _, _, _, _, _, _, _, _, _, _, rfl⟩⟩
  · rintro s' R' ⟨hB, j1, j4, j5, j6, j7, j8, j9, j10, j11, j12, j13, j14, j15, j16, rfl⟩
    refine (show dCut _ _ _ _ _ from ?_)
    refine ⟨fun s' R' => ∃ j1 j2 j3 j4 j5 j6 j7 j8 j9 j10 j12 j13 j14 j15 j16 : Option D, s' = [scr ns, j1, j2, j3, j4, j5, j6, j7, j8, j9, j10, some (.lst oddL), j12, j13, j14, j15, j16], ?_, ?_⟩
    · simp only [dSeq, dGetK, rdInK, dGetT, dInT, rdSetK, dNewK, dDcF, dDc2F, dIEnum, dIZip, dISeq, dStar, dCont, dBrk, dOrT, rdInC, dCallK, dCVal, dMeth, dFld, dSetF, dNewF, dNew0F, dDisp, dPairs, dGet2, dGIndex, DL.keyOf, DL.keysOf, dCallL, dLam, dJoin, dJs, dFmtS, dRepl, dRaise, dCallX, dDelTail, dAugL, dXF, dAsg, dIf, dIfS, dB, dAnd, dOr, dNot, dAndV, dOrV, dNotV, dChain, dOp, dUn, dVar, dC, rdI0, rdI, dCB, dCall, rd1, dCons, dNil, dgName, dgSub, dgTup, dgLst, dSortSet, dgCons, dgNil, rdSetL, dRet, dLst, dLstF, dTup, dDrop, dNext, dPar, dBM, dBM0, dSl, dPart, dNoPart, dstart, dwipe, List.map_cons, List.map_nil, List.length_cons, List.length_nil, List.replicate_succ, List.replicate_zero, List.cons_append, List.nil_append, List.set_cons_zero, List.set_cons_succ, List.getElem?_cons_zero, List.getElem?_cons_succ, Nat.reduceAdd, Nat.reduceSub, Option.some.injEq, D.int.injEq, D.bl.injEq, D.str.injEq, D.ref.injEq, D.ty.injEq, D.tup.injEq, D.lst.injEq, D.rls.injEq, RO.lst.injEq, List.cons.injEq, exists_and_left, exists_eq_left', exists_eq_left, and_true, true_and, put_same, put_put, at0, at1, at2, ix30, ix31, ix32, and_assoc, dLcF, dLc, dLcT, dIRng1, dIRng2, dIRng3, dIStr, dITup, dILst, dYes, if_true, Bool.false_eq_true, if_false, eqS_ii, neS_ii, eqS_ss, neS_ss, decide_eq_true_eq, sq_tup, sq_lst, sq_rls, lo_lst, lo_rls, tr_lst, isi_tt, isi_st, isi_nt, isi_bt, isi_it, isi_lt, isi_ts, isi_ss, isi_ns, isi_bs, isi_is, isi_ls, List.append_nil, sz0, sz1, sz2, sz3, sz4, sz5, sz6, sl0, sl1, sl2, ty_put, ty_str, lo_put, sq_put, tr_put, reduceCtorEq, false_and, and_false, exists_false, or_false, false_or, Bool.not_false, Bool.not_true, List.isEmpty_nil, List.isEmpty_cons, app1_empty, dSortSetW, dSortSetI, dCallGL, dCallC]
      exact ⟨by decide, rfl, _, rfl⟩
    rintro s3 R3 ⟨j1, j2, j3, j4, j5, j6, j7, j8, j9, j10, j12, j13, j14, j15, j16, rfl⟩
    simp only [dFor, dSeq, dGetK, rdInK, dGetT, dInT, rdSetK, dNewK, dDcF, dDc2F, dIEnum, dIZip, dISeq, dStar, dCont, dBrk, dOrT, rdInC, dCallK, dCVal, dMeth, dFld, dSetF, dNewF, dNew0F, dDisp, dPairs, dGet2, dGIndex, DL.keyOf, DL.keysOf, dCallL, dLam, dJoin, dJs, dFmtS, dRepl, dRaise, dCallX, dDelTail, dAugL, dXF, dAsg, dIf, dIfS, dB, dAnd, dOr, dNot, dAndV, dOrV, dNotV, dChain, dOp, dUn, dVar, dC, rdI0, rdI, dCB, dCall, rd1, dCons, dNil, dgName, dgSub, dgTup, dgLst, dSortSet, dgCons, dgNil, rdSetL, dRet, dLst, dLstF, dTup, dDrop, dNext, dPar, dBM, dBM0, dSl, dPart, dNoPart, dstart, dwipe, List.map_cons, List.map_nil, List.length_cons, List.length_nil, List.replicate_succ, List.replicate_zero, List.cons_append, List.nil_append, List.set_cons_zero, List.set_cons_succ, List.getElem?_cons_zero, List.getElem?_cons_succ, Nat.reduceAdd, Nat.reduceSub, Option.some.injEq, D.int.injEq, D.bl.injEq, D.str.injEq, D.ref.injEq, D.ty.injEq, D.tup.injEq, D.lst.injEq, D.rls.injEq, RO.lst.injEq, List.cons.injEq, exists_and_left, exists_eq_left', exists_eq_left, and_true, true_and, put_same, put_put, at0, at1, at2, ix30, ix31, ix32, and_assoc, dLcF, dLc, dLcT, dIRng1, dIRng2, dIRng3, dIStr, dITup, dILst, dYes, if_true, Bool.false_eq_true, if_false, eqS_ii, neS_ii, eqS_ss, neS_ss, decide_eq_true_eq, sq_tup, sq_lst, sq_rls, lo_lst, lo_rls, tr_lst, isi_tt, isi_st, isi_nt, isi_bt, isi_it, isi_lt, isi_ts, isi_ss, isi_ns, isi_bs, isi_is, isi_ls, List.append_nil, sz0, sz1, sz2, sz3, sz4, sz5, sz6, sl0, sl1, sl2, ty_put, ty_str, lo_put, sq_put, tr_put, reduceCtorEq, false_and, and_false, exists_false, or_false, false_or, Bool.not_false, Bool.not_true, List.isEmpty_nil, List.isEmpty_cons, app1_empty, dSortSetW, dSortSetI, dCallGL, dCallC]
    refine ⟨fun _ s' R' => ∃ j1 j2 j3 j4 j5 j6 j7 j8 j9 j10 j12 j13 j14 j15 j16 : Option D, s' = [scr ns, j1, j2, j3, j4, j5, j6, j7, j8, j9, j10, some (.lst oddL), j12, j13, j14, j15, j16], ⟨_, _, _, _, _, _, _, _, _, _, _, _, _, _, _, rfl⟩, fun _ _ _ _ _ => trivial, ?_, ?_⟩
    · rintro i2 x2 s' R' hx2 ⟨j1, j2, j3, j4, j5, j6, j7, j8, j9, j10, j12, j13, j14, j15, j16, rfl⟩
      have hxm := List.mem_of_getElem? hx2
      obtain ⟨hg, hp, hsm⟩ := odd_ok x2 hxm
      refine ⟨rfl, fun Q' E' h1 h2 => ⟨x2, rfl, rfl, hg, hp, h2 x2 _ ⟨_, hsm.asPy, hsm.r1 (by omega), hsm.r2 (by omega), hsm.r3 (by omega) (by omega), _, rfl, _, hsm.asPy, hsm.r1 (by omega), hsm.r2 (by omega), hsm.r3 (by omega) (by omega), iteF (by simp) ?_⟩⟩⟩
      refine ⟨rfl, fun Q' E' h1 h2 => ⟨x2, rfl, rfl, hg, hp, h2 x2 _ ⟨_, hsm.asPy, hsm.r1 (by omega), hsm.r2 (by omega), hsm.r3 (by omega) (by omega), _, rfl, _, hsm.asPy, hsm.r1 (by omega), hsm.r2 (by omega), hsm.r3 (by omega) (by omega), iteF (by simp) ?_⟩⟩⟩
      exact ⟨_, _, _, _, _, _, _, _, _, _, _, _, _, _, _, rfl⟩
    · rintro s' R' ⟨j1, j2, j3, j4, j5, j6, j7, j8, j9, j10, j12, j13, j14, j15, j16, rfl⟩
      exact ⟨_, _, _, _, _, _, _, _, _, _, _, _, _, _, _, _, rfl⟩
end

end Law
end
section
set_option Elab.async false
set_option maxRecDepth 100000
set_option maxHeartbeats 4000000
set_option linter.all false
set_option autoImplicit false
namespace Law
open PySem PySem.Spec PyProof.Rows L2 DL TL TrA TrA.Tr
/-! ### the program's top -/
theorem all_mk {l : PySem.W.OpenLaw} {w : World} {K : PySem.W.Frag} {h : Heap} {mg : Str → Option Value} {fa : Addr} (X : K.In h) (G : h.Ns mainGlobals mg) (hfa : mg "law" = some (.ref fa))
    {tc1 tP1 : Addr}
    {kC1 : Addr}
    {f1 : Addr} {od1 an1 : Option Addr} {sl1 : Array (Option Value)} {oc1 dc1 pm1 ct1 : Value} {kV1 : Value} {cd1 : Value}
    {f2 : Addr} {od2 an2 : Option Addr} {sl2 : Array (Option Value)} {oc2 dc2 pm2 ct2 : Value} {kV2 : Value} {cd2 : Value}
    {f3 : Addr} {od3 an3 : Option Addr} {sl3 : Array (Option Value)} {oc3 dc3 pm3 ct3 : Value} {kV3 : Value} {cd3 : Value}
    {f4 : Addr} {od4 an4 : Option Addr} {sl4 : Array (Option Value)} {oc4 dc4 pm4 ct4 : Value} {kV4 : Value} {cd4 : Value}
    {f5 : Addr} {od5 an5 : Option Addr} {sl5 : Array (Option Value)} {oc5 dc5 pm5 ct5 : Value} {kV5 : Value} {cd5 : Value}
    {f6 : Addr} {od6 an6 : Option Addr} {sl6 : Array (Option Value)} {oc6 dc6 pm6 ct6 : Value} {kV6 : Value} {cd6 : Value}
    {f7 : Addr} {od7 an7 : Option Addr} {sl7 : Array (Option Value)} {oc7 dc7 pm7 ct7 : Value} {kV7 : Value} {cd7 : Value}
    {f8 : Addr} {od8 an8 : Option Addr} {sl8 : Array (Option Value)} {oc8 dc8 pm8 ct8 : Value} {kV8 : Value} {cd8 : Value}
    {f9 : Addr} {od9 an9 : Option Addr} {sl9 : Array (Option Value)} {oc9 dc9 pm9 ct9 : Value} {kV9 : Value} {cd9 : Value}
    {f10 : Addr} {od10 an10 : Option Addr} {sl10 : Array (Option Value)} {oc10 dc10 pm10 ct10 : Value} {kV10 : Value} {cd10 : Value}
    {f11 : Addr} {od11 an11 : Option Addr} {sl11 : Array (Option Value)} {oc11 dc11 pm11 ct11 : Value} {kV11 : Value} {cd11 : Value}
    {f12 : Addr} {od12 an12 : Option Addr} {sl12 : Array (Option Value)} {oc12 dc12 pm12 ct12 : Value} {kV12 : Value} {cd12 : Value}
    {f13 : Addr} {od13 an13 : Option Addr} {sl13 : Array (Option Value)} {oc13 dc13 pm13 ct13 : Value} {kV13 : Value} {cd13 : Value}
    {f14 : Addr} {od14 an14 : Option Addr} {sl14 : Array (Option Value)} {oc14 dc14 pm14 ct14 : Value} {kV14 : Value} {cd14 : Value}
    {f15 : Addr} {od15 an15 : Option Addr} {sl15 : Array (Option Value)} {oc15 dc15 pm15 ct15 : Value} {kV15 : Value} {cd15 : Value}
    {f16 : Addr} {od16 an16 : Option Addr} {sl16 : Array (Option Value)} {oc16 dc16 pm16 ct16 : Value} {kV16 : Value} {cd16 : Value}
    {f17 : Addr} {od17 an17 : Option Addr} {sl17 : Array (Option Value)} {oc17 dc17 pm17 ct17 : Value} {kV17 : Value} {cd17 : Value}
    {f18 : Addr} {od18 an18 : Option Addr} {sl18 : Array (Option Value)} {oc18 dc18 pm18 ct18 : Value} {kV18 : Value} {cd18 : Value}
    {f19 : Addr} {od19 an19 : Option Addr} {sl19 : Array (Option Value)} {oc19 dc19 pm19 ct19 : Value} {kV19 : Value} {cd19 : Value}
    {f20 : Addr} {od20 an20 : Option Addr} {sl20 : Array (Option Value)} {oc20 dc20 pm20 ct20 : Value} {kV20 : Value}
    {gt1 : Tok}
    {gt2 : Tok}
    {ga3 : Addr} {go3 : Option Addr} {gi3 : Array Value} {gn3 : Nat} {gs3 : Array (Option Value)}
    {gt4 : Tok}
    {gt5 : Tok}
    {gt6 : Tok}
    {xC1 xf1 : Addr} {xn1 xq1 : Str} {xN1 : Addr} {xb1 : List Value} {xs1 : List Str} {xu1 : List Value} {xa1 : Bool} {xc1 : Option Bool} {xd1 : Option Addr} {xk1 xl1 xm1 xo1 xp1 : Option Value} {yc1 : Value} {yd1 : Option Addr} {yo1 yp1 : Value} {ya1 : Option Addr} {yv1 yt1 : Value} {ys1 : Array (Option Value)}
    {cC1 : Addr}
    {cC2 : Addr}
    {cC3 : Addr}
    (kA1 : PySem.W.nsIn K mainGlobals "Places" = some (some (.ref kC1)))
    (kP1 : PySem.W.plainGet K kC1 Str.empty = true) (kH1 : PySem.W.hasDictIn K kC1 = true) (kO1 : PySem.W.plainOver K kC1 = true)
    (kS1 : PySem.W.findIn K (.ref kC1) "__setattr__" = some (some (.builtin "object.__setattr__")))
    (kM1 : PySem.W.makesIn K kC1 = true) (kK1 : PySem.W.keepIn K (.ref kC1) = true)
    (kN1_1 : PySem.W.findIn K (.ref kC1) "read" = some none)
    (kN1_2 : PySem.W.findIn K (.ref kC1) "after" = some none)
    (kN1_3 : PySem.W.findIn K (.ref kC1) "starts" = some none)
    (kN1_4 : PySem.W.findIn K (.ref kC1) "ends" = some none)
    (a1 : PySem.W.nsIn K mainGlobals "is_class_name" = some (some (.ref f1)))
    (l1 : K.lookup f1 = some ⟨oc1, od1, .func (PySem.W.fnOf "is_class_name" "is_class_name" (defArgs s_is_class_name) (defBody s_is_class_name) (defScope s_is_class_name) .none kV1 dc1 pm1 an1 cd1 ct1), sl1⟩)
    (c1 : PySem.W.codeIn K cd1 "is_class_name" = true) (k1 : PySem.W.keepIn K (.ref f1) = true)
    (a2 : PySem.W.nsIn K mainGlobals "is_parts" = some (some (.ref f2)))
    (l2 : K.lookup f2 = some ⟨oc2, od2, .func (PySem.W.fnOf "is_parts" "is_parts" (defArgs s_is_parts) (defBody s_is_parts) (defScope s_is_parts) .none kV2 dc2 pm2 an2 cd2 ct2), sl2⟩)
    (c2 : PySem.W.codeIn K cd2 "is_parts" = true) (k2 : PySem.W.keepIn K (.ref f2) = true)
    (a3 : PySem.W.nsIn K mainGlobals "is_nested" = some (some (.ref f3)))
    (l3 : K.lookup f3 = some ⟨oc3, od3, .func (PySem.W.fnOf "is_nested" "is_nested" (defArgs s_is_nested) (defBody s_is_nested) (defScope s_is_nested) .none kV3 dc3 pm3 an3 cd3 ct3), sl3⟩)
    (c3 : PySem.W.codeIn K cd3 "is_nested" = true) (k3 : PySem.W.keepIn K (.ref f3) = true)
    (a4 : PySem.W.nsIn K mainGlobals "classes_in" = some (some (.ref f4)))
    (l4 : K.lookup f4 = some ⟨oc4, od4, .func (PySem.W.fnOf "classes_in" "classes_in" (defArgs s_classes_in) (defBody s_classes_in) (defScope s_classes_in) .none kV4 dc4 pm4 an4 cd4 ct4), sl4⟩)
    (c4 : PySem.W.codeIn K cd4 "classes_in" = true) (k4 : PySem.W.keepIn K (.ref f4) = true)
    (a5 : PySem.W.nsIn K mainGlobals "is_pattern" = some (some (.ref f5)))
    (l5 : K.lookup f5 = some ⟨oc5, od5, .func (PySem.W.fnOf "is_pattern" "is_pattern" (defArgs s_is_pattern) (defBody s_is_pattern) (defScope s_is_pattern) .none kV5 dc5 pm5 an5 cd5 ct5), sl5⟩)
    (c5 : PySem.W.codeIn K cd5 "is_pattern" = true) (k5 : PySem.W.keepIn K (.ref f5) = true)
    (a6 : PySem.W.nsIn K mainGlobals "check_pattern" = some (some (.ref f6)))
    (l6 : K.lookup f6 = some ⟨oc6, od6, .func (PySem.W.fnOf "check_pattern" "check_pattern" (defArgs s_check_pattern) (defBody s_check_pattern) (defScope s_check_pattern) .none kV6 dc6 pm6 an6 cd6 ct6), sl6⟩)
    (c6 : PySem.W.codeIn K cd6 "check_pattern" = true) (k6 : PySem.W.keepIn K (.ref f6) = true)
    (a7 : PySem.W.findIn K (.ref kC1) "link" = some (some (.ref f7))) (i7 : PySem.W.isFn K (.ref f7) = true)
    (l7 : K.lookup f7 = some ⟨oc7, od7, .func (PySem.W.fnOf "link" "Places.link" (defArgs s_Places_link) (defBody s_Places_link) (defScope s_Places_link) .none kV7 dc7 pm7 an7 cd7 ct7), sl7⟩)
    (c7 : PySem.W.codeIn K cd7 "Places.link" = true) (k7 : PySem.W.keepIn K (.ref f7) = true)
    (a8 : PySem.W.findIn K (.ref kC1) "add" = some (some (.ref f8))) (i8 : PySem.W.isFn K (.ref f8) = true)
    (l8 : K.lookup f8 = some ⟨oc8, od8, .func (PySem.W.fnOf "add" "Places.add" (defArgs s_Places_add) (defBody s_Places_add) (defScope s_Places_add) .none kV8 dc8 pm8 an8 cd8 ct8), sl8⟩)
    (c8 : PySem.W.codeIn K cd8 "Places.add" = true) (k8 : PySem.W.keepIn K (.ref f8) = true)
    (a9 : PySem.W.findIn K (.ref kC1) "add_row" = some (some (.ref f9))) (i9 : PySem.W.isFn K (.ref f9) = true)
    (l9 : K.lookup f9 = some ⟨oc9, od9, .func (PySem.W.fnOf "add_row" "Places.add_row" (defArgs s_Places_add_row) (defBody s_Places_add_row) (defScope s_Places_add_row) .none kV9 dc9 pm9 an9 cd9 ct9), sl9⟩)
    (c9 : PySem.W.codeIn K cd9 "Places.add_row" = true) (k9 : PySem.W.keepIn K (.ref f9) = true)
    (a10 : PySem.W.findIn K (.ref kC1) "__init__" = some (some (.ref f10))) (i10 : PySem.W.isFn K (.ref f10) = true)
    (l10 : K.lookup f10 = some ⟨oc10, od10, .func (PySem.W.fnOf "__init__" "Places.__init__" (defArgs s_Places_init) (defBody s_Places_init) (defScope s_Places_init) .none kV10 dc10 pm10 an10 cd10 ct10), sl10⟩)
    (c10 : PySem.W.codeIn K cd10 "Places.__init__" = true) (k10 : PySem.W.keepIn K (.ref f10) = true)
    (a11 : PySem.W.findIn K (.ref kC1) "steps" = some (some (.ref f11))) (i11 : PySem.W.isFn K (.ref f11) = true)
    (l11 : K.lookup f11 = some ⟨oc11, od11, .func (PySem.W.fnOf "steps" "Places.steps" (defArgs s_Places_steps) (defBody s_Places_steps) (defScope s_Places_steps) .none kV11 dc11 pm11 an11 cd11 ct11), sl11⟩)
    (c11 : PySem.W.codeIn K cd11 "Places.steps" = true) (k11 : PySem.W.keepIn K (.ref f11) = true)
    (a12 : PySem.W.nsIn K mainGlobals "steps" = some (some (.ref f12)))
    (l12 : K.lookup f12 = some ⟨oc12, od12, .func (PySem.W.fnOf "steps" "steps" (defArgs s_steps) (defBody s_steps) (defScope s_steps) .none kV12 dc12 pm12 an12 cd12 ct12), sl12⟩)
    (c12 : PySem.W.codeIn K cd12 "steps" = true) (k12 : PySem.W.keepIn K (.ref f12) = true)
    (a13 : PySem.W.nsIn K mainGlobals "ends" = some (some (.ref f13)))
    (l13 : K.lookup f13 = some ⟨oc13, od13, .func (PySem.W.fnOf "ends" "ends" (defArgs s_ends) (defBody s_ends) (defScope s_ends) .none kV13 dc13 pm13 an13 cd13 ct13), sl13⟩)
    (c13 : PySem.W.codeIn K cd13 "ends" = true) (k13 : PySem.W.keepIn K (.ref f13) = true)
    (a14 : PySem.W.nsIn K mainGlobals "_law_bag" = some (some (.ref f14)))
    (l14 : K.lookup f14 = some ⟨oc14, od14, .func (PySem.W.fnOf "_law_bag" "_law_bag" (defArgs s_law_bag) (defBody s_law_bag) (defScope s_law_bag) .none kV14 dc14 pm14 an14 cd14 ct14), sl14⟩)
    (c14 : PySem.W.codeIn K cd14 "_law_bag" = true) (k14 : PySem.W.keepIn K (.ref f14) = true)
    (a15 : PySem.W.nsIn K mainGlobals "_law_take" = some (some (.ref f15)))
    (l15 : K.lookup f15 = some ⟨oc15, od15, .func (PySem.W.fnOf "_law_take" "_law_take" (defArgs s_law_take) (defBody s_law_take) (defScope s_law_take) .none kV15 dc15 pm15 an15 cd15 ct15), sl15⟩)
    (c15 : PySem.W.codeIn K cd15 "_law_take" = true) (k15 : PySem.W.keepIn K (.ref f15) = true)
    (a16 : PySem.W.nsIn K mainGlobals "_law_names" = some (some (.ref f16)))
    (l16 : K.lookup f16 = some ⟨oc16, od16, .func (PySem.W.fnOf "_law_names" "_law_names" (defArgs s_law_names) (defBody s_law_names) (defScope s_law_names) .none kV16 dc16 pm16 an16 cd16 ct16), sl16⟩)
    (c16 : PySem.W.codeIn K cd16 "_law_names" = true) (k16 : PySem.W.keepIn K (.ref f16) = true)
    (a17 : PySem.W.nsIn K mainGlobals "_law_pattern" = some (some (.ref f17)))
    (l17 : K.lookup f17 = some ⟨oc17, od17, .func (PySem.W.fnOf "_law_pattern" "_law_pattern" (defArgs s_law_pattern) (defBody s_law_pattern) (defScope s_law_pattern) .none kV17 dc17 pm17 an17 cd17 ct17), sl17⟩)
    (c17 : PySem.W.codeIn K cd17 "_law_pattern" = true) (k17 : PySem.W.keepIn K (.ref f17) = true)
    (a18 : PySem.W.nsIn K mainGlobals "_law_walked" = some (some (.ref f18)))
    (l18 : K.lookup f18 = some ⟨oc18, od18, .func (PySem.W.fnOf "_law_walked" "_law_walked" (defArgs s_law_walked) (defBody s_law_walked) (defScope s_law_walked) .none kV18 dc18 pm18 an18 cd18 ct18), sl18⟩)
    (c18 : PySem.W.codeIn K cd18 "_law_walked" = true) (k18 : PySem.W.keepIn K (.ref f18) = true)
    (a19 : PySem.W.nsIn K mainGlobals "_law_refused" = some (some (.ref f19)))
    (l19 : K.lookup f19 = some ⟨oc19, od19, .func (PySem.W.fnOf "_law_refused" "_law_refused" (defArgs s_law_refused) (defBody s_law_refused) (defScope s_law_refused) .none kV19 dc19 pm19 an19 cd19 ct19), sl19⟩)
    (c19 : PySem.W.codeIn K cd19 "_law_refused" = true) (k19 : PySem.W.keepIn K (.ref f19) = true)
    (a20 : PySem.W.nsIn K mainGlobals "law" = some (some (.ref f20)))
    (l20 : K.lookup f20 = some ⟨oc20, od20, .func (PySem.W.fnOf "law" "law" (defArgs s_law) (defBody s_law) (defScope s_law) .none kV20 dc20 pm20 an20 (.ref tc1) ct20), sl20⟩)
    (c20 : PySem.W.codeIn K (.ref tc1) "law" = true) (k20 : PySem.W.keepIn K (.ref f20) = true)
    (tg1 : h.get? tP1 = some tab0) (tq1 : PySem.W.codeHdIn K tc1 tP1 = true) (tn1 : K.lookup tP1 = none)
    (g1 : PySem.W.nsIn K mainGlobals "LETTERS" = some (some (.str abc gt1)))
    (g2 : PySem.W.nsIn K mainGlobals "LONGEST_NAME" = some (some (.int 6 gt2)))
    (g3 : PySem.W.nsIn K mainGlobals "RESERVED" = some (some (.ref ga3)))
    (gl3 : K.lookup ga3 = some ⟨.type "tuple", go3, .seq gi3 gn3, gs3⟩)
    (gx3 : StrsAre gi3.toList ["self", "other", "super", "raises"])
    (g4 : PySem.W.nsIn K mainGlobals "MOST_DEEP" = some (some (.int 6 gt4)))
    (g5 : PySem.W.nsIn K mainGlobals "MOST_CLASSES" = some (some (.int 12 gt5)))
    (g6 : PySem.W.nsIn K mainGlobals "MOST_PARTS" = some (some (.int 4 gt6)))
    (xa_1 : PySem.W.nsIn K mainGlobals "NoPattern" = some (some (.ref xC1)))
    (xb_1 : K.lookup xC1 = some (excClassObj xn1 xq1 xC1 xN1 xb1 [.type "ValueError", .type "Exception", .type "BaseException", .type "object"] true xs1 xu1 xa1 xc1 xd1 xk1 xl1 xm1 xo1 xp1 "ValueError.__new__"))
    (xc_1 : PySem.W.findIn K (.ref xC1) "__setattr__" = some (some (.builtin "object.__setattr__")))
    (xd_1 : PySem.W.findIn K (.ref xC1) "__getattribute__" = some (some (.builtin "BaseException.__getattribute__")))
    (xe_1 : PySem.W.findIn K (.ref xC1) "__getattr__" = some none)
    (xf_1 : PySem.W.findIn K (.ref xC1) "pattern" = some none)
    (xg_1 : PySem.W.findIn K (.ref xC1) "__init__" = some (some (.ref xf1)))
    (xh_1 : PySem.W.typeIn K (.ref xf1) = some (.type "function"))
    (xi_1 : K.lookup xf1 = some ⟨yc1, yd1, .func (PySem.W.fnOf "__init__" "NoPattern.__init__" iA_NoPattern iB_NoPattern iS_NoPattern .none .none yo1 yp1 ya1 yv1 yt1), ys1⟩)
    (xj_1 : PySem.W.codeIn K yv1 "NoPattern.__init__" = true)
    (xk_1 : PySem.W.keepIn K (.ref xC1) = true)
    (xl_1 : PySem.W.subIn K (.ref xC1) (.type "BaseException") = some true)
    (xm_1 : PySem.W.typeIn K (.ref xC1) = some (.type "type"))
    (xn_1 : PySem.W.hasDictIn K xC1 = true)
    (xo_1 : PySem.W.isClsIn K xC1 = true)
    (xp_1 : PySem.W.subIn K (.ref xC1) (.ref xC1) = some true)
    (xq_1 : PySem.W.findIn K (.ref xC1) "__class__" = some (some (.builtin "object.__class__")))
    (xr_1 : PySem.W.specialIn K (.builtin "object.__class__") "__get__" = some (some (.builtin "getset_descriptor.__get__")))
    (xs_1 : PySem.W.takesIn K (.builtin "object.__class__") = some true)
    (xt_1 : PySem.W.mroIn K xC1 (.type "object") = some true)
    (ca_1 : PySem.W.nsIn K mainGlobals "NoBook" = some (some (.ref cC1)))
    (ca_2 : PySem.W.nsIn K mainGlobals "NoText" = some (some (.ref cC2)))
    (ca_3 : PySem.W.nsIn K mainGlobals "NoTree" = some (some (.ref cC3)))
    (ia_1 : PySem.W.kitAny K (.ref xC1) [.ref cC1, .ref cC2, .ref cC3] = some false)
    (ia_2 : PySem.W.kitOne K (.ref xC1) (.type "ValueError") = some true)
    (z1 : PySem.W.nsIn K mainGlobals "len" = some none)
    (z2 : PySem.W.nsIn K mainGlobals "isinstance" = some none)
    (z3 : PySem.W.nsIn K mainGlobals "repr" = some none)
    (z4 : PySem.W.nsIn K mainGlobals "abs" = some none)
    (z5 : PySem.W.nsIn K mainGlobals "max" = some none)
    (z6 : PySem.W.nsIn K mainGlobals "min" = some none)
    (z7 : PySem.W.nsIn K mainGlobals "sorted" = some none)
    (z8 : PySem.W.nsIn K mainGlobals "any" = some none)
    (z9 : PySem.W.nsIn K mainGlobals "all" = some none)
    (z10 : PySem.W.nsIn K mainGlobals "int" = some none)
    (z11 : PySem.W.nsIn K mainGlobals "str" = some none)
    (z12 : PySem.W.nsIn K mainGlobals "tuple" = some none)
    (z13 : PySem.W.nsIn K mainGlobals "list" = some none)
    (z14 : PySem.W.nsIn K mainGlobals "set" = some none)
    (z15 : PySem.W.nsIn K mainGlobals "bool" = some none)
    (z16 : PySem.W.nsIn K mainGlobals "range" = some none)
    (z17 : PySem.W.nsIn K mainGlobals "dict" = some none)
    (z18 : PySem.W.nsIn K mainGlobals "enumerate" = some none)
    (z19 : PySem.W.nsIn K mainGlobals "zip" = some none)
    (z20 : PySem.W.nsIn K mainGlobals "sum" = some none)
    (z21 : PySem.W.nsIn K mainGlobals "ValueError" = some none)
    (z22 : PySem.W.nsIn K mainGlobals "KeyError" = some none)
    (z23 : PySem.W.nsIn K mainGlobals "TypeError" = some none)
    (z24 : PySem.W.nsIn K mainGlobals "LookupError" = some none)
    (z25 : PySem.W.nsIn K mainGlobals "IndexError" = some none)
    (z26 : PySem.W.nsIn K mainGlobals "ArithmeticError" = some none)
    (z27 : PySem.W.nsIn K mainGlobals "RuntimeError" = some none)
    : LawAtG l w K CX0 22 63 "_law_script" mg fa h := by
  letI : TabCtx := ⟨fun a => List.lookup a [(tP1, fun _ _ => q_law)]⟩
  have e := hfa.symm.trans (PySem.W.mg_of X G a20)
  cases e
  have Z : Blt mg bl := fun x hx => by
    simp only [List.mem_cons, List.not_mem_nil, or_false] at hx
    rcases hx with rfl | rfl | rfl | rfl | rfl | rfl | rfl | rfl | rfl | rfl | rfl | rfl | rfl | rfl | rfl | rfl | rfl | rfl | rfl | rfl | rfl | rfl | rfl | rfl | rfl | rfl | rfl
    · exact PySem.W.mg_none_of X G z1
    · exact PySem.W.mg_none_of X G z2
    · exact PySem.W.mg_none_of X G z3
    · exact PySem.W.mg_none_of X G z4
    · exact PySem.W.mg_none_of X G z5
    · exact PySem.W.mg_none_of X G z6
    · exact PySem.W.mg_none_of X G z7
    · exact PySem.W.mg_none_of X G z8
    · exact PySem.W.mg_none_of X G z9
    · exact PySem.W.mg_none_of X G z10
    · exact PySem.W.mg_none_of X G z11
    · exact PySem.W.mg_none_of X G z12
    · exact PySem.W.mg_none_of X G z13
    · exact PySem.W.mg_none_of X G z14
    · exact PySem.W.mg_none_of X G z15
    · exact PySem.W.mg_none_of X G z16
    · exact PySem.W.mg_none_of X G z17
    · exact PySem.W.mg_none_of X G z18
    · exact PySem.W.mg_none_of X G z19
    · exact PySem.W.mg_none_of X G z20
    · exact PySem.W.mg_none_of X G z21
    · exact PySem.W.mg_none_of X G z22
    · exact PySem.W.mg_none_of X G z23
    · exact PySem.W.mg_none_of X G z24
    · exact PySem.W.mg_none_of X G z25
    · exact PySem.W.mg_none_of X G z26
    · exact PySem.W.mg_none_of X G z27
  have g_Places : GC K mg "Places" (.ref kC1) := GC.ref (PySem.W.mg_of X G kA1)
  have cl_Places : Cls K kC1 := ⟨kP1, kH1, kO1, kS1⟩
  have na_Places_read : NoAttr K kC1 "read" := kN1_1
  have na_Places_after : NoAttr K kC1 "after" := kN1_2
  have na_Places_starts : NoAttr K kC1 "starts" := kN1_3
  have na_Places_ends : NoAttr K kC1 "ends" := kN1_4
  have g_LETTERS : GC K mg "LETTERS" (.str abc) := GC.str (PySem.W.mg_of X G g1)
  have g_LONGEST_NAME : GC K mg "LONGEST_NAME" (.int 6) := GC.int (PySem.W.mg_of X G g2)
  have g_RESERVED : GC K mg "RESERVED" (.tup ((["self", "other", "super", "raises"] : List Str).map D.str)) := GC.strs (PySem.W.mg_of X G g3) gl3 rfl rfl gx3 (by decide)
  have g_MOST_DEEP : GC K mg "MOST_DEEP" (.int 6) := GC.int (PySem.W.mg_of X G g4)
  have g_MOST_CLASSES : GC K mg "MOST_CLASSES" (.int 12) := GC.int (PySem.W.mg_of X G g5)
  have g_MOST_PARTS : GC K mg "MOST_PARTS" (.int 4) := GC.int (PySem.W.mg_of X G g6)
  have x_NoPattern := low_NoPattern (PySem.W.mg_of X G xa_1) xb_1 xc_1 xd_1 xe_1 xf_1 xg_1 xh_1 xi_1 xj_1 xk_1 xl_1 xm_1 xn_1 xo_1 xp_1
  have k_NoPattern : ExcK K xC1 := ⟨xo_1, xd_1, xe_1, xl_1, xq_1, xr_1, xs_1, xt_1⟩
  have g_NoBook : GC K mg "NoBook" (.ref cC1) := GC.ref (PySem.W.mg_of X G ca_1)
  have g_NoText : GC K mg "NoText" (.ref cC2) := GC.ref (PySem.W.mg_of X G ca_2)
  have g_NoTree : GC K mg "NoTree" (.ref cC3) := GC.ref (PySem.W.mg_of X G ca_3)
  have F1 := fun_mk (st := s_is_class_name) l1 c1 k1
  have b1 := F1.binds (ps := ["value"]) fun _ _ _ _ _ _ us hl => match us, hl with | [_], _ => rfl
  have m1 := PySem.W.mg_of X G a1
  have F2 := fun_mk (st := s_is_parts) l2 c2 k2
  have b2 := F2.binds (ps := ["value"]) fun _ _ _ _ _ _ us hl => match us, hl with | [_], _ => rfl
  have m2 := PySem.W.mg_of X G a2
  have F3 := fun_mk (st := s_is_nested) l3 c3 k3
  have b3 := F3.binds (ps := ["value", "deep"]) fun _ _ _ _ _ _ us hl => match us, hl with | [_, _], _ => rfl
  have m3 := PySem.W.mg_of X G a3
  have F4 := fun_mk (st := s_classes_in) l4 c4 k4
  have b4 := F4.binds (ps := ["pattern"]) fun _ _ _ _ _ _ us hl => match us, hl with | [_], _ => rfl
  have m4 := PySem.W.mg_of X G a4
  have F5 := fun_mk (st := s_is_pattern) l5 c5 k5
  have b5 := F5.binds (ps := ["value"]) fun _ _ _ _ _ _ us hl => match us, hl with | [_], _ => rfl
  have m5 := PySem.W.mg_of X G a5
  have F6 := fun_mk (st := s_check_pattern) l6 c6 k6
  have m6 := PySem.W.mg_of X G a6
  have F7 := fun_mk (st := s_Places_link) l7 c7 k7
  have b7 := F7.binds (ps := ["self", "lasts", "firsts"]) fun _ _ _ _ _ _ us hl => match us, hl with | [_, _, _], _ => rfl
  have m7 : Meth K kC1 "link" f7 := ⟨a7, i7, k7⟩
  have F8 := fun_mk (st := s_Places_add) l8 c8 k8
  have b8 := F8.binds (ps := ["self", "pattern"]) fun _ _ _ _ _ _ us hl => match us, hl with | [_, _], _ => rfl
  have m8 : Meth K kC1 "add" f8 := ⟨a8, i8, k8⟩
  have F9 := fun_mk (st := s_Places_add_row) l9 c9 k9
  have b9 := F9.binds (ps := ["self", "parts"]) fun _ _ _ _ _ _ us hl => match us, hl with | [_, _], _ => rfl
  have m9 : Meth K kC1 "add_row" f9 := ⟨a9, i9, k9⟩
  have F10 := fun_mk (st := s_Places_init) l10 c10 k10
  have b10 := F10.binds (ps := ["self", "pattern"]) fun _ _ _ _ _ _ us hl => match us, hl with | [_, _], _ => rfl
  have m10 : Meth K kC1 "__init__" f10 := ⟨a10, i10, k10⟩
  have F11 := fun_mk (st := s_Places_steps) l11 c11 k11
  have b11 := F11.binds (ps := ["self"]) fun _ _ _ _ _ _ us hl => match us, hl with | [_], _ => rfl
  have m11 : Meth K kC1 "steps" f11 := ⟨a11, i11, k11⟩
  have F12 := fun_mk (st := s_steps) l12 c12 k12
  have b12 := F12.binds (ps := ["pattern"]) fun _ _ _ _ _ _ us hl => match us, hl with | [_], _ => rfl
  have m12 := PySem.W.mg_of X G a12
  have F13 := fun_mk (st := s_ends) l13 c13 k13
  have b13 := F13.binds (ps := ["pattern"]) fun _ _ _ _ _ _ us hl => match us, hl with | [_], _ => rfl
  have m13 := PySem.W.mg_of X G a13
  have F14 := fun_mk (st := s_law_bag) l14 c14 k14
  have b14 := F14.binds (ps := ["_law_script", "_law_at"]) fun _ _ _ _ _ _ us hl => match us, hl with | [_, _], _ => rfl
  have m14 := PySem.W.mg_of X G a14
  have F15 := fun_mk (st := s_law_take) l15 c15 k15
  have b15 := F15.binds (ps := ["_law_bag_here", "_law_many"]) fun _ _ _ _ _ _ us hl => match us, hl with | [_, _], _ => rfl
  have m15 := PySem.W.mg_of X G a15
  have F16 := fun_mk (st := s_law_names) l16 c16 k16
  have b16 := F16.binds (ps := ["_law_bag_here", "_law_many"]) fun _ _ _ _ _ _ us hl => match us, hl with | [_, _], _ => rfl
  have m16 := PySem.W.mg_of X G a16
  have F17 := fun_mk (st := s_law_pattern) l17 c17 k17
  have b17 := F17.binds (ps := ["_law_bag_here", "_law_names_here", "_law_deep"]) fun _ _ _ _ _ _ us hl => match us, hl with | [_, _, _], _ => rfl
  have m17 := PySem.W.mg_of X G a17
  have F18 := fun_mk (st := s_law_walked) l18 c18 k18
  have b18 := F18.binds (ps := ["_law_pattern_here", "_law_classes", "_law_found"]) fun _ _ _ _ _ _ us hl => match us, hl with | [_, _, _], _ => rfl
  have m18 := PySem.W.mg_of X G a18
  have F19 := fun_mk (st := s_law_refused) l19 c19 k19
  have b19 := F19.binds (ps := ["_law_call"]) fun _ _ _ _ _ _ us hl => match us, hl with | [_], _ => rfl
  have m19 := PySem.W.mg_of X G a19
  have F20 := fun_mk (st := s_law) l20 c20 k20
  have tt1 : TabCtx.T tP1 = some (fun _ _ => q_law) := by show List.lookup tP1 [(tP1, fun _ _ => q_law)] = _; simp [List.lookup]
  have th1 := PySem.W.codeHd_of_K X tq1
  refine ⟨PySem.W.fnOf "law" "law" (defArgs s_law) (defBody s_law) (defScope s_law) .none kV20 dc20 pm20 an20 (.ref tc1) ct20, [(tc1, tP1)], spOf ⟨K, tabsPhi⟩ spLaw, (by intro p hp; simp only [List.mem_cons, List.not_mem_nil, or_false] at hp; subst hp; exact tg1), (by intro p hp; simp only [List.mem_cons, List.not_mem_nil, or_false] at hp; subst hp; exact tn1), (by intro p hp; simp only [List.mem_cons, List.not_mem_nil, or_false] at hp; subst hp; exact th1), fun s v => .of_eq rfl, fun H a ns hl tr sq => script_okT (fun _ _ => ⟨ns, rfl, hl, fun _ => rfl⟩) ?_ sq, fun base _ _ tb => ?_⟩
  · intro b nm z
    by_cases z1 : b = tP1
    · rw [z1]; exact tr (tc1, tP1) (by simp)
    have z : List.lookup b [(tP1, fun _ _ => q_law)] = some nm := z
    simp [List.lookup, beq_false_of_ne z1] at z
  have t_law : TabOk ⟨K, tabsPhi⟩ mg base tc1 tP1 (fun _ _ => q_law) := ⟨tb (tc1, tP1) (by simp), fun G R H h => h _ _ tt1, tt1⟩
  have FC20 : FunC K "law" "law" s_law _ _ tc1 := ⟨_, _, _, _, _, _, _, _, rfl, l20, c20⟩
  have c_is_class_name : Cal l.prog w ⟨K, tabsPhi⟩ mg base 1 "is_class_name" spIsName := ⟨_, _, _, ok_is_class_name F1 Z g_LETTERS g_LONGEST_NAME g_RESERVED, m1, F1.kp, b1⟩
  have c_is_parts : Cal l.prog w ⟨K, tabsPhi⟩ mg base 1 "is_parts" spParts := ⟨_, _, _, ok_parts F2 Z g_MOST_PARTS, m2, F2.kp, b2⟩
  have c_is_nested : Cal l.prog w ⟨K, tabsPhi⟩ mg base 9 "is_nested" (spNest 7) := ⟨_, _, _, ok_nest F3 Z c_is_class_name c_is_parts m3 b3 7, m3, F3.kp, b3⟩
  have c_classes_in : Cal l.prog w ⟨K, tabsPhi⟩ mg base 9 "classes_in" (spCls 7) := ⟨_, _, _, ok_cls F4 Z m4 b4 7, m4, F4.kp, b4⟩
  have c_is_pattern : Cal l.prog w ⟨K, tabsPhi⟩ mg base 10 "is_pattern" spPat := ⟨_, _, _, ok_pat F5 Z g_MOST_DEEP g_MOST_CLASSES c_is_nested c_classes_in, m5, F5.kp, b5⟩
  have c_check_pattern : CalS l.prog w ⟨K, tabsPhi⟩ mg base 11 "check_pattern" (starD 1 (spChk xC1)) := ⟨⟨_, ok_chk F6 Z x_NoPattern c_is_pattern c_classes_in, m6, F6.kp⟩⟩
  have m_Places_link : MetD l.prog w ⟨K, tabsPhi⟩ mg base 1 kC1 "link" (spLink kC1) := ⟨⟨_, _, _, ok_link F7 Z cl_Places na_Places_after, cl_Places, m7, b7⟩⟩
  have m_Places_add : MetD l.prog w ⟨K, tabsPhi⟩ mg base 16 kC1 "add" (spAdd kC1 7) := ⟨⟨_, _, _, ok_adds F8 F9 Z cl_Places na_Places_after na_Places_read m_Places_link m8 m9 b8 b9 7, cl_Places, m8, b8⟩⟩
  have m_Places_add_row : MetD l.prog w ⟨K, tabsPhi⟩ mg base 17 kC1 "add_row" (spRow kC1 7) := ⟨⟨_, _, _, step_row (n := 7) F9 Z cl_Places m_Places_link m_Places_add, cl_Places, m9, b9⟩⟩
  have n_Places : MakDX l.prog w ⟨K, tabsPhi⟩ mg base 17 "Places" kC1 (spPlInit kC1) := ⟨⟨_, _, _, ok_plinit F10 Z cl_Places na_Places_after na_Places_read na_Places_starts na_Places_ends m_Places_add, ⟨kM1, a10, i10, kK1⟩, PySem.W.mg_of X G kA1, b10⟩⟩
  have m_Places_steps : MetD l.prog w ⟨K, tabsPhi⟩ mg base 1 kC1 "steps" (spSteps kC1) := ⟨⟨_, _, _, ok_steps F11 Z cl_Places na_Places_after na_Places_read, cl_Places, m11, b11⟩⟩
  have c_steps : CalX l.prog w ⟨K, tabsPhi⟩ mg base 19 "steps" (spStepsF xC1) := ⟨_, _, _, ok_stepsF F12 Z c_check_pattern n_Places m_Places_steps, m12, F12.kp, b12⟩
  have c_ends : CalX l.prog w ⟨K, tabsPhi⟩ mg base 19 "ends" (spEnds xC1) := ⟨_, _, _, ok_ends F13 Z cl_Places na_Places_ends c_check_pattern n_Places, m13, F13.kp, b13⟩
  have c_law_bag : Cal l.prog w ⟨K, tabsPhi⟩ mg base 1 "_law_bag" spBag := ⟨_, _, _, ok_bag F14 Z, m14, F14.kp, b14⟩
  have c_law_take : Cal l.prog w ⟨K, tabsPhi⟩ mg base 1 "_law_take" spTake := ⟨_, _, _, ok_take F15 Z, m15, F15.kp, b15⟩
  have c_law_names : Cal l.prog w ⟨K, tabsPhi⟩ mg base 2 "_law_names" spNames := ⟨_, _, _, ok_names F16 Z c_law_take, m16, F16.kp, b16⟩
  have c_law_pattern : Cal l.prog w ⟨K, tabsPhi⟩ mg base 8 "_law_pattern" (spPattern 6) := ⟨_, _, _, ok_pattern F17 Z c_law_take m17 b17 6, m17, F17.kp, b17⟩
  have c_law_walked : Cal l.prog w ⟨K, tabsPhi⟩ mg base 8 "_law_walked" (spWalked 7) := ⟨_, _, _, ok_walked F18 Z m18 b18 7, m18, F18.kp, b18⟩
  have c_law_refused : ∀ (L : Lam) (fr : List Str) (dl : CSp), LamC l.prog w ⟨K, tabsPhi⟩ mg base 20 L fr dl → CalL l.prog w ⟨K, tabsPhi⟩ mg base 21 "_law_refused" L.cl fr (spRefused xC1 L dl) := fun L fr dl hL => ⟨_, _, _, ok_l_refused F19 Z x_NoPattern k_NoPattern g_NoBook g_NoText g_NoTree ia_1 ia_2 hL, m19, F19.kp, b19⟩
  have lam_law_0 := fun cl => ok_lam0 (P := l.prog) (w := w) (K := ⟨K, tabsPhi⟩) (mg := mg) (base := base) (pC := xC1) cl Z c_steps
  have lam_law_1 := fun cl => ok_lam1 (P := l.prog) (w := w) (K := ⟨K, tabsPhi⟩) (mg := mg) (base := base) (pC := xC1) cl Z c_ends
  exact ok_law FC20 Z t_law c_law_bag c_law_take c_law_names c_law_pattern c_law_walked c_steps c_ends lam_law_0 lam_law_1 c_law_refused
theorem walk {l : PySem.W.OpenLaw} {q : Program} {loose : List Str} {XP : (Str → Option Value) → Heap → Prop} {YP : World → Heap → Prop} {d : DefRec} {K : Params → PySem.W.Frag} (hn : l.most = some 63) (hdf : d.params.defaults = [])
    (hY : ∀ (w : World) (h : Heap), YP w h → (K w.params).In h)
    (F : ∀ (w : World) (mg : Str → Option Value) (fa : Addr) (h : Heap), YP w h → (K w.params).In h → h.Ns mainGlobals mg → mg d.name = some (.ref fa) → TabsOf q (K w.params) h → LawAtG l w (K w.params) CX0 22 63 "_law_script" mg fa h) :
    PySem.W.WalkO q loose XP YP l.row.toRowW d [] (fun f vs => PySem.call f vs) :=
  haveI : TabCtx := noTabs
  walkT (n := 63) (k := 22) (x := "_law_script") (CX := fun _ => CX0) hn (by decide) hdf ⟨rfl, by decide, by decide⟩ hY F fun _ _ _ _ _ z => z


end Law
open PySem PySem.W PyProof.Rows
set_option maxRecDepth 100000 in
set_option maxHeartbeats 0 in
theorem PySem.Challenge.cw_eitherside_k47_steps_and_ends_holds : PySem.Challenge.rw_eitherside_k47_steps_and_ends.Holds := by
  w_on; o_law; k_head; (case hw => w_witness2)
  k_fill
  refine Law.walk (l := PySem.Challenge.rw_eitherside_k47_steps_and_ends) rfl rfl (fun w h Y => PySem.W.km_in_of Y) ?F
  case F =>
    intro w mg fa h Y KX G hmg tbs
    refine' Law.all_mk KX G hmg (kA1 := ?kA1) (kP1 := ?kP1) (kH1 := ?kH1) (kO1 := ?kO1) (kS1 := ?kS1) (kM1 := ?kM1) (kK1 := ?kK1) (kN1_1 := ?kN1_1) (kN1_2 := ?kN1_2) (kN1_3 := ?kN1_3) (kN1_4 := ?kN1_4) (a1 := ?a1) (l1 := ?l1) (c1 := ?c1) (k1 := ?k1) (a2 := ?a2) (l2 := ?l2) (c2 := ?c2) (k2 := ?k2) (a3 := ?a3) (l3 := ?l3) (c3 := ?c3) (k3 := ?k3) (a4 := ?a4) (l4 := ?l4) (c4 := ?c4) (k4 := ?k4) (a5 := ?a5) (l5 := ?l5) (c5 := ?c5) (k5 := ?k5) (a6 := ?a6) (l6 := ?l6) (c6 := ?c6) (k6 := ?k6) (a7 := ?a7) (l7 := ?l7) (c7 := ?c7) (k7 := ?k7) (a8 := ?a8) (l8 := ?l8) (c8 := ?c8) (k8 := ?k8) (a9 := ?a9) (l9 := ?l9) (c9 := ?c9) (k9 := ?k9) (a10 := ?a10) (l10 := ?l10) (c10 := ?c10) (k10 := ?k10) (a11 := ?a11) (l11 := ?l11) (c11 := ?c11) (k11 := ?k11) (a12 := ?a12) (l12 := ?l12) (c12 := ?c12) (k12 := ?k12) (a13 := ?a13) (l13 := ?l13) (c13 := ?c13) (k13 := ?k13) (a14 := ?a14) (l14 := ?l14) (c14 := ?c14) (k14 := ?k14) (a15 := ?a15) (l15 := ?l15) (c15 := ?c15) (k15 := ?k15) (a16 := ?a16) (l16 := ?l16) (c16 := ?c16) (k16 := ?k16) (a17 := ?a17) (l17 := ?l17) (c17 := ?c17) (k17 := ?k17) (a18 := ?a18) (l18 := ?l18) (c18 := ?c18) (k18 := ?k18) (a19 := ?a19) (l19 := ?l19) (c19 := ?c19) (k19 := ?k19) (a20 := ?a20) (l20 := ?l20) (c20 := ?c20) (k20 := ?k20) (i7 := ?i7) (i8 := ?i8) (i9 := ?i9) (i10 := ?i10) (i11 := ?i11) (tg1 := ?tg1) (tq1 := ?tq1) (tn1 := ?tn1) (g1 := ?g1) (g2 := ?g2) (g3 := ?g3) (gl3 := ?gl3) (gx3 := ?gx3) (g4 := ?g4) (g5 := ?g5) (g6 := ?g6) (xa_1 := ?xa_1) (xb_1 := ?xb_1) (xc_1 := ?xc_1) (xd_1 := ?xd_1) (xe_1 := ?xe_1) (xf_1 := ?xf_1) (xg_1 := ?xg_1) (xh_1 := ?xh_1) (xi_1 := ?xi_1) (xj_1 := ?xj_1) (xk_1 := ?xk_1) (xl_1 := ?xl_1) (xm_1 := ?xm_1) (xn_1 := ?xn_1) (xo_1 := ?xo_1) (xp_1 := ?xp_1) (xq_1 := ?xq_1) (xr_1 := ?xr_1) (xs_1 := ?xs_1) (xt_1 := ?xt_1) (ca_1 := ?ca_1) (ca_2 := ?ca_2) (ca_3 := ?ca_3) (ia_1 := ?ia_1) (ia_2 := ?ia_2) (z1 := ?z1) (z2 := ?z2) (z3 := ?z3) (z4 := ?z4) (z5 := ?z5) (z6 := ?z6) (z7 := ?z7) (z8 := ?z8) (z9 := ?z9) (z10 := ?z10) (z11 := ?z11) (z12 := ?z12) (z13 := ?z13) (z14 := ?z14) (z15 := ?z15) (z16 := ?z16) (z17 := ?z17) (z18 := ?z18) (z19 := ?z19) (z20 := ?z20) (z21 := ?z21) (z22 := ?z22) (z23 := ?z23) (z24 := ?z24) (z25 := ?z25) (z26 := ?z26) (z27 := ?z27)
    (case kA1 => k_is); (case kP1 => k_is); (case kH1 => k_is); (case kO1 => k_is)
    (case kS1 => k_is); (case kM1 => k_is); (case kK1 => k_is); (case kN1_1 => k_is)
    (case kN1_2 => k_is); (case kN1_3 => k_is); (case kN1_4 => k_is); (case a1 => k_is)
    (case l1 => k_is); (case c1 => k_is); (case k1 => k_is); (case a2 => k_is)
    (case l2 => k_is); (case c2 => k_is); (case k2 => k_is); (case a3 => k_is)
    (case l3 => k_is); (case c3 => k_is); (case k3 => k_is); (case a4 => k_is)
    (case l4 => k_is); (case c4 => k_is); (case k4 => k_is); (case a5 => k_is)
    (case l5 => k_is); (case c5 => k_is); (case k5 => k_is); (case a6 => k_is)
    (case l6 => k_is); (case c6 => k_is); (case k6 => k_is); (case a7 => k_is)
    (case l7 => k_is); (case c7 => k_is); (case k7 => k_is); (case a8 => k_is)
    (case l8 => k_is); (case c8 => k_is); (case k8 => k_is); (case a9 => k_is)
    (case l9 => k_is); (case c9 => k_is); (case k9 => k_is); (case a10 => k_is)
    (case l10 => k_is); (case c10 => k_is); (case k10 => k_is); (case a11 => k_is)
    (case l11 => k_is); (case c11 => k_is); (case k11 => k_is); (case a12 => k_is)
    (case l12 => k_is); (case c12 => k_is); (case k12 => k_is); (case a13 => k_is)
    (case l13 => k_is); (case c13 => k_is); (case k13 => k_is); (case a14 => k_is)
    (case l14 => k_is); (case c14 => k_is); (case k14 => k_is); (case a15 => k_is)
    (case l15 => k_is); (case c15 => k_is); (case k15 => k_is); (case a16 => k_is)
    (case l16 => k_is); (case c16 => k_is); (case k16 => k_is); (case a17 => k_is)
    (case l17 => k_is); (case c17 => k_is); (case k17 => k_is); (case a18 => k_is)
    (case l18 => k_is); (case c18 => k_is); (case k18 => k_is); (case a19 => k_is)
    (case l19 => k_is); (case c19 => k_is); (case k19 => k_is); (case a20 => k_is)
    (case l20 => k_is); (case c20 => k_is); (case k20 => k_is); (case i7 => k_is)
    (case i8 => k_is); (case i9 => k_is); (case i10 => k_is); (case i11 => k_is)
    (case tg1 => exact PySem.W.km_tabs_of Y _ (.head _)); (case tq1 => first | k_is | rfl | kernel_rfl | decide +kernel); (case tn1 => first | rfl | kernel_rfl | k_is); (case g1 => k_is)
    (case g2 => k_is); (case g3 => k_is); (case gl3 => k_is); (case gx3 => exact (.cons _ _ (.cons _ _ (.cons _ _ (.cons _ _ .nil)))))
    (case g4 => k_is); (case g5 => k_is); (case g6 => k_is); (case xa_1 => k_is)
    (case xb_1 => k_is); (case xc_1 => k_is); (case xd_1 => k_is); (case xe_1 => k_is)
    (case xf_1 => k_is); (case xg_1 => k_is); (case xh_1 => k_is); (case xi_1 => k_is)
    (case xj_1 => k_is); (case xk_1 => k_is); (case xl_1 => k_is); (case xm_1 => k_is)
    (case xn_1 => k_is); (case xo_1 => k_is); (case xp_1 => first | rfl | k_is); (case xq_1 => k_is)
    (case xr_1 => k_is); (case xs_1 => k_is); (case xt_1 => k_is); (case ca_1 => k_is)
    (case ca_2 => k_is); (case ca_3 => k_is); (case ia_1 => first | rfl | k_is); (case ia_2 => first | rfl | k_is)
    (case z1 => k_is); (case z2 => k_is); (case z3 => k_is); (case z4 => k_is)
    (case z5 => k_is); (case z6 => k_is); (case z7 => k_is); (case z8 => k_is)
    (case z9 => k_is); (case z10 => k_is); (case z11 => k_is); (case z12 => k_is)
    (case z13 => k_is); (case z14 => k_is); (case z15 => k_is); (case z16 => k_is)
    (case z17 => k_is); (case z18 => k_is); (case z19 => k_is); (case z20 => k_is)
    (case z21 => k_is); (case z22 => k_is); (case z23 => k_is); (case z24 => k_is)
    (case z25 => k_is); (case z26 => k_is); (case z27 => k_is)
#print axioms PySem.Challenge.cw_eitherside_k47_steps_and_ends_holds
end
