import PyProof.Rows.All
import Wide.All
import OpenK.AllK
import Wide.FinOn
import HandS.ForMost
import HandS.Lambda
import HandS.IsInst
import HandS.TupAny
import HandS.Style
import HandS.RaiseMore
import HandS.Deep
import PyProof.NeKinds
import PyProof.ReprRoads
import HandS.TryOnly
import HandS.TupMul
import HandS.SetTxt0
import HandS.SetFor
import HandS.Strs
import KE.KUnpackStar
import HandS.ForExc
import HandS.ExcInit
import KE.KExcInit
import HandS.Flow
import HandS.Steps
import KE.KExcIs
import HandS.ReplaceLit
import HandS.ReplaceList
import HandS.Nested
import HandS.FStr
import HandS.EndTab
import HandS.DictComp
import HandS.DictTup
import HandS.TupLen
import PyProof.ExcClass
import KE.KExcPX
import PyProof.DictFindH
import HandS.Zip
import HandS.Star
import HandS.ClsMeth
import HandS.Defaults
import KE.GoesMore
import KE.GoesEnum
import HandS.Iter
import KE.KCallOwn
import HandS.Text
import KE.KFmtOwn
import PyProof.InstEq
import HandS.ExcValue
import HandS.Property
import KE.KSortKeySt
import HandS.SortKw
import HandS.MakeKwOnly
import PyProof.RulesMatch
import HandS.SetBool
import KE.SortData
import PySem.Challenge.RW_eitherside_k49_whole_patterns_by_their_r
section
set_option Elab.async false
set_option maxRecDepth 100000
set_option linter.all false
set_option autoImplicit false
/-! DL1: readings over plain data. D: a value, immutable parts written out; Rs: the objects that may change. -/
namespace DL
open PySem PySem.Spec PyProof.Rows L2

/-- a lambda: its words, the cells that it captured -/
structure Lam where
  qual : Str
  params : Arguments
  body : Expr
  scope : Scope
  cl : List (Str × Addr)
/-- the object at f is the lambda L, its code object at c -/
def LamO (f : Addr) (L : Lam) (c : Addr) : HO := .ext fun h => ∃ (pm ctv : Value), h.get? f = some (PySem.W.kla_obj "<lambda>" L.qual L.params L.body L.scope L.cl pm c ctv)
inductive D where
  | non | bl (b : Bool) | int (i : Int) | str (x : Str) | ty (n : String) | ref (a : Addr)
  | tup (xs : List D) | lst (xs : List D) | rls (xs : List D)
  | ins (C : Addr) (ns : List Str) (ds : List D) | dK (ks : List Key) (ds : List D) | dT (ks : List (List Key)) (ds : List D)
  | lam (L : Lam)

mutual
inductive DV (K : PySem.W.Frag) (G : Hp) : D → V → Prop
  | non : DV K G .non .non
  | bl (b : Bool) : DV K G (.bl b) (.bl b)
  | int (i : Int) : DV K G (.int i) (.int i)
  | str (x : Str) : DV K G (.str x) (.str x)
  | ty (n : String) : DV K G (.ty n) (.ty n)
  | ref (a : Addr) : DV K G (.ref a) (.ref a)
  | tup {a : Addr} {xs : List V} {ds : List D} : SqT K G a xs → DVs K G ds xs → DV K G (.tup ds) (.ref a)
  | lst {a : Addr} {xs : List V} {ds : List D} : G a = some (.lst xs) → DVs K G ds xs → DV K G (.lst ds) (.ref a)
  | rls {a : Addr} {xs : List V} {ds : List D} : SqL K G a xs → DVs K G ds xs → DV K G (.rls ds) (.ref a)
  | ins {a dx C : Addr} {ns : List Str} {xs : List V} {ds : List D} : G a = some (.ins C dx (ns.zip xs)) → ns.length = ds.length → DVs K G ds xs → DV K G (.ins C ns ds) (.ref a)
  | dK {a : Addr} {ks : List Key} {xs : List V} {ds : List D} : G a = some (.dK (ks.zip xs)) → ks.length = ds.length → DVs K G ds xs → DV K G (.dK ks ds) (.ref a)
  | dT {a : Addr} {ks : List (List Key)} {xs : List V} {ds : List D} : G a = some (.dT (ks.zip xs)) → ks.length = ds.length → DVs K G ds xs → DV K G (.dT ks ds) (.ref a)
  | lam {f c : Addr} {L : Lam} : G f = some (LamO f L c) → G c = some (LamX.CodeO c L.qual) → DV K G (.lam L) (.ref f)
inductive DVs (K : PySem.W.Frag) (G : Hp) : List D → List V → Prop
  | nil : DVs K G [] []
  | cons {d : D} {ds : List D} {v : V} {vs : List V} : DV K G d v → DVs K G ds vs → DVs K G (d :: ds) (v :: vs)
end

theorem Rd.same {H H' : Hp} (e : Same H H') {a : Addr} {u : HO} (h : Rd H a u) : Rd H' a u := by
  rcases h with h | ⟨o, h⟩
  · exact .inl (e _ _ h)
  · exact .inr ⟨o, e _ _ h⟩
theorem SqT.same {K : PySem.W.Frag} {H H' : Hp} (e : Same H H') {a : Addr} {xs : List V} (h : SqT K H a xs) : SqT K H' a xs := by
  rcases h with h | h
  · exact .inl (Rd.same e h)
  · exact .inr h
theorem SqL.same {K : PySem.W.Frag} {H H' : Hp} (e : Same H H') {a : Addr} {xs : List V} (h : SqL K H a xs) : SqL K H' a xs := by
  rcases h with h | h
  · exact .inl (Rd.same e h)
  · exact .inr h

section
variable {K : PySem.W.Frag} {G G' : Hp}
mutual
theorem DV.mono (e : Same G G') : ∀ {d : D} {v : V}, DV K G d v → DV K G' d v
  | _, _, .non => .non
  | _, _, .bl b => .bl b
  | _, _, .int i => .int i
  | _, _, .str x => .str x
  | _, _, .ty n => .ty n
  | _, _, .ref a => .ref a
  | _, _, .tup h1 h2 => .tup (SqT.same e h1) (DVs.mono e h2)
  | _, _, .lst h1 h2 => .lst (e _ _ h1) (DVs.mono e h2)
  | _, _, .rls h1 h2 => .rls (SqL.same e h1) (DVs.mono e h2)
  | _, _, .ins h1 h2 h3 => .ins (e _ _ h1) h2 (DVs.mono e h3)
  | _, _, .dK h1 h2 h3 => .dK (e _ _ h1) h2 (DVs.mono e h3)
  | _, _, .dT h1 h2 h3 => .dT (e _ _ h1) h2 (DVs.mono e h3)
  | _, _, .lam h1 h2 => .lam (e _ _ h1) (e _ _ h2)
theorem DVs.mono (e : Same G G') : ∀ {ds : List D} {vs : List V}, DVs K G ds vs → DVs K G' ds vs
  | _, _, .nil => .nil
  | _, _, .cons h1 h2 => .cons (DV.mono e h1) (DVs.mono e h2)
end
theorem DVs.length : ∀ {ds : List D} {vs : List V}, DVs K G ds vs → ds.length = vs.length
  | _, _, .nil => rfl
  | _, _, .cons _ h => congrArg Nat.succ (DVs.length h)
theorem DVs.get : ∀ {ds : List D} {vs : List V} {i : Nat} {d : D}, DVs K G ds vs → ds[i]? = some d → ∃ v, vs[i]? = some v ∧ DV K G d v
  | _, _, _, _, .nil, e => by simp at e
  | _, _, 0, _, .cons h _, e => by simp at e; subst e; exact ⟨_, rfl, h⟩
  | _, _, i + 1, _, .cons _ h, e => by
    obtain ⟨v, e1, e2⟩ := DVs.get (i := i) h (by simpa using e)
    exact ⟨v, by simpa using e1, e2⟩
theorem DVs.append : ∀ {ds es : List D} {vs us : List V}, DVs K G ds vs → DVs K G es us → DVs K G (ds ++ es) (vs ++ us)
  | _, _, _, _, .nil, h => h
  | _, _, _, _, .cons a b, h => .cons a (DVs.append b h)
theorem DVs.set {d : D} {v : V} (h : DV K G d v) : ∀ {ds : List D} {vs : List V} (i : Nat), DVs K G ds vs → DVs K G (ds.set i d) (vs.set i v)
  | _, _, _, .nil => .nil
  | _, _, 0, .cons _ b => .cons h b
  | _, _, i + 1, .cons a b => .cons a (DVs.set h i b)
theorem DVs.take : ∀ {ds : List D} {vs : List V} (i : Nat), DVs K G ds vs → DVs K G (ds.take i) (vs.take i)
  | _, _, 0, _ => .nil
  | _, _, _ + 1, .nil => .nil
  | _, _, i + 1, .cons a b => .cons a (DVs.take i b)
theorem DVs.drop : ∀ {ds : List D} {vs : List V} (i : Nat), DVs K G ds vs → DVs K G (ds.drop i) (vs.drop i)
  | _, _, 0, h => h
  | _, _, _ + 1, .nil => .nil
  | _, _, i + 1, .cons _ b => DVs.drop i b
theorem DVs.strs : ∀ {xs : List Str} {vs : List V}, DVs K G (xs.map D.str) vs → vs = xs.map V.str
  | [], _, .nil => rfl
  | _ :: _, _, .cons (.str _) h => congrArg _ (DVs.strs h)
theorem DVs.ints : ∀ {xs : List Int} {vs : List V}, DVs K G (xs.map D.int) vs → vs = xs.map V.int
  | [], _, .nil => rfl
  | _ :: _, _, .cons (.int _) h => congrArg _ (DVs.ints h)
theorem DVs.bls : ∀ {xs : List Bool} {vs : List V}, DVs K G (xs.map D.bl) vs → vs = xs.map V.bl
  | [], _, .nil => rfl
  | _ :: _, _, .cons (.bl _) h => congrArg _ (DVs.bls h)
theorem DVs.ofStrs : ∀ (xs : List Str), DVs K G (xs.map D.str) (xs.map V.str)
  | [] => .nil
  | x :: xs => .cons (.str x) (DVs.ofStrs xs)
theorem DVs.ofInts : ∀ (xs : List Int), DVs K G (xs.map D.int) (xs.map V.int)
  | [] => .nil
  | x :: xs => .cons (.int x) (DVs.ofInts xs)
end

/-! ### data as PyData -/
mutual
def D.py : D → PyData
  | .non => .none
  | .bl b => .bool b
  | .int i => .int i
  | .str x => .str x
  | .ty _ => .none
  | .ref _ => .none
  | .tup xs => .tuple (D.pys xs)
  | .lst xs => .list (D.pys xs)
  | .rls xs => .list (D.pys xs)
  | .ins _ _ _ => .none
  | .dK _ _ => .none
  | .dT _ _ => .none
  | .lam _ => .none
def D.pys : List D → List PyData
  | [] => []
  | x :: xs => x.py :: D.pys xs
end
mutual
def D.plain : D → Bool
  | .ty _ => false
  | .ref _ => false
  | .tup xs => D.plains xs
  | .lst xs => D.plains xs
  | .rls xs => D.plains xs
  | .ins _ _ _ => false
  | .dK _ _ => false
  | .dT _ _ => false
  | .lam _ => false
  | _ => true
def D.plains : List D → Bool
  | [] => true
  | x :: xs => x.plain && D.plains xs
end
theorem pys_map : ∀ xs : List D, D.pys xs = xs.map D.py
  | [] => rfl
  | x :: xs => by rw [D.pys, pys_map xs]; rfl
section
variable {K : PySem.W.Frag} {G : Hp}
mutual
theorem DV.dp : ∀ {d : D} {v : V}, DV K G d v → d.plain = true → Dp K G v d.py
  | _, _, .non, _ => .non
  | _, _, .bl b, _ => .bl b
  | _, _, .int i, _ => .int i
  | _, _, .str x, _ => .str x
  | _, _, .ty _, h => by simp [D.plain] at h
  | _, _, .ref _, h => by simp [D.plain] at h
  | _, _, .tup h1 h2, h => by
    rw [D.plain] at h
    rw [D.py]
    exact .tup h1 (DVs.dp h2 h)
  | _, _, .lst h1 h2, h => by
    rw [D.plain] at h
    rw [D.py]
    exact .lst (.inl (.inl h1)) (DVs.dp h2 h)
  | _, _, .rls h1 h2, h => by
    rw [D.plain] at h
    rw [D.py]
    exact .lst h1 (DVs.dp h2 h)
  | _, _, .ins _ _ _, h => by simp [D.plain] at h
  | _, _, .dK _ _ _, h => by simp [D.plain] at h
  | _, _, .dT _ _ _, h => by simp [D.plain] at h
  | _, _, .lam _ _, h => by simp [D.plain] at h
theorem DVs.dp : ∀ {ds : List D} {vs : List V}, DVs K G ds vs → D.plains ds = true → DpAll K G vs (D.pys ds)
  | _, _, .nil, _ => by rw [D.pys]; exact .nil
  | _, _, .cons a b, h => by
    rw [D.plains, Bool.and_eq_true] at h
    rw [D.pys]
    exact .cons (DV.dp a h.1) (DVs.dp b h.2)
end
end
mutual
theorem Dp.same {K : PySem.W.Frag} {H H' : Hp} (e : Same H H') : ∀ {v : V} {d : PyData}, Dp K H v d → Dp K H' v d
  | _, _, .non => .non
  | _, _, .bl b => .bl b
  | _, _, .int i => .int i
  | _, _, .str x => .str x
  | _, _, .lst h1 h2 => .lst (SqL.same e h1) (DpAll.same e h2)
  | _, _, .tup h1 h2 => .tup (SqT.same e h1) (DpAll.same e h2)
theorem DpAll.same {K : PySem.W.Frag} {H H' : Hp} (e : Same H H') : ∀ {vs : List V} {ds : List PyData}, DpAll K H vs ds → DpAll K H' vs ds
  | _, _, .nil => .nil
  | _, _, .cons a b => .cons (Dp.same e a) (DpAll.same e b)
end

/-! ### what may change -/
inductive RO where
  | lst (xs : List D)
  | dK (kvs : List (Key × D))
  | dT (kvs : List (List Key × D))
  | ins (C dx : Addr) (fs : List (Str × D))
  | xd (fs : List (Str × D))
  | raw (o : HO)
abbrev Rs := Addr → Option RO
def put (R : Rs) (a : Addr) (o : RO) : Rs := fun b => if b = a then some o else R b
theorem put_same {R : Rs} {a : Addr} {o : RO} : put R a o a = some o := by unfold put; rw [if_pos rfl]
theorem put_ne {R : Rs} {a b : Addr} {o : RO} (h : b ≠ a) : put R a o b = R b := by unfold put; rw [if_neg h]
theorem put_put {R : Rs} {a : Addr} {o u : RO} : put (put R a o) a u = put R a u := by
  funext b; unfold put; split <;> rfl
theorem put_self {R : Rs} {a : Addr} {o : RO} (h : R a = some o) : put R a o = R := by
  funext b; unfold put; split
  · rename_i e; rw [e, h]
  · rfl
def ROk (K : PySem.W.Frag) (G : Hp) : RO → HO → Prop
  | .lst ds, o => ∃ vs, o = .lst vs ∧ DVs K G ds vs
  | .dK kvs, o => ∃ vs : List V, o = .dK ((kvs.map (·.1)).zip vs) ∧ DVs K G (kvs.map (·.2)) vs
  | .dT kvs, o => ∃ vs : List V, o = .dT ((kvs.map (·.1)).zip vs) ∧ DVs K G (kvs.map (·.2)) vs
  | .ins C dx fs, o => ∃ vs : List V, o = .ins C dx ((fs.map (·.1)).zip vs) ∧ DVs K G (fs.map (·.2)) vs
  | .xd fs, o => ∃ vs : List V, o = .xd ((fs.map (·.1)).zip vs) ∧ DVs K G (fs.map (·.2)) vs
  | .raw u, o => o = u
theorem ROk.mono {K : PySem.W.Frag} {G G' : Hp} (e : Same G G') : ∀ {r : RO} {o : HO}, ROk K G r o → ROk K G' r o
  | .lst _, _, ⟨vs, h, q⟩ => ⟨vs, h, q.mono e⟩
  | .dK _, _, ⟨vs, h, q⟩ => ⟨vs, h, q.mono e⟩
  | .dT _, _, ⟨vs, h, q⟩ => ⟨vs, h, q.mono e⟩
  | .ins _ _ _, _, ⟨vs, h, q⟩ => ⟨vs, h, q.mono e⟩
  | .xd _, _, ⟨vs, h, q⟩ => ⟨vs, h, q.mono e⟩
  | .raw _, _, h => h

/-- the tables of code objects that are told, and the names by their places -/
class TabCtx where
  T : Addr → Option (Nat → Nat → Str)
/-- a hidden table of code objects, their names by their places -/
def TabH (G : Hp) (R : Rs) (H : Hp) (a : Addr) (nm : Nat → Nat → Str) : Prop := G a = none ∧ R a = none ∧ ∃ ps : Array Value, H a = some (.tbl ps) ∧ TriplesOk ps.toList ∧ ∀ (pos : Pos) (cv : Value), codeAmong pos ps.toList = some cv → ∃ c, cv = .ref c ∧ G c = some (LamX.CodeO c (nm pos.line pos.col))
def NoTab (o : HO) : Prop := ∀ ps, o ≠ .tbl ps
variable [TabCtx]
/-- one step on: what never changes grows; what is hidden (neither told as unchanging nor as changing) stays, but for the tables of code objects -/
structure Stp (G : Hp) (R : Rs) (H : Hp) (G' : Hp) (R' : Rs) (H' : Hp) : Prop where
  g : Same G G'
  f : ∀ a o, H a = some o → NoTab o → R a = none → G a = none → H' a = some o ∧ R' a = none ∧ G' a = none
  t : ∀ a q, TabCtx.T a = some q → TabH G R H a q → TabH G' R' H' a q
theorem Stp.mk0 {G G' : Hp} {R R' : Rs} {H H' : Hp} (g : Same G G') (f : ∀ a o, H a = some o → R a = none → G a = none → H' a = some o ∧ R' a = none ∧ G' a = none) : Stp G R H G' R' H' :=
  ⟨g, fun a o h1 _ h2 h3 => f a o h1 h2 h3, fun a q _ ⟨h1, h2, ps, h3, h4, h5⟩ => by
    obtain ⟨q1, q2, q3⟩ := f a _ h3 h2 h1
    exact ⟨q3, q2, ps, q1, h4, fun pos cv hc => let ⟨c, e1, e2⟩ := h5 pos cv hc; ⟨c, e1, g _ _ e2⟩⟩⟩
theorem Stp.refl (G : Hp) (R : Rs) (H : Hp) : Stp G R H G R H := .mk0 (Same.refl G) fun _ _ a b c => ⟨a, b, c⟩
theorem Stp.trans {G G1 G2 : Hp} {R R1 R2 : Rs} {H H1 H2 : Hp} (a : Stp G R H G1 R1 H1) (b : Stp G1 R1 H1 G2 R2 H2) : Stp G R H G2 R2 H2 :=
  ⟨a.g.trans b.g, fun x o h1 hn h2 h3 => let ⟨q1, q2, q3⟩ := a.f x o h1 hn h2 h3; b.f x o q1 hn q2 q3, fun x q z h => b.t x q z (a.t x q z h)⟩

theorem Stp.drop {G0 G : Hp} {R0 R R2 : Rs} {H0 H : Hp} (e : Stp G0 R0 H0 G R H) (s : ∀ a ro, R2 a = some ro → R a = some ro) : Stp G0 R0 H0 G R2 H :=
  e.trans (.mk0 (Same.refl G) fun a o h1 h2 h3 => by
    refine ⟨h1, ?_, h3⟩
    cases z : R2 a with
    | none => rfl
    | some ro => rw [s a ro z] at h2; cases h2)
/-- what stays true from a def's beginning on -/
structure Phi where
  p : Hp → Rs → Hp → Prop
  st : ∀ {G R H G' R' H'}, Stp G R H G' R' H' → p G R H → p G' R' H'
def Phi.all : Phi := ⟨fun _ _ _ => True, fun _ _ => trivial⟩
def Phi.of (G0 : Hp) (R0 : Rs) (H0 : Hp) : Phi := ⟨fun G R H => Stp G0 R0 H0 G R H, fun e h => h.trans e⟩
/-- the written part, and what stays true all along -/
structure KB where
  F : PySem.W.Frag
  B : Phi
instance : Coe KB PySem.W.Frag := ⟨KB.F⟩
structure KF where
  F : KB
  Φ : Phi
instance : Coe KF PySem.W.Frag := ⟨fun K => K.F.F⟩
structure CxF where
  X : Cx
  Φ : Phi
  B : Phi
instance : Coe CxF Cx := ⟨CxF.X⟩
namespace CxF
abbrev K (X : CxF) : KF := ⟨⟨X.X.K, X.B⟩, X.Φ⟩
abbrev A (X : CxF) : Around := X.X.A
abbrev env (X : CxF) : Env := X.X.env
abbrev N (X : CxF) : List Str := X.X.N
abbrev mg (X : CxF) : Str → Option Value := X.X.mg
abbrev calm (X : CxF) : Bool := X.X.calm
abbrev prog (X : CxF) : Program := X.X.prog
abbrev w (X : CxF) : World := X.X.w
abbrev base (X : CxF) : Heap := X.X.base
abbrev xe (X : CxF) : Value → Shared → Prop := X.X.xe
abbrev fn (X : CxF) := X.X.fn
abbrev stack (X : CxF) := X.X.stack
abbrev blk (X : CxF) (s : Shared) (H : Hp) (scope : Scope) (e : Env) (fp : List Addr) : CxF := ⟨X.X.blk s H scope e fp, X.Φ, X.B⟩
end CxF
structure RepH (K : KF) (G : Hp) (R : Rs) (H : Hp) : Prop where
  g : Same G H
  r : ∀ a ro, R a = some ro → G a = none ∧ ∃ o, H a = some o ∧ ROk K G ro o
  φ : K.Φ.p G R H
  b : K.F.B.p G R H
section
variable {K : KF} {G G' : Hp} {R R' : Rs} {H H' : Hp}
theorem RepH.free (h : RepH K G R H) {a : Addr} (e : H a = none) : R a = none := by
  cases q : R a with
  | none => rfl
  | some ro =>
    obtain ⟨_, o, h2, _⟩ := h.r a ro q
    rw [e] at h2; cases h2
theorem RepH.gfree (h : RepH K G R H) {a : Addr} (e : H a = none) : G a = none := by
  cases q : G a with
  | none => rfl
  | some o => have := h.g a o q; rw [e] at this; cases this
/-- forget some of what may change -/
theorem RepH.sub0 (h : RepH K G R H) (s : ∀ a ro, R' a = some ro → R a = some ro) : RepH K G R' H := ⟨h.g, fun a ro e => h.r a ro (s a ro e), K.Φ.st ((Stp.refl G R H).drop s) h.φ, K.F.B.st ((Stp.refl G R H).drop s) h.b⟩
/-- a new thing that never changes -/
theorem RepH.imm (h : RepH K G R H) {p : Addr} {o : HO} (e : H p = none) : Stp G R H (upd G p o) R (upd H p o) ∧ RepH K (upd G p o) R (upd H p o) := by
  have gp := h.gfree e
  have s1 : Same G (upd G p o) := fun b u q => by rw [upd_ne (ne_of_none q gp)]; exact q
  have S : Stp G R H (upd G p o) R (upd H p o) := .mk0 s1 fun b u q1 q2 q3 => by
    have hb : b ≠ p := ne_of_none q1 e
    exact ⟨by rw [upd_ne hb]; exact q1, q2, by rw [upd_ne hb]; exact q3⟩
  refine ⟨S, ⟨fun b u q => ?_, fun a ro q => ?_, K.Φ.st S h.φ, K.F.B.st S h.b⟩⟩
  · by_cases hb : b = p
    · subst hb; rw [upd_same] at q; rw [upd_same]; exact q
    · rw [upd_ne hb] at q; rw [upd_ne hb]; exact h.g b u q
  · obtain ⟨h1, u, h2, h3⟩ := h.r a ro q
    have hb : a ≠ p := ne_of_none h2 e
    exact ⟨by rw [upd_ne hb]; exact h1, u, by rw [upd_ne hb]; exact h2, h3.mono s1⟩
/-- a new thing that may change -/
theorem RepH.new (h : RepH K G R H) {p : Addr} {o : HO} {ro : RO} (e : H p = none) (k : ROk K G ro o) : Stp G R H G (put R p ro) (upd H p o) ∧ RepH K G (put R p ro) (upd H p o) := by
  have gp := h.gfree e
  have S : Stp G R H G (put R p ro) (upd H p o) := .mk0 (Same.refl G) fun b u q1 q2 q3 => by
    have hb : b ≠ p := ne_of_none q1 e
    exact ⟨by rw [upd_ne hb]; exact q1, by rw [put_ne hb]; exact q2, q3⟩
  refine ⟨S, ?_⟩
  refine ⟨fun b u q => by rw [upd_ne (ne_of_none q gp)]; exact h.g b u q, fun a r q => ?_, K.Φ.st S h.φ, K.F.B.st S h.b⟩
  by_cases hb : a = p
  · subst hb; rw [put_same] at q; cases q; exact ⟨gp, o, upd_same, k⟩
  · rw [put_ne hb] at q
    obtain ⟨h1, u, h2, h3⟩ := h.r a r q
    exact ⟨h1, u, by rw [upd_ne hb]; exact h2, h3⟩
/-- a thing is changed -/
theorem RepH.chg (h : RepH K G R H) {p : Addr} {o : HO} {ro r0 : RO} (e : R p = some r0) (k : ROk K G ro o) : Stp G R H G (put R p ro) (upd H p o) ∧ RepH K G (put R p ro) (upd H p o) := by
  obtain ⟨gp, _, _, _⟩ := h.r p r0 e
  have S : Stp G R H G (put R p ro) (upd H p o) := .mk0 (Same.refl G) fun b u q1 q2 q3 => by
    have hb : b ≠ p := by intro z; subst z; rw [q2] at e; cases e
    exact ⟨by rw [upd_ne hb]; exact q1, by rw [put_ne hb]; exact q2, q3⟩
  refine ⟨S, ?_⟩
  refine ⟨fun b u q => by rw [upd_ne (ne_of_none q gp)]; exact h.g b u q, fun a r q => ?_, K.Φ.st S h.φ, K.F.B.st S h.b⟩
  by_cases hb : a = p
  · subst hb; rw [put_same] at q; cases q; exact ⟨gp, o, upd_same, k⟩
  · rw [put_ne hb] at q
    obtain ⟨h1, u, h2, h3⟩ := h.r a r q
    exact ⟨h1, u, by rw [upd_ne hb]; exact h2, h3⟩
/-- the heap beside what is told has a new thing -/
theorem Stp.more (s : Same H H') : Stp G R H G R H' := .mk0 (Same.refl G) fun a o q1 q2 q3 => ⟨s a o q1, q2, q3⟩
theorem RepH.more (h : RepH K G R H) (s : Same H H') : RepH K G R H' := ⟨h.g.trans s, fun a ro e => let ⟨h1, o, h2, h3⟩ := h.r a ro e; ⟨h1, o, s _ _ h2, h3⟩, K.Φ.st (.more s) h.φ, K.F.B.st (.more s) h.b⟩
theorem RepH.lst (h : RepH K G R H) {l : Addr} {ds : List D} (e : R l = some (.lst ds)) : ∃ vs, H l = some (.lst vs) ∧ DVs K G ds vs := by
  obtain ⟨_, o, h2, vs, rfl, h3⟩ := h.r l _ e
  exact ⟨vs, h2, h3⟩
end

/-! ### readings -/
abbrev DSt := List (Option D)
abbrev DK := D → Rs → Prop
abbrev DTE := DSt → Rs → DK → Prop
abbrev DTT := DSt → Rs → (Bool → Rs → Prop) → Prop
abbrev DTA := DSt → Rs → (List D → Rs → Prop) → Prop
structure DEnds where
  nx : DSt → Rs → Prop
  rt : DK
  bk : DSt → Rs → Prop := fun _ _ => False
  ct : DSt → Rs → Prop := fun _ _ => False
abbrev DTS := DEnds → DSt → Rs → Prop

structure SV (K : PySem.W.Frag) (G : Hp) (sd : DSt) (s : L2.St) : Prop where
  len : sd.length = s.length
  at' : ∀ (i : Nat) (d : D), sd[i]? = some (some d) → ∃ v, s[i]? = some (some v) ∧ DV K G d v
theorem SV.mono {K : PySem.W.Frag} {G G' : Hp} {sd : DSt} {s : L2.St} (h : SV K G sd s) (e : Same G G') : SV K G' sd s :=
  ⟨h.len, fun i d q => let ⟨v, a, b⟩ := h.at' i d q; ⟨v, a, b.mono e⟩⟩
theorem SV.set {K : PySem.W.Frag} {G : Hp} {sd : DSt} {s : L2.St} (h : SV K G sd s) (i : Nat) {d : D} {v : V} (q : DV K G d v) : SV K G (sd.set i (some d)) (s.set i (some v)) := by
  refine ⟨by rw [List.length_set, List.length_set]; exact h.len, fun j e hj => ?_⟩
  by_cases hij : i = j
  · subst hij
    by_cases hl : i < sd.length
    · rw [List.getElem?_set_self hl] at hj
      cases hj
      exact ⟨v, List.getElem?_set_self (by rw [← h.len]; exact hl), q⟩
    · rw [List.getElem?_eq_none (by rw [List.length_set]; omega)] at hj; cases hj
  · rw [List.getElem?_set_ne hij] at hj
    rw [List.getElem?_set_ne hij]
    exact h.at' j e hj
theorem SV.forget {K : PySem.W.Frag} {G : Hp} {sd : DSt} {s : L2.St} (h : SV K G sd s) (i : Nat) : SV K G (sd.set i none) (s.set i none) := by
  refine ⟨by rw [List.length_set, List.length_set]; exact h.len, fun j e hj => ?_⟩
  by_cases hij : i = j
  · subst hij
    by_cases hl : i < sd.length
    · rw [List.getElem?_set_self hl] at hj; cases hj
    · rw [List.getElem?_eq_none (by rw [List.length_set]; omega)] at hj; cases hj
  · rw [List.getElem?_set_ne hij] at hj
    rw [List.getElem?_set_ne hij]
    exact h.at' j e hj

structure EB (K : KF) (G : Hp) (R : Rs) (H : Hp) (Ed : DEnds) (E : Ends) : Prop where
  nx : ∀ G' sd s R' H', Stp G R H G' R' H' → SV K G' sd s → RepH K G' R' H' → Ed.nx sd R' → E.nx s H'
  rt : ∀ G' R' H' d v, Stp G R H G' R' H' → RepH K G' R' H' → DV K G' d v → Ed.rt d R' → E.rt v H'
  bk : ∀ G' sd s R' H', Stp G R H G' R' H' → SV K G' sd s → RepH K G' R' H' → Ed.bk sd R' → E.bk s H'
  ct : ∀ G' sd s R' H', Stp G R H G' R' H' → SV K G' sd s → RepH K G' R' H' → Ed.ct sd R' → E.ct s H'
theorem EB.st {K : KF} {G G' : Hp} {R R' : Rs} {H H' : Hp} {Ed : DEnds} {E : Ends} (h : EB K G R H Ed E) (e : Stp G R H G' R' H') : EB K G' R' H' Ed E :=
  ⟨fun g sd s R H q => h.nx g sd s R H (e.trans q), fun g R H d v q => h.rt g R H d v (e.trans q), fun g sd s R H q => h.bk g sd s R H (e.trans q), fun g sd s R H q => h.ct g sd s R H (e.trans q)⟩
theorem SV.st {K : PySem.W.Frag} {G G' : Hp} {R R' : Rs} {H H' : Hp} {sd : DSt} {s : L2.St} (h : SV K G sd s) (e : Stp G R H G' R' H') : SV K G' sd s := h.mono e.g
theorem DV.st {K : PySem.W.Frag} {G G' : Hp} {R R' : Rs} {H H' : Hp} {d : D} {v : V} (h : DV K G d v) (e : Stp G R H G' R' H') : DV K G' d v := h.mono e.g
theorem DVs.st {K : PySem.W.Frag} {G G' : Hp} {R R' : Rs} {H H' : Hp} {d : List D} {v : List V} (h : DVs K G d v) (e : Stp G R H G' R' H') : DVs K G' d v := h.mono e.g

/-- what stands behind an expression -/
def CB (K : KF) (G : Hp) (R : Rs) (H : Hp) (Qd : DK) (Q : VK) : Prop := ∀ G' R' H' d v, Stp G R H G' R' H' → RepH K G' R' H' → DV K G' d v → Qd d R' → Q v H'
def CBT (K : KF) (G : Hp) (R : Rs) (H : Hp) (Qd : Bool → Rs → Prop) (Q : Bool → Hp → Prop) : Prop := ∀ G' R' H' b, Stp G R H G' R' H' → RepH K G' R' H' → Qd b R' → Q b H'
def CBA (K : KF) (G : Hp) (R : Rs) (H : Hp) (Qd : List D → Rs → Prop) (Q : List V → Hp → Prop) : Prop := ∀ G' R' H' ds vs, Stp G R H G' R' H' → RepH K G' R' H' → DVs K G' ds vs → Qd ds R' → Q vs H'
def CBS (K : KF) (G : Hp) (R : Rs) (H : Hp) (Qd : DSt → Rs → Prop) (Q : L2.St → Hp → Prop) : Prop := ∀ G' sd s R' H', Stp G R H G' R' H' → SV K G' sd s → RepH K G' R' H' → Qd sd R' → Q s H'
section
variable {K : KF} {G G' : Hp} {R R' : Rs} {H H' : Hp}
theorem CB.st {Qd : DK} {Q : VK} (h : CB K G R H Qd Q) (e : Stp G R H G' R' H') : CB K G' R' H' Qd Q := fun g R H d v q => h g R H d v (e.trans q)
theorem CBT.st {Qd : Bool → Rs → Prop} {Q : Bool → Hp → Prop} (h : CBT K G R H Qd Q) (e : Stp G R H G' R' H') : CBT K G' R' H' Qd Q := fun g R H b q => h g R H b (e.trans q)
theorem CBA.st {Qd : List D → Rs → Prop} {Q : List V → Hp → Prop} (h : CBA K G R H Qd Q) (e : Stp G R H G' R' H') : CBA K G' R' H' Qd Q := fun g R H d v q => h g R H d v (e.trans q)
theorem CBS.st {Qd : DSt → Rs → Prop} {Q : L2.St → Hp → Prop} (h : CBS K G R H Qd Q) (e : Stp G R H G' R' H') : CBS K G' R' H' Qd Q := fun g sd s R H q => h g sd s R H (e.trans q)
end
def LE (K : KF) (te : TE) (td : DTE) : Prop := ∀ G sd s R H Qd Q, SV K G sd s → RepH K G R H → td sd R Qd → CB K G R H Qd Q → te s H Q
def LT (K : KF) (te : TT) (td : DTT) : Prop := ∀ G sd s R H Qd Q, SV K G sd s → RepH K G R H → td sd R Qd → CBT K G R H Qd Q → te s H Q
def LA (K : KF) (te : TA) (td : DTA) : Prop := ∀ G sd s R H Qd Q, SV K G sd s → RepH K G R H → td sd R Qd → CBA K G R H Qd Q → te s H Q
def LS (K : KF) (ts : TS) (td : DTS) : Prop := ∀ G sd s R H Ed E, SV K G sd s → RepH K G R H → td Ed sd R → EB K G R H Ed E → ts E s H

def DE (X : CxF) (e : Expr) (t : DTE) : Prop := ∃ te, PE X e te ∧ LE X.K te t
def DT (X : CxF) (e : Expr) (t : DTT) : Prop := ∃ te, PT X e te ∧ LT X.K te t
def DW (X : CxF) (e : Expr) (t : DTT) : Prop := ∃ te, PW X e te ∧ LT X.K te t
def DA (X : CxF) (es : List Expr) (t : DTA) : Prop := ∃ te, PA X es te ∧ LA X.K te t
def DS (X : CxF) (st : Stmt) (t : DTS) : Prop := ∃ te, PS X st te ∧ LS X.K te t
def DSs (X : CxF) (st : List Stmt) (t : DTS) : Prop := ∃ te, PSs X st te ∧ LS X.K te t

/-! ### names and constants -/
def dVar (i : Nat) : DTE := fun s R Q => ∃ d, s[i]? = some (some d) ∧ Q d R
def dC (d : D) : DTE := fun _ R Q => Q d R
theorem LE.var {K : KF} (i : Nat) : LE K (tVar i) (dVar i) := fun G sd s R H Qd Q sv rh ⟨d, e, q⟩ c => by
  obtain ⟨v, e2, r⟩ := sv.at' i d e
  exact ⟨v, e2, c G R H d v (Stp.refl G R H) rh r q⟩
theorem LE.con {K : KF} {v : V} {d : D} (h : ∀ G, DV K G d v) : LE K (tC v) (dC d) := fun G sd s R H Qd Q sv rh q c => c G R H d v (Stp.refl G R H) rh (h G) q
section
variable {X : CxF}
theorem dv (i : Nat) {x : Str} {pos : Pos} (hN : X.N[i]? = some x := by rfl) (hv : Vis X.env.scope x := by first | exact Or.inl rfl | exact Or.inr (Or.inl rfl) | exact Or.inr (Or.inr rfl)) (hd : (x == ("__debug__" : Str)) = false := by decide)
    (hcd : (x == ("__classdict__" : Str)) = false := by decide) : DE X (.Name x pos) (dVar i) := ⟨_, pe_var hN hv hd hcd, LE.var i⟩
theorem de_int {i : Int} {j : Nat} {pos : Pos} : DE X (.Constant (.int i) j pos) (dC (.int i)) := ⟨_, pe_int, LE.con fun _ => .int _⟩
theorem de_bl {b : Bool} {j : Nat} {pos : Pos} : DE X (.Constant (.bool b) j pos) (dC (.bl b)) := ⟨_, pe_bl, LE.con fun _ => .bl _⟩
theorem de_str {x : Str} {j : Nat} {pos : Pos} : DE X (.Constant (.str x) j pos) (dC (.str x)) := ⟨_, pe_str, LE.con fun _ => .str _⟩
end
end DL
end
section
set_option Elab.async false
set_option maxRecDepth 100000
set_option linter.all false
set_option autoImplicit false
/-! DL2: expressions, tests, statements, loops over plain data -/
namespace DL
open PySem PySem.Spec PyProof.Rows L2
variable [TabCtx]

/-! ### values -/
abbrev DR2 := D → D → Rs → DK → Prop
def LR1 (K : KF) (r : V → Hp → VK → Prop) (rd : D → Rs → DK → Prop) : Prop := ∀ G R H x xd Qd Q, RepH K G R H → DV K G xd x → rd xd R Qd → CB K G R H Qd Q → r x H Q
def LR2 (K : KF) (r : R2) (rd : DR2) : Prop := ∀ G R H x y xd yd Qd Q, RepH K G R H → DV K G xd x → DV K G yd y → rd xd yd R Qd → CB K G R H Qd Q → r x y H Q
def LRA (K : KF) (r : List V → Hp → VK → Prop) (rd : List D → Rs → DK → Prop) : Prop := ∀ G R H xs ds Qd Q, RepH K G R H → DVs K G ds xs → rd ds R Qd → CB K G R H Qd Q → r xs H Q
def LRM (K : KF) (r : V → List V → Hp → VK → Prop) (rd : D → List D → Rs → DK → Prop) : Prop := ∀ G R H x xs d ds Qd Q, RepH K G R H → DV K G d x → DVs K G ds xs → rd d ds R Qd → CB K G R H Qd Q → r x xs H Q
def LRS (K : KF) (r : V → Option Int → Option Int → Hp → VK → Prop) (rd : D → Option Int → Option Int → Rs → DK → Prop) : Prop := ∀ G R H x d lo hi Qd Q, RepH K G R H → DV K G d x → rd d lo hi R Qd → CB K G R H Qd Q → r x lo hi H Q
def OpD (X : CxF) (f : Value → Value → Sem Value) (rd : DR2) : Prop := ∃ r, OpR X f r ∧ LR2 X.K r rd
def UnD (X : CxF) (f : Value → Sem Value) (rd : D → Rs → DK → Prop) : Prop := ∃ r, UnR X f r ∧ LR1 X.K r rd
def CallD (X : CxF) (f : Value) (rd : List D → Rs → DK → Prop) : Prop := ∃ r, CallR X f r ∧ LRA X.K r rd
def MtD (X : CxF) (id : String) (rd : D → List D → Rs → DK → Prop) : Prop := ∃ r, MtR X id r ∧ LRM X.K r rd
def IxD (X : CxF) (rd : DR2) : Prop := ∃ r, IxR X r ∧ LR2 X.K r rd
def SlD (X : CxF) (rd : D → Option Int → Option Int → Rs → DK → Prop) : Prop := ∃ r, SlR X r ∧ LRS X.K r rd

/-! ### expressions -/
def dOp (r : DR2) (ta tb : DTE) : DTE := fun s R Q => ta s R fun x R1 => tb s R1 fun y R2 => r x y R2 Q
def dUn (r : D → Rs → DK → Prop) (ta : DTE) : DTE := fun s R Q => ta s R fun x R1 => r x R1 Q
def dNil : DTA := fun _ R Q => Q [] R
def dCons (ta : DTE) (tr : DTA) : DTA := fun s R Q => ta s R fun x R1 => tr s R1 fun xs R2 => Q (x :: xs) R2
def dCB (r : List D → Rs → DK → Prop) (t : DTA) : DTE := fun s R Q => t s R fun ds R1 => r ds R1 Q
/-- a tuple -/
def dTup (t : DTA) : DTE := fun s R Q => t s R fun ds R1 => ds.length ≤ sizeLine ∧ Q (.tup ds) R1
/-- a list that never changes -/
def dLstF (t : DTA) : DTE := fun s R Q => t s R fun ds R1 => ds.length ≤ sizeLine ∧ Q (.lst ds) R1
/-- a list that may change -/
def dLst (t : DTA) : DTE := fun s R Q => t s R fun ds R1 => ds.length ≤ sizeLine ∧ ∀ p, R1 p = none → Q (.ref p) (put R1 p (.lst ds))
def dIf (t : DTT) (ta tb : DTE) : DTE := fun s R Q => t s R fun c R1 => if c = true then ta s R1 Q else tb s R1 Q
def dB (t : DTE) : DTT := fun s R Q => t s R fun x R1 => ∃ c, x = .bl c ∧ Q c R1
def dAnd (t u : DTT) : DTT := fun s R Q => t s R fun c R1 => if c = true then u s R1 Q else Q false R1
def dOr (t u : DTT) : DTT := fun s R Q => t s R fun c R1 => if c = true then Q true R1 else u s R1 Q
def dNot (t : DTT) : DTT := fun s R Q => t s R fun c R1 => Q (!c) R1
def dAndV (ta tb : DTE) : DTE := fun s R Q => ta s R fun x R1 => ∃ c, x = .bl c ∧ if c = true then tb s R1 Q else Q (.bl false) R1
def dOrV (ta tb : DTE) : DTE := fun s R Q => ta s R fun x R1 => ∃ c, x = .bl c ∧ if c = true then Q (.bl true) R1 else tb s R1 Q
def dNotV (ta : DTE) : DTE := fun s R Q => ta s R fun x R1 => ∃ c, x = .bl c ∧ Q (.bl (!c)) R1
def dChain (r r' : DR2) (ta tb tc : DTE) : DTE := fun s R Q => ta s R fun x R1 => tb s R1 fun y R2 => r x y R2 fun z R3 => ∃ k, z = .bl k ∧ (if k = true then tc s R3 fun w' R4 => r' y w' R4 Q else Q (.bl false) R3)

section
variable {X : CxF} {a b c e o : Expr} {es rest : List Expr} {ta tb tc te to : DTE} {tA tB' : DTT} {t : DTA} {pos p apos cpos : Pos}
theorem de_op {op : Operator} {r : DR2} (ho : OpD X (binaryOp op) r) (ha : DE X a ta) (hb : DE X b tb) : DE X (.BinOp a op b pos) (dOp r ta tb) := by
  obtain ⟨r0, o1, o2⟩ := ho; obtain ⟨t1, a1, a2⟩ := ha; obtain ⟨t2, b1, b2⟩ := hb
  exact ⟨_, pe_op o1 a1 b1, fun G sd s R H Qd Q sv rh q k => a2 G sd s R H _ _ sv rh q fun G1 R1 H1 d v e1 rh1 dv1 q1 => b2 G1 sd s R1 H1 _ _ (sv.st e1) rh1 q1 fun G2 R2 H2 d2 v2 e2 rh2 dv2 q2 => o2 G2 R2 H2 v v2 d d2 _ _ rh2 (dv1.st e2) dv2 q2 (k.st (e1.trans e2))⟩
theorem de_cmp {op : CmpOp} {r : DR2} (ho : OpD X (compareOp op) r) (ha : DE X a ta) (hb : DE X b tb) (hm : behindInMarks op b = false) : DE X (.Compare a [op] [b] pos) (dOp r ta tb) := by
  obtain ⟨r0, o1, o2⟩ := ho; obtain ⟨t1, a1, a2⟩ := ha; obtain ⟨t2, b1, b2⟩ := hb
  exact ⟨_, pe_cmpR o1 a1 b1 hm, fun G sd s R H Qd Q sv rh q k => a2 G sd s R H _ _ sv rh q fun G1 R1 H1 d v e1 rh1 dv1 q1 => b2 G1 sd s R1 H1 _ _ (sv.st e1) rh1 q1 fun G2 R2 H2 d2 v2 e2 rh2 dv2 q2 => o2 G2 R2 H2 v v2 d d2 _ _ rh2 (dv1.st e2) dv2 q2 (k.st (e1.trans e2))⟩
theorem DV.ofBl {K : PySem.W.Frag} {G : Hp} {c : Bool} {v : V} (h : DV K G (.bl c) v) : v = .bl c := by cases h; rfl
theorem dt_cmp {op : CmpOp} {r : DR2} (ho : OpD X (compareOp op) r) (ha : DE X a ta) (hb : DE X b tb) (hm : behindInMarks op b = false) : DT X (.Compare a [op] [b] pos) (dB (dOp r ta tb)) := by
  obtain ⟨r0, o1, o2⟩ := ho; obtain ⟨t1, a1, a2⟩ := ha; obtain ⟨t2, b1, b2⟩ := hb
  refine ⟨_, pt_cmpR o1 a1 b1 hm, fun G sd s R H Qd Q sv rh q k => a2 G sd s R H _ _ sv rh q fun G1 R1 H1 d v e1 rh1 dv1 q1 => b2 G1 sd s R1 H1 _ _ (sv.st e1) rh1 q1 fun G2 R2 H2 d2 v2 e2 rh2 dv2 q2 => o2 G2 R2 H2 v v2 d d2 _ _ rh2 (dv1.st e2) dv2 q2 fun G3 R3 H3 d3 v3 e3 rh3 dv3 q3 => ?_⟩
  obtain ⟨c, rfl, q4⟩ := q3
  exact ⟨c, DV.ofBl dv3, k G3 R3 H3 c (e1.trans (e2.trans e3)) rh3 q4⟩
theorem de_chain {op op' : CmpOp} {r r' : DR2} (ho : OpD X (compareOp op) r) (ho' : OpD X (compareOp op') r') (ha : DE X a ta) (hb : DE X b tb) (hc : DE X c tc) (hm : lastMarks [op, op'] [b, c] = false := by with_unfolding_all rfl) : DE X (.Compare a [op, op'] [b, c] pos) (dChain r r' ta tb tc) := by
  obtain ⟨r0, o1, o2⟩ := ho; obtain ⟨r0', o1', o2'⟩ := ho'; obtain ⟨t1, a1, a2⟩ := ha; obtain ⟨t2, b1, b2⟩ := hb; obtain ⟨t3, c1, c2⟩ := hc
  refine ⟨_, pe_chain o1 o1' a1 b1 c1 hm, fun G sd s R H Qd Q sv rh q k => a2 G sd s R H _ _ sv rh q fun G1 R1 H1 d v e1 rh1 dv1 q1 => b2 G1 sd s R1 H1 _ _ (sv.st e1) rh1 q1 fun G2 R2 H2 d2 v2 e2 rh2 dv2 q2 => o2 G2 R2 H2 v v2 d d2 _ _ rh2 (dv1.st e2) dv2 q2 fun G3 R3 H3 d3 v3 e3 rh3 dv3 q3 => ?_⟩
  obtain ⟨c, rfl, q4⟩ := q3
  refine ⟨c, DV.ofBl dv3, ?_⟩
  have g3 := e1.trans (e2.trans e3)
  cases c with
  | false => exact k G3 R3 H3 _ _ g3 rh3 (.bl false) q4
  | true => exact c2 G3 sd s R3 H3 _ _ (sv.st g3) rh3 q4 fun G4 R4 H4 d4 v4 e4 rh4 dv4 q5 => o2' G4 R4 H4 v2 v4 d2 d4 _ _ rh4 (dv2.st (e3.trans e4)) dv4 q5 (k.st (g3.trans e4))
theorem dt_chain {op op' : CmpOp} {r r' : DR2} (ho : OpD X (compareOp op) r) (ho' : OpD X (compareOp op') r') (ha : DE X a ta) (hb : DE X b tb) (hc : DE X c tc) (hm : lastMarks [op, op'] [b, c] = false := by with_unfolding_all rfl) : DT X (.Compare a [op, op'] [b, c] pos) (dB (dChain r r' ta tb tc)) := by
  obtain ⟨r0, o1, o2⟩ := ho; obtain ⟨r0', o1', o2'⟩ := ho'; obtain ⟨t1, a1, a2⟩ := ha; obtain ⟨t2, b1, b2⟩ := hb; obtain ⟨t3, c1, c2⟩ := hc
  refine ⟨_, pt_chain o1 o1' a1 b1 c1 hm, fun G sd s R H Qd Q sv rh q k => a2 G sd s R H _ _ sv rh q fun G1 R1 H1 d v e1 rh1 dv1 q1 => b2 G1 sd s R1 H1 _ _ (sv.st e1) rh1 q1 fun G2 R2 H2 d2 v2 e2 rh2 dv2 q2 => o2 G2 R2 H2 v v2 d d2 _ _ rh2 (dv1.st e2) dv2 q2 fun G3 R3 H3 d3 v3 e3 rh3 dv3 q3 => ?_⟩
  obtain ⟨c, rfl, q4⟩ := q3
  refine ⟨c, DV.ofBl dv3, ?_⟩
  have g3 := e1.trans (e2.trans e3)
  cases c with
  | false =>
    obtain ⟨c', e', q5⟩ := q4
    cases e'
    exact ⟨false, rfl, k G3 R3 H3 _ g3 rh3 q5⟩
  | true =>
    refine c2 G3 sd s R3 H3 _ _ (sv.st g3) rh3 q4 fun G4 R4 H4 d4 v4 e4 rh4 dv4 q5 => o2' G4 R4 H4 v2 v4 d2 d4 _ _ rh4 (dv2.st (e3.trans e4)) dv4 q5 fun G5 R5 H5 d5 v5 e5 rh5 dv5 q6 => ?_
    obtain ⟨c', rfl, q7⟩ := q6
    exact ⟨c', DV.ofBl dv5, k G5 R5 H5 c' (g3.trans (e4.trans e5)) rh5 q7⟩
theorem dt_val (h : DE X e te) (he : ∀ whole, isTrue e X.env whole = (do let v ← whole; standAt e.pos; holding [v] (truthy v)) := by intro _; rfl) : DT X e (dB te) := by
  obtain ⟨t1, a1, a2⟩ := h
  refine ⟨_, pt_val a1 he, fun G sd s R H Qd Q sv rh q k => a2 G sd s R H _ _ sv rh q fun G1 R1 H1 d v e1 rh1 dv1 q1 => ?_⟩
  obtain ⟨c, rfl, q2⟩ := q1
  exact ⟨c, DV.ofBl dv1, k G1 R1 H1 c e1 rh1 q2⟩
theorem DW.dt {t : DTT} (h : DW X e t) : DT X e t := let ⟨t1, a, b⟩ := h; ⟨t1, a.pt, b⟩
theorem dw_and1 (ha : DT X a tA) : DW X (.BoolOp .And [a] pos) tA := let ⟨t1, a1, a2⟩ := ha; ⟨t1, pw_and1 a1, a2⟩
theorem dw_or1 (ha : DT X a tA) : DW X (.BoolOp .Or [a] pos) tA := let ⟨t1, a1, a2⟩ := ha; ⟨t1, pw_or1 a1, a2⟩
theorem dw_and (ha : DT X a tA) (hb : DW X (.BoolOp .And (b :: rest) pos) tB') : DW X (.BoolOp .And (a :: b :: rest) pos) (dAnd tA tB') := by
  obtain ⟨t1, a1, a2⟩ := ha; obtain ⟨t2, b1, b2⟩ := hb
  refine ⟨_, pw_and a1 b1, fun G sd s R H Qd Q sv rh q k => a2 G sd s R H _ _ sv rh q fun G1 R1 H1 c e1 rh1 q1 => ?_⟩
  cases c with
  | false => exact k G1 R1 H1 _ e1 rh1 q1
  | true => exact b2 G1 sd s R1 H1 _ _ (sv.st e1) rh1 q1 (k.st e1)
theorem dw_or (ha : DT X a tA) (hb : DW X (.BoolOp .Or (b :: rest) pos) tB') : DW X (.BoolOp .Or (a :: b :: rest) pos) (dOr tA tB') := by
  obtain ⟨t1, a1, a2⟩ := ha; obtain ⟨t2, b1, b2⟩ := hb
  refine ⟨_, pw_or a1 b1, fun G sd s R H Qd Q sv rh q k => a2 G sd s R H _ _ sv rh q fun G1 R1 H1 c e1 rh1 q1 => ?_⟩
  cases c with
  | true => exact k G1 R1 H1 _ e1 rh1 q1
  | false => exact b2 G1 sd s R1 H1 _ _ (sv.st e1) rh1 q1 (k.st e1)
theorem dt_not (ha : DT X a tA) : DT X (.UnaryOp .Not a pos) (dNot tA) := by
  obtain ⟨t1, a1, a2⟩ := ha
  exact ⟨_, pt_not a1, fun G sd s R H Qd Q sv rh q k => a2 G sd s R H _ _ sv rh q fun G1 R1 H1 c e1 rh1 q1 => k G1 R1 H1 _ e1 rh1 q1⟩
theorem de_one {op : BoolOp} (ha : DE X a ta) : DE X (.BoolOp op [a] pos) ta := let ⟨t1, a1, a2⟩ := ha; ⟨t1, pe_one a1, a2⟩
theorem de_and (ha : DE X a ta) (hb : DE X (.BoolOp .And (b :: rest) pos) tb) : DE X (.BoolOp .And (a :: b :: rest) pos) (dAndV ta tb) := by
  obtain ⟨t1, a1, a2⟩ := ha; obtain ⟨t2, b1, b2⟩ := hb
  refine ⟨_, pe_and a1 b1, fun G sd s R H Qd Q sv rh q k => a2 G sd s R H _ _ sv rh q fun G1 R1 H1 d v e1 rh1 dv1 q1 => ?_⟩
  obtain ⟨c, rfl, q2⟩ := q1
  refine ⟨c, DV.ofBl dv1, ?_⟩
  cases c with
  | false => exact k G1 R1 H1 _ _ e1 rh1 (.bl _) q2
  | true => exact b2 G1 sd s R1 H1 _ _ (sv.st e1) rh1 q2 (k.st e1)
theorem de_or (ha : DE X a ta) (hb : DE X (.BoolOp .Or (b :: rest) pos) tb) : DE X (.BoolOp .Or (a :: b :: rest) pos) (dOrV ta tb) := by
  obtain ⟨t1, a1, a2⟩ := ha; obtain ⟨t2, b1, b2⟩ := hb
  refine ⟨_, pe_or a1 b1, fun G sd s R H Qd Q sv rh q k => a2 G sd s R H _ _ sv rh q fun G1 R1 H1 d v e1 rh1 dv1 q1 => ?_⟩
  obtain ⟨c, rfl, q2⟩ := q1
  refine ⟨c, DV.ofBl dv1, ?_⟩
  cases c with
  | true => exact k G1 R1 H1 _ _ e1 rh1 (.bl _) q2
  | false => exact b2 G1 sd s R1 H1 _ _ (sv.st e1) rh1 q2 (k.st e1)
theorem de_if (hc : DT X c tA) (ha : DE X a ta) (hb : DE X b tb) : DE X (.IfExp c a b pos) (dIf tA ta tb) := by
  obtain ⟨t0, c1, c2⟩ := hc; obtain ⟨t1, a1, a2⟩ := ha; obtain ⟨t2, b1, b2⟩ := hb
  refine ⟨_, pe_ifExp c1 a1 b1, fun G sd s R H Qd Q sv rh q k => c2 G sd s R H _ _ sv rh q fun G1 R1 H1 c e1 rh1 q1 => ?_⟩
  cases c with
  | true => exact a2 G1 sd s R1 H1 _ _ (sv.st e1) rh1 q1 (k.st e1)
  | false => exact b2 G1 sd s R1 H1 _ _ (sv.st e1) rh1 q1 (k.st e1)
theorem da_nil : DA X [] dNil := ⟨_, pa_nil, fun G sd s R H Qd Q sv rh q k => k G R H [] [] (Stp.refl G R H) rh .nil q⟩
theorem da_cons (ha : DE X e te) (hr : DA X es t) (hs : starEach (e :: es) X.env = (false, eval e X.env) :: starEach es X.env := by rfl) : DA X (e :: es) (dCons te t) := by
  obtain ⟨t1, a1, a2⟩ := ha; obtain ⟨t2, b1, b2⟩ := hr
  exact ⟨_, pa_cons a1 b1 hs, fun G sd s R H Qd Q sv rh q k => a2 G sd s R H _ _ sv rh q fun G1 R1 H1 d v e1 rh1 dv1 q1 => b2 G1 sd s R1 H1 _ _ (sv.st e1) rh1 q1 fun G2 R2 H2 ds vs e2 rh2 dvs2 q2 => k G2 R2 H2 _ _ (e1.trans e2) rh2 (.cons (dv1.st e2) dvs2) q2⟩
theorem de_tup {x1} (h : DA X es t) : DE X (.Tuple es x1 pos) (dTup t) := by
  obtain ⟨t1, a1, a2⟩ := h
  refine ⟨_, pe_tup a1, fun G sd s R H Qd Q sv rh q k => a2 G sd s R H _ _ sv rh q fun G1 R1 H1 ds vs e1 rh1 dvs1 q1 => ?_⟩
  refine ⟨by rw [← dvs1.length]; exact q1.1, fun p hp => ?_⟩
  obtain ⟨s1, rh2⟩ := rh1.imm (o := .tup vs) hp
  exact k _ R1 _ _ _ (e1.trans s1) rh2 (.tup (.inl (.inl upd_same)) (dvs1.st s1)) q1.2
theorem de_lstF (h : DA X es t) : DE X (.List es pos) (dLstF t) := by
  obtain ⟨t1, a1, a2⟩ := h
  refine ⟨_, pe_lst a1, fun G sd s R H Qd Q sv rh q k => a2 G sd s R H _ _ sv rh q fun G1 R1 H1 ds vs e1 rh1 dvs1 q1 => ?_⟩
  refine ⟨by rw [← dvs1.length]; exact q1.1, fun p hp => ?_⟩
  obtain ⟨s1, rh2⟩ := rh1.imm (o := .lst vs) hp
  exact k _ R1 _ _ _ (e1.trans s1) rh2 (.lst upd_same (dvs1.st s1)) q1.2
theorem de_lst (h : DA X es t) : DE X (.List es pos) (dLst t) := by
  obtain ⟨t1, a1, a2⟩ := h
  refine ⟨_, pe_lst a1, fun G sd s R H Qd Q sv rh q k => a2 G sd s R H _ _ sv rh q fun G1 R1 H1 ds vs e1 rh1 dvs1 q1 => ?_⟩
  refine ⟨by rw [← dvs1.length]; exact q1.1, fun p hp => ?_⟩
  obtain ⟨s1, rh2⟩ := rh1.new (ro := .lst ds) (o := .lst vs) hp ⟨vs, rfl, dvs1⟩
  exact k _ _ _ _ _ (e1.trans s1) rh2 (.ref p) (q1.2 p (rh1.free hp))
theorem de_callB {x : Str} {id : String} {r : List D → Rs → DK → Prop} (hc : CallD X (.builtin id) r) (hg : Gl X x) (hm : X.mg x = none) (hv : bootBuiltins x = some (.builtin id)) (ha : DA X (e :: es) t) (hn : x ≠ "__name__" := by decide) (hdb : (x == ("__debug__" : Str)) = false := by decide)
    (he : starEach (e :: es) X.env = (false, eval e X.env) :: starEach es X.env := by rfl) (hpl : (backTo pos (starEach es X.env)).any (·.1) = false := by rfl) : DE X (.Call (.Name x p) (e :: es) [] pos) (dCB r t) := by
  obtain ⟨r0, o1, o2⟩ := hc; obtain ⟨t1, a1, a2⟩ := ha
  exact ⟨_, pe_callB o1 hg hm hv a1 hn hdb he hpl, fun G sd s R H Qd Q sv rh q k => a2 G sd s R H _ _ sv rh q fun G1 R1 H1 ds vs e1 rh1 dvs1 q1 => o2 G1 R1 H1 vs ds _ _ rh1 dvs1 q1 (k.st e1)⟩
theorem de_callTy {x : Str} {T : String} {r : List D → Rs → DK → Prop} (hc : CallD X (.type T) r) (hg : Gl X x) (hm : X.mg x = none) (hv : bootBuiltins x = some (.type T)) (ha : DA X (e :: es) t) (hn : x ≠ "__name__" := by decide) (hdb : (x == ("__debug__" : Str)) = false := by decide)
    (he : starEach (e :: es) X.env = (false, eval e X.env) :: starEach es X.env := by rfl) (hpl : (backTo pos (starEach es X.env)).any (·.1) = false := by rfl) : DE X (.Call (.Name x p) (e :: es) [] pos) (dCB r t) := by
  obtain ⟨r0, o1, o2⟩ := hc; obtain ⟨t1, a1, a2⟩ := ha
  exact ⟨_, pe_callTy o1 hg hm hv a1 hn hdb he hpl, fun G sd s R H Qd Q sv rh q k => a2 G sd s R H _ _ sv rh q fun G1 R1 H1 ds vs e1 rh1 dvs1 q1 => o2 G1 R1 H1 vs ds _ _ rh1 dvs1 q1 (k.st e1)⟩
theorem de_ix {r : DR2} (hr : IxD X r) (ha : DE X a ta) (hb : DE X b tb) (hs : PlainIx b) : DE X (.Subscript a b pos) (dOp r ta tb) := by
  obtain ⟨r0, o1, o2⟩ := hr; obtain ⟨t1, a1, a2⟩ := ha; obtain ⟨t2, b1, b2⟩ := hb
  exact ⟨_, pe_ix o1 a1 b1 hs, fun G sd s R H Qd Q sv rh q k => a2 G sd s R H _ _ sv rh q fun G1 R1 H1 d v e1 rh1 dv1 q1 => b2 G1 sd s R1 H1 _ _ (sv.st e1) rh1 q1 fun G2 R2 H2 d2 v2 e2 rh2 dv2 q2 => o2 G2 R2 H2 v v2 d d2 _ _ rh2 (dv1.st e2) dv2 q2 (k.st (e1.trans e2))⟩
end

/-! ### a slice's parts -/
abbrev DTO := DSt → Rs → (Option Int → Rs → Prop) → Prop
def LO (K : KF) (te : TO) (td : DTO) : Prop := ∀ G sd s R H Qd Q, SV K G sd s → RepH K G R H → td sd R Qd → (∀ G' R' H' o, Stp G R H G' R' H' → RepH K G' R' H' → Qd o R' → Q o H') → te s H Q
def DO (X : CxF) (e : Option Expr) (t : DTO) : Prop := ∃ te, PO X e te ∧ LO X.K te t
def dNoPart : DTO := fun _ R Q => Q none R
def dPart (t : DTE) : DTO := fun s R Q => t s R fun x R1 => ∃ i, x = .int i ∧ Q (some i) R1
def dSl (r : D → Option Int → Option Int → Rs → DK → Prop) (te : DTE) (tl th : DTO) : DTE := fun s R Q => te s R fun x R1 => tl s R1 fun l R2 => th s R2 fun u R3 => r x l u R3 Q
section
variable {X : CxF} {e : Expr} {lo hi : Option Expr} {te : DTE} {tl th : DTO} {pos p2 : Pos}
theorem do_none : DO X none dNoPart := ⟨_, po_none, fun G sd s R H Qd Q sv rh q k => k G R H _ (Stp.refl G R H) rh q⟩
theorem do_some (h : DE X e te) : DO X (some e) (dPart te) := by
  obtain ⟨t1, a1, a2⟩ := h
  refine ⟨_, po_some a1, fun G sd s R H Qd Q sv rh q k => a2 G sd s R H _ _ sv rh q fun G1 R1 H1 d v e1 rh1 dv1 q1 => ?_⟩
  obtain ⟨i, rfl, q2⟩ := q1
  cases dv1
  exact ⟨i, rfl, k G1 R1 H1 _ e1 rh1 q2⟩
theorem de_slice {r : D → Option Int → Option Int → Rs → DK → Prop} (hr : SlD X r) (he : DE X e te) (hl : DO X lo tl) (hu : DO X hi th) : DE X (.Subscript e (.Slice lo hi none p2) pos) (dSl r te tl th) := by
  obtain ⟨r0, o1, o2⟩ := hr; obtain ⟨t1, a1, a2⟩ := he; obtain ⟨t2, b1, b2⟩ := hl; obtain ⟨t3, c1, c2⟩ := hu
  exact ⟨_, pe_slice o1 a1 b1 c1, fun G sd s R H Qd Q sv rh q k => a2 G sd s R H _ _ sv rh q fun G1 R1 H1 d v e1 rh1 dv1 q1 => b2 G1 sd s R1 H1 _ _ (sv.st e1) rh1 q1 fun G2 R2 H2 l e2 rh2 q2 => c2 G2 sd s R2 H2 _ _ (sv.st (e1.trans e2)) rh2 q2 fun G3 R3 H3 u e3 rh3 q3 =>
    o2 G3 R3 H3 v d l u _ _ rh3 (dv1.st (e2.trans e3)) q3 (k.st (e1.trans (e2.trans e3)))⟩
end

/-! ### targets -/
abbrev DTG := D → DSt → Rs → (DSt → Rs → Prop) → Prop
abbrev DTGs := List D → DSt → Rs → (DSt → Rs → Prop) → Prop
def LG (K : KF) (g : TG) (gd : DTG) : Prop := ∀ G sd s R H d v Qd Q, SV K G sd s → RepH K G R H → DV K G d v → gd d sd R Qd → CBS K G R H Qd Q → g v s H Q
def LGs (K : KF) (g : TGs) (gd : DTGs) : Prop := ∀ G sd s R H ds vs Qd Q, SV K G sd s → RepH K G R H → DVs K G ds vs → gd ds sd R Qd → CBS K G R H Qd Q → g vs s H Q
def DG (X : CxF) (tg : Expr) (g : DTG) : Prop := ∃ t, PG X tg t ∧ LG X.K t g
def DGs (X : CxF) (tg : List Expr) (g : DTGs) : Prop := ∃ t, PGs X tg t ∧ LGs X.K t g
def dgName (i : Nat) : DTG := fun d s R Q => Q (s.set i (some d)) R
def dgNil : DTGs := fun ds s R Q => ds = [] ∧ Q s R
def dgCons (t : DTG) (u : DTGs) : DTGs := fun ds s R Q => ∃ d r, ds = d :: r ∧ t d s R fun s' R' => u r s' R' Q
def dgTup (n : Nat) (t : DTGs) : DTG := fun d s R Q => ∃ ds, d = .tup ds ∧ ds.length = n ∧ t ds s R Q
section
variable {X : CxF} {e : Expr} {es : List Expr} {te : DTE} {pos : Pos}
theorem dg_name {i : Nat} {x : Str} (hN : X.N.Nodup) (hi : X.N[i]? = some x) (hx : Loc X.env.scope x) (hf : X.fn x = true ∨ X.env.scope.names.lookup x = some .local := by first | exact .inl rfl | exact .inr rfl | assumption) : DG X (.Name x pos) (dgName i) :=
  ⟨_, pg_name hN hi hx hf, fun G sd s R H d v Qd Q sv rh dv q k => k G _ _ R H (Stp.refl G R H) (sv.set i dv) rh q⟩
theorem dgs_nil : DGs X [] dgNil := ⟨_, pgs_nil, fun G sd s R H ds vs Qd Q sv rh dv q k => by
  obtain ⟨rfl, q⟩ := q
  cases dv
  exact ⟨rfl, k G _ _ R H (Stp.refl G R H) sv rh q⟩⟩
theorem dgs_cons {t : DTG} {u : DTGs} (h : DG X e t) (r : DGs X es u) (hs : (assignEach (e :: es) X.env).map (·.2) = assign e X.env :: (assignEach es X.env).map (·.2) := by rfl) : DGs X (e :: es) (dgCons t u) := by
  obtain ⟨t1, a1, a2⟩ := h; obtain ⟨t2, b1, b2⟩ := r
  refine ⟨_, pgs_cons a1 b1 hs, fun G sd s R H ds vs Qd Q sv rh dv q k => ?_⟩
  obtain ⟨d, r, rfl, q⟩ := q
  cases dv with
  | cons x y => exact ⟨_, _, rfl, a2 G sd s R H _ _ _ _ sv rh x q fun G1 sd1 s1 R1 H1 e1 sv1 rh1 q1 => b2 G1 sd1 s1 R1 H1 _ _ _ _ sv1 rh1 (y.st e1) q1 (k.st e1)⟩
theorem dg_tup {x1} {n : Nat} {t : DTGs} (hc : X.calm = true) (h : DGs X es t) (hn : (assignEach es X.env).length = n := by rfl) (hst : (assignEach es X.env).findIdx? (·.1) = none := by rfl) : DG X (.Tuple es x1 pos) (dgTup n t) := by
  obtain ⟨t1, a1, a2⟩ := h
  subst hn
  refine ⟨_, pg_tup hc a1 rfl hst, fun G sd s R H d v Qd Q sv rh dv q k => ?_⟩
  obtain ⟨ds, rfl, hl, q⟩ := q
  cases dv with
  | tup h1 h2 => exact ⟨_, _, rfl, SqT.same rh.g h1, by rw [← h2.length]; exact hl, a2 G sd s R H _ _ _ _ sv rh h2 q k⟩
end

/-! ### statements -/
def dNext : DTS := fun D s R => D.nx s R
def dSeq (t u : DTS) : DTS := fun D s R => t { D with nx := u D } s R
def dRet (te : DTE) : DTS := fun D s R => te s R D.rt
def dDrop (te : DTE) : DTS := fun D s R => te s R fun _ R1 => D.nx s R1
def dIfS (c : DTT) (t u : DTS) : DTS := fun D s R => c s R fun b R1 => if b = true then t D s R1 else u D s R1
def dAsg (te : DTE) (g : DTG) : DTS := fun D s R => te s R fun x R1 => g x s R1 D.nx
def dNever : DTS := fun _ _ _ => False
def dWhile (c : DTT) (tb : DTS) : DTS := fun D s R => ∃ Pv : Nat → DSt → Rs → Prop, (∃ m, Pv m s R) ∧ ∀ m s R, Pv m s R → c s R fun b R1 =>
  if b = true then tb { D with nx := fun s' R' => ∃ m', m' < m ∧ Pv m' s' R', ct := fun s' R' => ∃ m', m' < m ∧ Pv m' s' R', bk := D.nx } s R1 else D.nx s R1
section
variable {X : CxF} {c e : Expr} {st : Stmt} {a b rest body : List Stmt} {te : DTE} {tc : DTT} {t u tb : DTS} {pos : Pos}
theorem dss_nil : DSs X [] dNext := ⟨_, pss_nil, fun G sd s R H Ed E sv rh q k => k.nx G sd s R H (Stp.refl G R H) sv rh q⟩
theorem dss_cons (h : DS X st t) (r : DSs X rest u) : DSs X (st :: rest) (dSeq t u) := by
  obtain ⟨t1, a1, a2⟩ := h; obtain ⟨t2, b1, b2⟩ := r
  refine ⟨_, pss_cons a1 b1, fun G sd s R H Ed E sv rh q k => a2 G sd s R H _ _ sv rh q ⟨fun G1 sd1 s1 R1 H1 e1 sv1 rh1 q1 => b2 G1 sd1 s1 R1 H1 _ _ sv1 rh1 q1 (k.st e1), k.rt, k.bk, k.ct⟩⟩
theorem dss_one (h : DS X st t) : DSs X [st] t := let ⟨t1, a1, a2⟩ := h; ⟨t1, pss_one a1, a2⟩
theorem ds_ret (h : DE X e te) : DS X (.Return (some e) pos) (dRet te) := by
  obtain ⟨t1, a1, a2⟩ := h
  exact ⟨_, ps_ret a1, fun G sd s R H Ed E sv rh q k => a2 G sd s R H _ _ sv rh q k.rt⟩
theorem ds_expr (h : DE X e te) (hs : swapsWith e none pos.line X.env = pure false := by rfl) : DS X (.Expr e pos) (dDrop te) := by
  obtain ⟨t1, a1, a2⟩ := h
  exact ⟨_, ps_expr a1 hs, fun G sd s R H Ed E sv rh q k => a2 G sd s R H _ _ sv rh q fun G1 R1 H1 d v e1 rh1 dv1 q1 => k.nx G1 sd s R1 H1 e1 (sv.st e1) rh1 q1⟩
theorem ds_if (hc : DT X c tc) (ha : DSs X a t) (hb : DSs X b u) : DS X (.If c a b pos) (dIfS tc t u) := by
  obtain ⟨t0, c1, c2⟩ := hc; obtain ⟨t1, a1, a2⟩ := ha; obtain ⟨t2, b1, b2⟩ := hb
  refine ⟨_, ps_if c1 a1 b1, fun G sd s R H Ed E sv rh q k => c2 G sd s R H _ _ sv rh q fun G1 R1 H1 c e1 rh1 q1 => ?_⟩
  cases c with
  | true => exact a2 G1 sd s R1 H1 _ _ (sv.st e1) rh1 q1 (k.st e1)
  | false => exact b2 G1 sd s R1 H1 _ _ (sv.st e1) rh1 q1 (k.st e1)
theorem ds_asg {tg : Expr} {g : DTG} (h : DE X e te) (hg : DG X tg g) (hs : swapsWithSole [tg] e pos.line X.env = pure false := by rfl) (hw : swappedStores [tg] e X.env = pure none := by rfl) (h1 : (assignEach [tg] X.env).map (·.2) = [assign tg X.env] := by rfl) : DS X (.Assign [tg] e pos) (dAsg te g) := by
  obtain ⟨t1, a1, a2⟩ := h; obtain ⟨t2, b1, b2⟩ := hg
  exact ⟨_, ps_asg a1 b1 hs hw h1, fun G sd s R H Ed E sv rh q k => a2 G sd s R H _ _ sv rh q fun G1 R1 H1 d v e1 rh1 dv1 q1 => b2 G1 sd s R1 H1 _ _ _ _ (sv.st e1) rh1 dv1 q1 fun G2 sd2 s2 R2 H2 e2 sv2 rh2 q2 => k.nx G2 sd2 s2 R2 H2 (e1.trans e2) sv2 rh2 q2⟩
end
end DL
end
section
set_option Elab.async false
set_option maxRecDepth 100000
set_option linter.all false
set_option autoImplicit false
/-! DL3: what is walked, for, comprehensions, defs and their promises -/
namespace DL
open PySem PySem.Spec PyProof.Rows L2
variable [TabCtx]

/-! ### what is walked -/
/-- the iterator J yields xs while ok holds of what may change -/
def Sim (K : KF) (G0 : Hp) (J : It) (xs : List D) (ok : Rs → Prop) : Prop :=
  ∀ G R H, Same G0 G → RepH K G R H → ok R →
    (∀ (i : Nat) (d : D), xs[i]? = some d → J.go i H ∧ ∀ x H', J.yld i H x H' → ∃ G', Stp G R H G' R H' ∧ RepH K G' R H' ∧ DV K G' d x) ∧ ∀ i : Nat, xs.length ≤ i → J.stop i H
abbrev DTI := DSt → Rs → (List D → (Rs → Prop) → Rs → Prop) → Prop
def LI (K : KF) (wi : TI) (wd : DTI) : Prop := ∀ G sd s R H Kd Rr, SV K G sd s → RepH K G R H → wd sd R Kd →
  (∀ G' R' H' J xs ok, Stp G R H G' R' H' → RepH K G' R' H' → Sim K G' J xs ok → Kd xs ok R' → Rr J H') → wi s H Rr
def DI (X : CxF) (tg iter : Expr) (wd : DTI) : Prop := ∃ wi, PI X tg iter wi ∧ LI X.K wi wd

def dFor (wd : DTI) (g : DTG) (tb : DTS) : DTS := fun D s R => wd s R fun xs ok R1 => ∃ Pv : Nat → DSt → Rs → Prop, Pv 0 s R1 ∧ (∀ i s R, i ≤ xs.length → Pv i s R → ok R) ∧
  (∀ (i : Nat) x s R, xs[i]? = some x → Pv i s R → g x s R fun s2 R2 => tb { D with nx := Pv (i + 1), ct := Pv (i + 1), bk := D.nx } s2 R2) ∧ ∀ s R, Pv xs.length s R → D.nx s R
section
variable {X : CxF}
theorem ds_for {tg iter : Expr} {body : List Stmt} {wd : DTI} {g : DTG} {tb : DTS} {pos : Pos} (hp : PassesOwn (model X.prog X.w) X.A X.env X.xe) (hc : X.calm = true) (hi : DI X tg iter wd) (hg : DG X tg g) (hb : DSs X body tb)
    (hs : ∀ x, foldedSetIterable iter X.env x = pure x := by intro _; rfl) : DS X (.For tg iter body [] pos) (dFor wd g tb) := by
  obtain ⟨wi, i1, i2⟩ := hi; obtain ⟨g1, ga, gb⟩ := hg; obtain ⟨t1, a1, a2⟩ := hb
  refine ⟨_, ps_for hp hc i1 ga a1 hs, fun G sd s R H Ed E sv rh q k => i2 G sd s R H _ _ sv rh q fun G1 R1 H1 J xs ok e1 rh1 sim q1 => ?_⟩
  obtain ⟨Pv, p0, pok, step, fin⟩ := q1
  refine ⟨fun i m s' H' => ∃ G' sd' R', Stp G1 R1 H1 G' R' H' ∧ SV X.K G' sd' s' ∧ RepH X.K G' R' H' ∧ i ≤ xs.length ∧ m = xs.length - i ∧ Pv i sd' R', ⟨_, G1, sd, R1, Stp.refl _ _ _, sv.st e1, rh1, Nat.zero_le _, rfl, p0⟩, ?_⟩
  rintro i m s2 H2 ⟨G2, sd2, R2, e2, sv2, rh2, hi, rfl, p2⟩
  obtain ⟨go, stop⟩ := sim G2 R2 H2 e2.g rh2 (pok i sd2 R2 hi p2)
  by_cases hlt : i < xs.length
  · refine .inr ⟨(go i xs[i] (List.getElem?_eq_getElem hlt)).1, fun s' H' => ∃ G' sd' R', Stp G1 R1 H1 G' R' H' ∧ SV X.K G' sd' s' ∧ RepH X.K G' R' H' ∧ i + 1 ≤ xs.length ∧ Pv (i + 1) sd' R', ?_, fun x H' y => ?_⟩
    · rintro s' H' ⟨G3, sd3, R3, e3, sv3, rh3, h3, p3⟩
      exact ⟨xs.length - (i + 1), by omega, G3, sd3, R3, e3, sv3, rh3, h3, rfl, p3⟩
    · obtain ⟨G3, e3, rh3, dv3⟩ := (go i xs[i] (List.getElem?_eq_getElem hlt)).2 x H' y
      refine gb G3 sd2 s2 R2 H' _ _ _ _ (sv2.st e3) rh3 dv3 (step i xs[i] sd2 R2 (List.getElem?_eq_getElem hlt) p2) fun G4 sd4 s4 R4 H4 e4 sv4 rh4 q4 => ?_
      have e14 := e2.trans (e3.trans e4)
      have kk := k.st (e1.trans e14)
      refine a2 G4 sd4 s4 R4 H4 _ _ sv4 rh4 q4 ⟨fun G5 sd5 s5 R5 H5 e5 sv5 rh5 q5 => ⟨G5, sd5, R5, e14.trans e5, sv5, rh5, hlt, q5⟩, kk.rt, fun G5 sd5 s5 R5 H5 e5 sv5 rh5 q5 => kk.nx G5 sd5 s5 R5 H5 e5 sv5 rh5 q5, fun G5 sd5 s5 R5 H5 e5 sv5 rh5 q5 => ⟨G5, sd5, R5, e14.trans e5, sv5, rh5, hlt, q5⟩⟩
  · have e : i = xs.length := by omega
    subst e
    exact .inl ⟨stop _ (Nat.le_refl _), k.nx G2 sd2 s2 R2 H2 (e1.trans e2) sv2 rh2 (fin sd2 R2 p2)⟩
end

/-! ### sources -/
/-- the items of a sequence as it may be read -/
def seqOf (R : Rs) : D → Option (List D)
  | .tup xs => some xs
  | .lst xs => some xs
  | .rls xs => some xs
  | .ref l => match R l with
    | some (.lst xs) => some xs
    | _ => none
  | _ => none
/-- a list or tuple that the loop leaves as it is -/
def dISeq (te : DTE) : DTI := fun s R Kd => te s R fun d R1 => ∃ xs, seqOf R1 d = some xs ∧ Kd xs (fun R' => seqOf R' d = some xs) R1
/-- one that never changes -/
def dITup (te : DTE) : DTI := fun s R Kd => te s R fun d R1 => ∃ xs, d = .tup xs ∧ Kd xs (fun _ => True) R1
def dILst (te : DTE) : DTI := fun s R Kd => te s R fun d R1 => ∃ xs, (d = .lst xs ∧ Kd xs (fun _ => True) R1) ∨ (∃ l, d = .ref l ∧ R1 l = some (.lst xs) ∧ Kd xs (fun R' => R' l = some (.lst xs)) R1)
def dIRng1 (te : DTE) : DTI := fun s R Kd => te s R fun d R1 => ∃ n : Nat, d = .int n ∧ n < 2 ^ 62 ∧ Kd ((List.range n).map fun i => D.int (i : Nat)) (fun _ => True) R1
def dIRng2 (te tb : DTE) : DTI := fun s R Kd => te s R fun d R1 => tb s R1 fun d2 R2 => ∃ i j : Int, d = .int i ∧ d2 = .int j ∧ -(2 ^ 62) ≤ i ∧ i < 2 ^ 62 ∧ -(2 ^ 62) ≤ j ∧ j < 2 ^ 62 ∧ Kd ((List.range (j - i).toNat).map fun k => D.int (i + (k : Nat))) (fun _ => True) R2
def dIStr (te : DTE) : DTI := fun s R Kd => te s R fun d R1 => ∃ x : Str, d = .str x ∧ Kd (x.cps.toList.map fun c => D.str ⟨#[c]⟩) (fun _ => True) R1
section
variable {X : CxF} {tg e a b : Expr} {te ta tb : DTE} {pos p : Pos}
theorem sim_list {K : KF} {G : Hp} {l : Addr} {xs : List D} {ok : Rs → Prop} (h : ∀ G' R H, Same G G' → RepH K G' R H → ok R → ∃ vs, SqL K H l vs ∧ DVs K G' xs vs) : Sim K G (Itl K l) xs ok := by
  intro G' R H e rh hok
  obtain ⟨vs, hl, dv⟩ := h G' R H e rh hok
  refine ⟨fun i d hd => ?_, fun i hi => ⟨vs, hl, by rw [← dv.length]; exact hi⟩⟩
  obtain ⟨v, hv, dv'⟩ := dv.get hd
  refine ⟨⟨vs, v, hl, hv⟩, fun x H' y => ?_⟩
  obtain ⟨rfl, y⟩ := y
  have := y vs hl
  rw [hv] at this; cases this
  exact ⟨G', Stp.refl _ _ _, rh, dv'⟩
theorem sim_tup {K : KF} {G : Hp} {l : Addr} {xs : List D} {ok : Rs → Prop} (h : ∀ G' R H, Same G G' → RepH K G' R H → ok R → ∃ vs, SqT K H l vs ∧ DVs K G' xs vs) : Sim K G (Itt K l) xs ok := by
  intro G' R H e rh hok
  obtain ⟨vs, hl, dv⟩ := h G' R H e rh hok
  refine ⟨fun i d hd => ?_, fun i hi => ⟨vs, hl, by rw [← dv.length]; exact hi⟩⟩
  obtain ⟨v, hv, dv'⟩ := dv.get hd
  refine ⟨⟨vs, v, hl, hv⟩, fun x H' y => ?_⟩
  obtain ⟨rfl, y⟩ := y
  have := y vs hl
  rw [hv] at this; cases this
  exact ⟨G', Stp.refl _ _ _, rh, dv'⟩
theorem di_list (h : DE X e te) : DI X tg e (dILst te) := by
  obtain ⟨t1, a1, a2⟩ := h
  refine ⟨_, pi_list a1, fun G sd s R H Kd Rr sv rh q k => a2 G sd s R H _ _ sv rh q fun G1 R1 H1 d v e1 rh1 dv1 q1 => ?_⟩
  obtain ⟨xs, q1⟩ := q1
  rcases q1 with ⟨rfl, q2⟩ | ⟨l, rfl, hl, q2⟩
  · cases dv1 with
    | lst h1 h2 => exact ⟨_, rfl, ⟨_, .inl (.inl (rh1.g _ _ h1))⟩, k G1 R1 H1 _ _ _ e1 rh1 (sim_list fun G' R' H' e' rh' _ => ⟨_, .inl (.inl (rh'.g _ _ (e' _ _ h1))), h2.mono e'⟩) q2⟩
  · cases dv1
    obtain ⟨vs, h1, h2⟩ := rh1.lst hl
    exact ⟨_, rfl, ⟨_, .inl (.inl h1)⟩, k G1 R1 H1 _ _ _ e1 rh1 (sim_list fun G' R' H' e' rh' hok => let ⟨vs, p1, p2⟩ := rh'.lst hok; ⟨vs, .inl (.inl p1), p2⟩) q2⟩
theorem di_tup (h : DE X e te) : DI X tg e (dITup te) := by
  obtain ⟨t1, a1, a2⟩ := h
  refine ⟨_, pi_tup a1, fun G sd s R H Kd Rr sv rh q k => a2 G sd s R H _ _ sv rh q fun G1 R1 H1 d v e1 rh1 dv1 q1 => ?_⟩
  obtain ⟨xs, rfl, q2⟩ := q1
  cases dv1 with
  | tup h1 h2 => exact ⟨_, rfl, ⟨_, SqT.same rh1.g h1⟩, k G1 R1 H1 _ _ _ e1 rh1 (sim_tup fun G' R' H' e' rh' _ => ⟨_, SqT.same (e'.trans rh'.g) h1, h2.mono e'⟩) q2⟩
theorem sim_rng {K : KF} {G : Hp} {lo : Int} {n : Nat} : Sim K G (Itr lo n) ((List.range n).map fun i => D.int (lo + (i : Nat))) (fun _ => True) := by
  intro G' R H e rh _
  refine ⟨fun i d hd => ?_, fun i hi => ?_⟩
  rotate_left
  · show n ≤ i
    simpa using hi
  rw [List.getElem?_map] at hd
  by_cases hi : i < n
  · rw [List.getElem?_range hi] at hd
    cases hd
    refine ⟨hi, fun x H' y => ?_⟩
    obtain ⟨rfl, rfl⟩ := y
    exact ⟨G', Stp.refl _ _ _, rh, .int _⟩
  · rw [List.getElem?_eq_none (by simpa using hi)] at hd; cases hd
theorem di_range1 (hg : Gl X "range") (hm : X.mg "range" = none) (h : DE X a ta) (hst : starEach [a] X.env = (false, eval a X.env) :: starEach [] X.env := by rfl) : DI X tg (.Call (.Name "range" p) [a] [] pos) (dIRng1 ta) := by
  obtain ⟨t1, a1, a2⟩ := h
  refine ⟨_, pi_range1 hg hm (pa_cons a1 pa_nil hst) hst, fun G sd s R H Kd Rr sv rh q k => a2 G sd s R H _ _ sv rh q fun G1 R1 H1 d v e1 rh1 dv1 q1 => ?_⟩
  obtain ⟨n, rfl, hn, q2⟩ := q1
  cases dv1
  refine ⟨n, rfl, by omega, by omega, ?_⟩
  refine k G1 R1 H1 (Itr 0 (n : Int).toNat) _ _ e1 rh1 ?_ q2
  have := sim_rng (K := X.K) (G := G1) (lo := 0) (n := n)
  simp only [Int.zero_add] at this
  exact this
theorem di_range2 (hg : Gl X "range") (hm : X.mg "range" = none) (h : DE X a ta) (h2 : DE X b tb) (hst : starEach [a, b] X.env = (false, eval a X.env) :: starEach [b] X.env := by rfl) (hst2 : starEach [b] X.env = (false, eval b X.env) :: starEach [] X.env := by rfl) : DI X tg (.Call (.Name "range" p) [a, b] [] pos) (dIRng2 ta tb) := by
  obtain ⟨t1, a1, a2⟩ := h; obtain ⟨t2, b1, b2⟩ := h2
  refine ⟨_, pi_range2 hg hm (pa_cons a1 (pa_cons b1 pa_nil hst2) hst) (hst.trans (by rw [hst2]; rfl)) hst2, fun G sd s R H Kd Rr sv rh q k => a2 G sd s R H _ _ sv rh q fun G1 R1 H1 d v e1 rh1 dv1 q1 => b2 G1 sd s R1 H1 _ _ (sv.st e1) rh1 q1 fun G2 R2 H2 d2 v2 e2 rh2 dv2 q2 => ?_⟩
  obtain ⟨i, j, rfl, rfl, h1, h2, h3, h4, q3⟩ := q2
  cases dv1; cases dv2
  exact ⟨i, j, rfl, ⟨h1, h2, h3, h4⟩, k G2 R2 H2 _ _ _ (e1.trans e2) rh2 sim_rng q3⟩
theorem di_str (h : DE X e te) : DI X tg e (dIStr te) := by
  obtain ⟨t1, a1, a2⟩ := h
  refine ⟨_, pi_str a1, fun G sd s R H Kd Rr sv rh q k => a2 G sd s R H _ _ sv rh q fun G1 R1 H1 d v e1 rh1 dv1 q1 => ?_⟩
  obtain ⟨x, rfl, q2⟩ := q1
  cases dv1
  refine ⟨x, rfl, k G1 R1 H1 _ _ _ e1 rh1 ?_ q2⟩
  intro G' R H e rh _
  refine ⟨fun i d hd => ?_, fun i hi => ?_⟩
  · rw [List.getElem?_map] at hd
    cases q : x.cps.toList[i]? with
    | none => rw [q] at hd; cases hd
    | some c =>
      rw [q] at hd; cases hd
      have q' : x.cps[i]? = some c := by simpa using q
      have hi : i < x.cps.size := (Array.getElem?_eq_some_iff.mp q').1
      refine ⟨hi, fun y H' z => ?_⟩
      obtain ⟨rfl, c', q2, rfl⟩ := z
      rw [q'] at q2; cases q2
      exact ⟨G', Stp.refl _ _ _, rh, .str _⟩
  · show x.cps.size ≤ i
    simpa using hi
end

/-! ### comprehensions -/
def dwipe (s : DSt) : List Nat → DSt
  | [] => s
  | v :: vs => (dwipe s vs).set v none
theorem SV.wipe {K : PySem.W.Frag} {G : Hp} {sd : DSt} {s : L2.St} (h : SV K G sd s) : ∀ vs : List Nat, SV K G (dwipe sd vs) (wipe s vs)
  | [] => h
  | v :: vs => (SV.wipe h vs).forget v
theorem wipe_set_out {s : L2.St} {i : Nat} {x : Option V} : ∀ {vs : List Nat}, i ∉ vs → wipe (s.set i x) vs = (wipe s vs).set i x
  | [], _ => rfl
  | v :: vs, h => by
    simp only [List.mem_cons, not_or] at h
    unfold wipe
    rw [wipe_set_out h.2, List.set_comm _ _ (fun e => h.1 (by omega))]
theorem wipe_set {s : L2.St} {i : Nat} {x : Option V} : ∀ {vs : List Nat}, i ∈ vs → wipe (s.set i x) vs = wipe s vs
  | [], h => by simp at h
  | v :: vs, h => by
    unfold wipe
    by_cases hi : i ∈ vs
    · rw [wipe_set hi]
    · have e : i = v := by simpa [hi] using h
      subst e
      rw [wipe_set_out hi, List.set_set]
/-- a target that stores slots of vs alone -/
def LGw (K : KF) (vs : List Nat) (g : TG) (gd : DTG) : Prop := ∀ G sd s R H d v Qd Q, SV K G sd s → RepH K G R H → DV K G d v → gd d sd R Qd → CBS K G R H Qd (fun s' H' => wipe s' vs = wipe s vs → Q s' H') → g v s H Q
def LGsw (K : KF) (vs : List Nat) (g : TGs) (gd : DTGs) : Prop := ∀ G sd s R H ds xs Qd Q, SV K G sd s → RepH K G R H → DVs K G ds xs → gd ds sd R Qd → CBS K G R H Qd (fun s' H' => wipe s' vs = wipe s vs → Q s' H') → g xs s H Q
def DGw (X : CxF) (vs : List Nat) (tg : Expr) (g : DTG) : Prop := ∃ t, PG X tg t ∧ LGw X.K vs t g
def DGsw (X : CxF) (vs : List Nat) (tg : List Expr) (g : DTGs) : Prop := ∃ t, PGs X tg t ∧ LGsw X.K vs t g
section
variable {X : CxF} {e : Expr} {es : List Expr} {pos : Pos} {vs : List Nat}
theorem dgw_name {i : Nat} {x : Str} (hN : X.N.Nodup) (hi : X.N[i]? = some x) (hx : Loc X.env.scope x) (hv : i ∈ vs := by simp) (hf : X.fn x = true ∨ X.env.scope.names.lookup x = some .local := by first | exact .inl rfl | exact .inr rfl | assumption) : DGw X vs (.Name x pos) (dgName i) :=
  ⟨_, pg_name hN hi hx hf, fun G sd s R H d v Qd Q sv rh dv q k => k G _ _ R H (Stp.refl G R H) (sv.set i dv) rh q (wipe_set hv)⟩
theorem dgsw_nil : DGsw X vs [] dgNil := ⟨_, pgs_nil, fun G sd s R H ds xs Qd Q sv rh dv q k => by
  obtain ⟨rfl, q⟩ := q
  cases dv
  exact ⟨rfl, k G _ _ R H (Stp.refl G R H) sv rh q rfl⟩⟩
theorem dgsw_cons {t : DTG} {u : DTGs} (h : DGw X vs e t) (r : DGsw X vs es u) (hs : (assignEach (e :: es) X.env).map (·.2) = assign e X.env :: (assignEach es X.env).map (·.2) := by rfl) : DGsw X vs (e :: es) (dgCons t u) := by
  obtain ⟨t1, a1, a2⟩ := h; obtain ⟨t2, b1, b2⟩ := r
  refine ⟨_, pgs_cons a1 b1 hs, fun G sd s R H ds xs Qd Q sv rh dv q k => ?_⟩
  obtain ⟨d, r, rfl, q⟩ := q
  cases dv with
  | cons x y => exact ⟨_, _, rfl, a2 G sd s R H _ _ _ _ sv rh x q fun G1 sd1 s1 R1 H1 e1 sv1 rh1 q1 w1 => b2 G1 sd1 s1 R1 H1 _ _ _ _ sv1 rh1 (y.st e1) q1 fun G2 sd2 s2 R2 H2 e2 sv2 rh2 q2 w2 => k G2 sd2 s2 R2 H2 (e1.trans e2) sv2 rh2 q2 (w2.trans w1)⟩
theorem dgw_tup {x1} {n : Nat} {t : DTGs} (hc : X.calm = true) (h : DGsw X vs es t) (hn : (assignEach es X.env).length = n := by rfl) (hst : (assignEach es X.env).findIdx? (·.1) = none := by rfl) : DGw X vs (.Tuple es x1 pos) (dgTup n t) := by
  obtain ⟨t1, a1, a2⟩ := h
  subst hn
  refine ⟨_, pg_tup hc a1 rfl hst, fun G sd s R H d v Qd Q sv rh dv q k => ?_⟩
  obtain ⟨ds, rfl, hl, q⟩ := q
  cases dv with
  | tup h1 h2 => exact ⟨_, _, rfl, SqT.same rh.g h1, by rw [← h2.length]; exact hl, a2 G sd s R H _ _ _ _ sv rh h2 q k⟩
end
def DTs (X : CxF) (ifs : List Expr) (t : DTT) : Prop := ∃ te, PTs X ifs te ∧ LT X.K te t
def dYes : DTT := fun _ R Q => Q true R
theorem dts_nil {X : CxF} : DTs X [] dYes := ⟨_, pts_nil, fun G sd s R H Qd Q sv rh q k => k G R H true (Stp.refl G R H) rh q⟩
theorem dts_one {X : CxF} {c : Expr} {t : DTT} (h : DT X c t) : DTs X [c] t := let ⟨t1, a1, a2⟩ := h; ⟨t1, pts_one a1, a2⟩
/-- the turns of a comprehension -/
def dLcT (wd : DTI) (g : DTG) (tt : DTT) (te : DTE) (vs : List Nat) (s : DSt) (R : Rs) (Q : List D → Rs → Prop) : Prop := wd s R fun xs ok R1 => xs.length ≤ sizeLine ∧ ∃ Pv : Nat → List D → Rs → Prop, Pv 0 [] R1 ∧ (∀ i acc R, i ≤ xs.length → Pv i acc R → ok R) ∧
  (∀ (i : Nat) x acc R, xs[i]? = some x → acc.length ≤ i → Pv i acc R → g x (dwipe s vs) R fun s2 R2 => tt s2 R2 fun b R3 => if b = true then te s2 R3 fun y R4 => Pv (i + 1) (acc ++ [y]) R4 else Pv (i + 1) acc R3) ∧
  ∀ acc R, acc.length ≤ xs.length → Pv xs.length acc R → Q acc R
/-- its list never changes -/
def dLcF (wd : DTI) (g : DTG) (tt : DTT) (te : DTE) (vs : List Nat) : DTE := fun s R Q => dLcT wd g tt te vs s R fun acc R' => Q (.lst acc) R'
/-- its list may change -/
def dLc (wd : DTI) (g : DTG) (tt : DTT) (te : DTE) (vs : List Nat) : DTE := fun s R Q => dLcT wd g tt te vs s R fun acc R' => ∀ p, R' p = none → Q (.ref p) (put R' p (.lst acc))
section
variable {X : CxF} {elt tg iter : Expr} {ifs : List Expr} {scope : Scope} {own : List (Str × Nat)} {pos : Pos} {wd : DTI} {g : DTG} {tt : DTT} {te : DTE}
/-- the list stands hidden at its place -/
def Hid (G : Hp) (R : Rs) (H : Hp) (p : Addr) (o : HO) : Prop := H p = some o ∧ R p = none ∧ G p = none
theorem Hid.st {G G' : Hp} {R R' : Rs} {H H' : Hp} {p : Addr} {o : HO} (h : Hid G R H p o) (e : Stp G R H G' R' H') (n : NoTab o := by intro ps z; cases z) : Hid G' R' H' p o := e.f p o h.1 n h.2.1 h.2.2
theorem RepH.hide {K : KF} {G : Hp} {R : Rs} {H : Hp} (h : RepH K G R H) {p : Addr} {o : HO} (hr : R p = none) (hg : G p = none) (φ : K.Φ.p G R (upd H p o)) (b : K.F.B.p G R (upd H p o)) : RepH K G R (upd H p o) :=
  ⟨fun b u q => by rw [upd_ne (ne_of_none q hg)]; exact h.g b u q, fun a ro q => by
    obtain ⟨h1, u, h2, h3⟩ := h.r a ro q
    have hb : a ≠ p := by intro z; subst z; rw [hr] at q; cases q
    exact ⟨h1, u, by rw [upd_ne hb]; exact h2, h3⟩, φ, b⟩
/-- the step where a hidden thing at p is written -/
theorem Stp.wr {G0 G : Hp} {R0 R : Rs} {H0 H : Hp} {p : Addr} {o : HO} (e : Stp G0 R0 H0 G R H) (h0 : H0 p = none) : Stp G0 R0 H0 G R (upd H p o) := ⟨e.g, fun a u q1 n q2 q3 => by
  have hb : a ≠ p := ne_of_none q1 h0
  rw [upd_ne hb]
  exact e.f a u q1 n q2 q3, fun a q z h => by
  have ⟨_, _, ps0, h3, _⟩ := h
  have hb : a ≠ p := ne_of_none h3 h0
  obtain ⟨z1, z2, ps, z3, z4⟩ := e.t a q z h
  exact ⟨z1, z2, ps, by rw [upd_ne hb]; exact z3, z4⟩⟩
theorem lcT_core {K : KF} {vs : List Nat} {wi : TI} {g0 : TG} {tt0 : TT} {te0 : TE} (hi : LI K wi wd) (hg : LGw K vs g0 g) (ht : LT K tt0 tt) (he : LE K te0 te) {G : Hp} {sd : DSt} {s : L2.St} {R : Rs} {H : Hp} {Qd : List D → Rs → Prop} {Q : VK}
    (sv : SV K G sd s) (rh : RepH K G R H) (q : dLcT wd g tt te vs sd R Qd)
    (k : ∀ G1 R1 H1 G' R' H' p acc xs, Stp G R H G1 R1 H1 → H1 p = none → Stp G1 R1 H1 G' R' H' → RepH K G' R' H' → Hid G' R' H' p (.lst xs) → DVs K G' acc xs → Qd acc R' → Q (.ref p) H') : tLc wi g0 tt0 te0 vs s H Q := by
  refine hi G sd s R H _ _ sv rh q fun G1 R1 H1 J xs ok e1 rh1 sim q1 => fun p hp => ?_
  obtain ⟨hz, Pv, p0, pok, step, fin⟩ := q1
  have r1p := rh1.free hp
  have g1p := rh1.gfree hp
  have sv1 := sv.st e1
  refine ⟨fun i m H2 => ∃ G2 R2 acc ys, Stp G1 R1 H1 G2 R2 H2 ∧ RepH K G2 R2 H2 ∧ Hid G2 R2 H2 p (.lst ys) ∧ DVs K G2 acc ys ∧ acc.length ≤ i ∧ i ≤ xs.length ∧ m = xs.length - i ∧ Pv i acc R2,
    ⟨_, G1, R1, [], [], (Stp.refl _ _ _).wr hp, rh1.hide r1p g1p (K.Φ.st ((Stp.refl _ _ _).wr hp) rh1.φ) (K.F.B.st ((Stp.refl _ _ _).wr hp) rh1.b), ⟨upd_same, r1p, g1p⟩, .nil, Nat.le_refl _, Nat.zero_le _, rfl, p0⟩, ?_⟩
  rintro i m H2 ⟨G2, R2, acc, ys, e2, rh2, hd2, dv2, ha, hi', rfl, p2⟩
  obtain ⟨go, stop⟩ := sim G2 R2 H2 e2.g rh2 (pok i acc R2 hi' p2)
  by_cases hlt : i < xs.length
  · obtain ⟨go1, go2⟩ := go i xs[i] (List.getElem?_eq_getElem hlt)
    refine .inr ⟨go1, fun H3 => ∃ G3 R3 acc ys, Stp G1 R1 H1 G3 R3 H3 ∧ RepH K G3 R3 H3 ∧ Hid G3 R3 H3 p (.lst ys) ∧ DVs K G3 acc ys ∧ acc.length ≤ i + 1 ∧ Pv (i + 1) acc R3, ?_, fun x H' y => ?_⟩
    · rintro H3 ⟨G3, R3, acc3, ys3, e3, rh3, hd3, dv3, ha3, p3⟩
      exact ⟨xs.length - (i + 1), by omega, G3, R3, acc3, ys3, e3, rh3, hd3, dv3, ha3, hlt, rfl, p3⟩
    · obtain ⟨G3, e3, rh3, dv3⟩ := go2 x H' y
      have hd3 := hd2.st e3
      have sv3 : SV K G3 (dwipe sd vs) (wipe s vs) := ((sv1.st e2).st e3).wipe vs
      refine hg G3 _ _ R2 H' _ _ _ _ sv3 rh3 dv3 (step i xs[i] acc R2 (List.getElem?_eq_getElem hlt) ha p2) fun G4 sd4 s4 R4 H4 e4 sv4 rh4 q4 w4 => ?_
      refine ⟨w4.trans (by
        have : ∀ us : List Nat, (∀ i ∈ us, i ∈ vs) → wipe (wipe s us) vs = wipe s vs := by
          intro us
          induction us with
          | nil => intro _; rfl
          | cons u us ih =>
            intro hu
            show wipe ((wipe s us).set u none) vs = _
            rw [wipe_set (hu u (by simp)), ih fun i hi => hu i (by simp [hi])]
        exact this vs fun _ h => h), ?_⟩
      refine ht G4 sd4 s4 R4 H4 _ _ sv4 rh4 q4 fun G5 R5 H5 b e5 rh5 q5 => ?_
      cases b with
      | false =>
        have e25 := e3.trans (e4.trans e5)
        exact ⟨G5, R5, acc, ys, e2.trans e25, rh5, hd2.st e25, dv2.st e25, Nat.le_succ_of_le ha, q5⟩
      | true =>
        refine he G5 sd4 s4 R5 H5 _ _ (sv4.st e5) rh5 q5 fun G6 R6 H6 d v e6 rh6 dv6 q6 => ?_
        have e26 := e3.trans (e4.trans (e5.trans e6))
        obtain ⟨h1, h2, h3⟩ := hd2.st e26
        have dvA := dv2.st e26
        refine ⟨ys, h1, ?_, G6, R6, acc ++ [d], ys ++ [v], (e2.trans e26).wr hp, rh6.hide h2 h3 (K.Φ.st ((e2.trans e26).wr hp) rh1.φ) (K.F.B.st ((e2.trans e26).wr hp) rh1.b), ⟨upd_same, h2, h3⟩, dvA.append (.cons dv6 .nil), by simp; omega, q6⟩
        rw [← dvA.length]; omega
  · have e : i = xs.length := by omega
    subst e
    exact .inl ⟨stop _ (Nat.le_refl _), k G1 R1 H1 G2 R2 H2 p acc ys e1 hp e2 rh2 hd2 dv2 (fin acc R2 ha p2)⟩
/-- a hidden new list is told as one that never changes -/
theorem RepH.tell {K : KF} {G : Hp} {R : Rs} {H : Hp} (h : RepH K G R H) {p : Addr} {o : HO} (hd : Hid G R H p o) (φ : K.Φ.p (upd G p o) R H) (b : K.F.B.p (upd G p o) R H) : Same G (upd G p o) ∧ RepH K (upd G p o) R H := by
  have s1 : Same G (upd G p o) := fun b u q => by rw [upd_ne (ne_of_none q hd.2.2)]; exact q
  refine ⟨s1, ⟨fun b u q => ?_, fun a ro q => ?_, φ, b⟩⟩
  · by_cases hb : b = p
    · subst hb; rw [upd_same] at q; cases q; exact hd.1
    · rw [upd_ne hb] at q; exact h.g b u q
  · obtain ⟨h1, u, h2, h3⟩ := h.r a ro q
    have hb : a ≠ p := by intro z; subst z; rw [hd.2.1] at q; cases q
    exact ⟨by rw [upd_ne hb]; exact h1, u, h2, h3.mono s1⟩
theorem RepH.tellR {K : KF} {G : Hp} {R : Rs} {H : Hp} (h : RepH K G R H) {p : Addr} {o : HO} {ro : RO} (hd : Hid G R H p o) (k : ROk K G ro o) (φ : K.Φ.p G (put R p ro) H) (b : K.F.B.p G (put R p ro) H) : RepH K G (put R p ro) H := by
  refine ⟨h.g, fun a r q => ?_, φ, b⟩
  by_cases hb : a = p
  · subst hb; rw [put_same] at q; cases q; exact ⟨hd.2.2, o, hd.1, k⟩
  · rw [put_ne hb] at q; exact h.r a r q
theorem Stp.tellG {G0 G : Hp} {R0 R : Rs} {H0 H : Hp} {p : Addr} {o : HO} (e : Stp G0 R0 H0 G R H) (h0 : H0 p = none) (hg : G p = none) : Stp G0 R0 H0 (upd G p o) R H := by
  have s1 : Same G (upd G p o) := fun b u q => by rw [upd_ne (ne_of_none q hg)]; exact q
  exact ⟨e.g.trans s1, fun a u q1 n q2 q3 => by
    have hb : a ≠ p := ne_of_none q1 h0
    rw [upd_ne hb]
    exact e.f a u q1 n q2 q3, fun a q z h => by
    have ⟨_, _, ps0, h3, _⟩ := h
    have hb : a ≠ p := ne_of_none h3 h0
    obtain ⟨z1, z2, ps, z3, z4, z5⟩ := e.t a q z h
    exact ⟨by rw [upd_ne hb]; exact z1, z2, ps, z3, z4, fun pos cv hc => let ⟨c, e1, e2⟩ := z5 pos cv hc; ⟨c, e1, s1 _ _ e2⟩⟩⟩
theorem Stp.tellR {G0 G : Hp} {R0 R : Rs} {H0 H : Hp} {p : Addr} {ro : RO} (e : Stp G0 R0 H0 G R H) (h0 : H0 p = none) : Stp G0 R0 H0 G (put R p ro) H :=
  ⟨e.g, fun a u q1 n q2 q3 => by
    have hb : a ≠ p := ne_of_none q1 h0
    rw [put_ne hb]
    exact e.f a u q1 n q2 q3, fun a q z h => by
    have ⟨_, _, ps0, h3, _⟩ := h
    have hb : a ≠ p := ne_of_none h3 h0
    obtain ⟨z1, z2, ps, z3, z4, z5⟩ := e.t a q z h
    exact ⟨z1, by rw [put_ne hb]; exact z2, ps, z3, z4, z5⟩⟩
theorem LE.lcF {K : KF} {vs : List Nat} {wi : TI} {g0 : TG} {tt0 : TT} {te0 : TE} (hi : LI K wi wd) (hg : LGw K vs g0 g) (ht : LT K tt0 tt) (he : LE K te0 te) : LE K (tLc wi g0 tt0 te0 vs) (dLcF wd g tt te vs) := fun G sd s R H Qd Q sv rh q k =>
  lcT_core hi hg ht he sv rh q fun G1 R1 H1 G' R' H' p acc xs e1 hp e2 rh2 hd dv q2 => by
    obtain ⟨s1, rh3⟩ := rh2.tell hd (K.Φ.st (e1.trans (e2.tellG hp hd.2.2)) rh.φ) (K.F.B.st (e1.trans (e2.tellG hp hd.2.2)) rh.b)
    exact k _ R' H' _ _ (e1.trans (e2.tellG hp hd.2.2)) rh3 (.lst upd_same (dv.mono s1)) q2
/-- what is asked of a comprehension's parts -/
structure LcD (X : CxF) (tg iter : Expr) (ifs : List Expr) (elt : Expr) (scope : Scope) (own : List (Str × Nat)) (wd : DTI) (g : DTG) (tt : DTT) (te : DTE) : Prop where
  i : DI X tg iter wd
  ok : BlkOk X.N X.env.scope scope own
  g : ∃ g0 : TG, (∀ (s : Shared) (H : Hp) (C : Addr) (cl : List (Str × Addr)) (fp : List Addr), PG (X.blk s H scope (compEnvC scope cl C X.env) fp) tg g0) ∧ LGw X.K (own.map (·.2)) g0 g
  t : ∃ t0 : TT, (∀ (s : Shared) (H : Hp) (C : Addr) (cl : List (Str × Addr)) (fp : List Addr), PTs (X.blk s H scope (compEnvC scope cl C X.env) fp) ifs t0) ∧ LT X.K t0 tt
  e : ∃ e0 : TE, (∀ (s : Shared) (H : Hp) (C : Addr) (cl : List (Str × Addr)) (fp : List Addr), PE (X.blk s H scope (compEnvC scope cl C X.env) fp) elt e0) ∧ LE X.K e0 te
def cE (K : KF) (td : DTE) : TE := fun s H Q => ∃ G sd R Qd, SV K G sd s ∧ RepH K G R H ∧ td sd R Qd ∧ CB K G R H Qd Q
def cT (K : KF) (td : DTT) : TT := fun s H Q => ∃ G sd R Qd, SV K G sd s ∧ RepH K G R H ∧ td sd R Qd ∧ CBT K G R H Qd Q
def cGw (K : KF) (vs : List Nat) (gd : DTG) : TG := fun v s H Q => ∃ G sd R d Qd, SV K G sd s ∧ RepH K G R H ∧ DV K G d v ∧ gd d sd R Qd ∧ CBS K G R H Qd (fun s' H' => wipe s' vs = wipe s vs → Q s' H')
theorem LE.c {K : KF} {td : DTE} : LE K (cE K td) td := fun G sd s R H Qd Q sv rh q k => ⟨G, sd, R, Qd, sv, rh, q, k⟩
theorem LT.c {K : KF} {td : DTT} : LT K (cT K td) td := fun G sd s R H Qd Q sv rh q k => ⟨G, sd, R, Qd, sv, rh, q, k⟩
theorem LGw.c {K : KF} {vs : List Nat} {gd : DTG} : LGw K vs (cGw K vs gd) gd := fun G sd s R H d v Qd Q sv rh dv q k => ⟨G, sd, R, d, Qd, sv, rh, dv, q, k⟩
theorem DE.pe {e : Expr} {td : DTE} (h : DE X e td) : PE X e (cE X.K td) := by
  obtain ⟨t1, a1, a2⟩ := h
  exact ⟨fun pins s σ H Q I ⟨G, sd, R, Qd, sv, rh, q, k⟩ => a1.run pins s σ H Q I (a2 G sd σ R H Qd Q sv rh q k)⟩
theorem DT.pt {e : Expr} {td : DTT} (h : DT X e td) : PT X e (cT X.K td) := by
  obtain ⟨t1, a1, a2⟩ := h
  exact ⟨fun pins s σ H Q I ⟨G, sd, R, Qd, sv, rh, q, k⟩ => a1.run pins s σ H Q I (a2 G sd σ R H Qd Q sv rh q k)⟩
theorem DTs.pts {es : List Expr} {td : DTT} (h : DTs X es td) : PTs X es (cT X.K td) := by
  obtain ⟨t1, a1, a2⟩ := h
  exact ⟨fun pins s σ H Q I ⟨G, sd, R, Qd, sv, rh, q, k⟩ => a1.run pins s σ H Q I (a2 G sd σ R H Qd Q sv rh q k)⟩
theorem DGw.pg {e : Expr} {vs : List Nat} {gd : DTG} (h : DGw X vs e gd) : PG X e (cGw X.K vs gd) := by
  obtain ⟨t1, a1, a2⟩ := h
  exact ⟨fun pins s σ H v u Q I r ⟨G, sd, R, d, Qd, sv, rh, dv, q, k⟩ => a1.run pins s σ H v u Q I r (a2 G sd σ R H d v Qd Q sv rh dv q k)⟩
theorem lcd (hi : DI X tg iter wd) (ok : BlkOk X.N X.env.scope scope own) (hg : ∀ (s : Shared) (H : Hp) (C : Addr) (cl : List (Str × Addr)) (fp : List Addr), DGw (X.blk s H scope (compEnvC scope cl C X.env) fp) (own.map (·.2)) tg g)
    (ht : ∀ (s : Shared) (H : Hp) (C : Addr) (cl : List (Str × Addr)) (fp : List Addr), DTs (X.blk s H scope (compEnvC scope cl C X.env) fp) ifs tt)
    (he : ∀ (s : Shared) (H : Hp) (C : Addr) (cl : List (Str × Addr)) (fp : List Addr), DE (X.blk s H scope (compEnvC scope cl C X.env) fp) elt te) : LcD X tg iter ifs elt scope own wd g tt te :=
  ⟨hi, ok, ⟨_, fun s H C cl fp => (hg s H C cl fp).pg, LGw.c⟩, ⟨_, fun s H C cl fp => (ht s H C cl fp).pts, LT.c⟩, ⟨_, fun s H C cl fp => (he s H C cl fp).pe, LE.c⟩⟩
theorem de_lcF (hc : X.calm = true) (hN : X.N.Nodup) (h : LcD X tg iter ifs elt scope own wd g tt te) (hs : ∀ x, foldedSetIterable iter X.env x = pure x := by intro _; rfl) : DE X (.ListComp elt [⟨tg, iter, ifs, 0⟩] scope pos) (dLcF wd g tt te (own.map (·.2))) := by
  obtain ⟨⟨wi, i1, i2⟩, ok, ⟨g0, ga, gb⟩, ⟨t0, ta, tb⟩, ⟨e0, ea, eb⟩⟩ := h
  exact ⟨_, pe_lc hc hN i1 ok ga ta ea hs, LE.lcF i2 gb tb eb⟩
theorem LS.asg {K : KF} {te0 : TE} {te : DTE} (i : Nat) (h : LE K te0 te) : LS K (tAsg te0 (gName i)) (dAsg te (dgName i)) := fun G sd s R H Ed E sv rh q k =>
  h G sd s R H _ _ sv rh q fun G1 R1 H1 d v e1 rh1 dv1 q1 => k.nx G1 _ _ R1 H1 e1 ((sv.st e1).set i dv1) rh1 q1
/-- name = [..], on one line -/
theorem ds_setLcF {i : Nat} {y : Str} {py spos : Pos} (hc : X.calm = true) (hN : X.N.Nodup) (hy : X.N[i]? = some y) (hyl : X.env.scope.names.lookup y = some .local) (hsw : swapsWith (.ListComp elt [⟨tg, iter, ifs, 0⟩] scope pos) (some (.Name y py)) spos.line X.env = pure true)
    (h : LcD X tg iter ifs elt scope own wd g tt te) (hs : ∀ x, foldedSetIterable iter X.env x = pure x := by intro _; rfl) :
    DS X (.Assign [.Name y py] (.ListComp elt [⟨tg, iter, ifs, 0⟩] scope pos) spos) (dAsg (dLcF wd g tt te (own.map (·.2))) (dgName i)) := by
  obtain ⟨⟨wi, i1, i2⟩, ok, ⟨g0, ga, gb⟩, ⟨t0, ta, tb⟩, ⟨e0, ea, eb⟩⟩ := h
  exact ⟨_, ps_setLc hc hN hy hyl hsw i1 ok ga ta ea hs, LS.asg i (LE.lcF i2 gb tb eb)⟩
end
end DL
end
section
set_option Elab.async false
set_option maxRecDepth 100000
set_option linter.all false
set_option autoImplicit false
/-! DLG: a def's promise where no repr is under way (guards empty) -/
namespace DL
open PySem PySem.Spec PyProof.Rows L2
variable [TabCtx]

structure FnG (P : Program) (w : World) (K : PySem.W.Frag) (mg : Str → Option Value) (base : Heap) (CX : CXT) (k : Nat) (f : Addr) (fd : FuncData) (ps : List Str) (sp : Sp) : Prop where
  len : ∀ vs H Q E, sp vs H Q E → vs.length = ps.length
  go : ∀ (A : Around), A.guards = some [] → Room k A → ∀ (outer : List Env) (s : Shared) (H : Hp), Env0 P w K mg base A outer s H →
    ∀ (args : Args) (us : List Value) (vs : List V) (Q : VK) (E : XK), BindsTo s fd args (ps.zip us) → Vals vs us → sp vs H Q E → codeAny (model P w) A (.call (.ref f) args) (CR CX outer P w H s Q E) s
theorem FnG.mono {P : Program} {w : World} {K : PySem.W.Frag} {mg : Str → Option Value} {base : Heap} {CX : CXT} {j k : Nat} {f : Addr} {fd : FuncData} {ps : List Str} {sp : Sp} (F : FnG P w K mg base CX j f fd ps sp) (h : j ≤ k) : FnG P w K mg base CX k f fd ps sp :=
  ⟨F.len, fun A g r => F.go A g (r.mono h)⟩
theorem FnG.of {P : Program} {w : World} {K : PySem.W.Frag} {mg : Str → Option Value} {base : Heap} {CX : CXT} {k : Nat} {f : Addr} {fd : FuncData} {ps : List Str} {sp : Sp} (F : FnOk P w K mg base CX k f fd ps sp) : FnG P w K mg base CX k f fd ps sp :=
  ⟨F.len, fun A _ r outer s H e args us vs Q E => F.run A outer s H args us vs Q E r e⟩

section
variable {X : Cx} {CX : CXT} {k : Nat} {f C : Addr} {fd : FuncData} {ps : List Str} {sp : Sp} {dvs : List V} {ds : List Value} {E : XK} {x m : Str} {p pos apos : Pos} {e o : Expr} {es : List Expr} {ta : TE} {t : TA}
theorem goG {pins : List (Addr × Obj)} {σ : L2.St} {H : Hp} {s : Shared} {Q : VK} {us : List Value} {vs : List V} (F : FnG X.prog X.w X.K X.mg X.base CX k f fd ps sp) (hgd : X.A.guards = some []) (room : Room k X.A) (bd : Binds X.K fd ps ds) (dd : Vals dvs ds) (ps' : Passes CX X E)
    (I : Inv X pins σ H s) (rv : Vals vs us) (q : sp (vs ++ dvs) H Q E) : wpAny (model X.prog X.w) X.A (call (.ref f) us) (EP X pins σ Q) X.xe s := by
  have all : Vals (vs ++ dvs) (us ++ ds) := rv.append dd
  have n : (us ++ ds).length = ps.length := all.length.symm.trans (F.len _ _ _ _ q)
  apply wpAny_call
  apply codeAny_mono (F.go X.A hgd room X.stack s H I.env0 ⟨us, []⟩ (us ++ ds) (vs ++ dvs) Q E (bd s us I.kIn n) all q)
  rintro (er | fl) s' z
  · exact ps' pins σ H s er s' I z
  · cases fl <;> first | exact False.elim z | exact I.after z
theorem pe_callG (F : FnG X.prog X.w X.K X.mg X.base CX k f fd ps sp) (hgd : X.A.guards = some []) (room : Room k X.A) (gl : Gl X x) (hm : X.mg x = some (.ref f)) (kp : PySem.W.keepIn X.K (.ref f) = true) (bd : Binds X.K fd ps ds) (dd : Vals dvs ds) (ps' : Passes CX X E)
    (ha : PA X (e :: es) t) (hdb : (x == ("__debug__" : Str)) = false := by decide) (he : starEach (e :: es) X.env = (false, eval e X.env) :: starEach es X.env := by rfl) (hpl : (backTo pos (starEach es X.env)).any (·.1) = false := by rfl) :
    PE X (.Call (.Name x p) (e :: es) [] pos) (tCall sp dvs E t) :=
  ⟨fun pins s σ H Q I h => wpAny_Call_Name_kw (ld_glob I gl hm (PySem.W.callWith_K (h₀ := X.base) I.ok.mod.kin kp
    (thn (ha.run pos pins s σ H _ I h) fun us s1 ⟨vs, H1, I1, r, q⟩ => ⟨I1.kIn, goG F hgd room bd dd ps' I1 r q⟩) he hpl) hdb)⟩
end

section
variable {CX : CXT} {P : Program} {w : World} {K : PySem.W.Frag} {mg : Str → Option Value} {base : Heap}
theorem fnG_of {k : Nat} {f : Addr} {name qual : Str} {params : Arguments} {body : List Stmt} {scope : Scope} {dV kV doc pm cdv ct oc : Value} {an od : Option Addr}
    {osl : Array (Option Value)} {N ps : List Str} {sp : Sp} (lk : K.lookup f = some ⟨oc, od, .func (PySem.W.fnOf name qual params body scope dV kV doc pm an cdv ct), osl⟩) (hcd : PySem.W.codeIn K cdv qual = true) (S : FnScope N ps scope)
    (len : ∀ vs H Q E, sp vs H Q E → vs.length = ps.length)
    (hbody : ∀ (A : Around), A.guards = some [] → ∀ (outer : List Env) (s : Shared) (H : Hp) (vs : List V) (Q : VK) (E : XK), Room k (A.deeper (envOfC qual scope s.heap.objs.size f cdv)) → sp vs H Q E →
      ∃ t, PSs (cxOf CX P w K mg base N qual scope f cdv A outer s H E) body t ∧ t { nx := fun _ H' => Q .non H', rt := Q } (L2.start N vs) H) :
    FnG P w K mg base CX (k + 1) f (PySem.W.fnOf name qual params body scope dV kV doc pm an cdv ct) ps sp where
  len := len
  go := by
    intro A gd room outer s H e0 args us vs Q E bd rv q
    have kin : K.In s.heap := e0.mod.kin.keeps fun b o z => (e0.bs b o z).1
    have nl : s.heap.NoLimit := e0.mod.nolimit.keeps fun b o z => (e0.bs b o z).1
    apply codeAny_call_function room.depth (kin _ _ lk) rfl S.co S.gen rfl (PySem.W.codeRec_of kin hcd)
    apply bd
    have kinds : ∀ y ∈ ps.zip us, scope.names.lookup y.1 = some .local ∨ (scope.names.lookup y.1 = some .cell ∧ ((cellsFrom (s.heap.objs.size + 1) scope.names []).lookup y.1).isSome = true) := by
      rintro ⟨n, v⟩ hy
      exact (S.par n (List.of_mem_zip hy).1).imp id fun z => ⟨z, PySem.W.cellsFrom_some _ _ _ (.inl z)⟩
    apply wpAny_newFunctionEnv_cells S.kind kinds
    rintro env rfl s1 ic
    refine ⟨nl.keeps ic.toInCall.keep, codeAny_func ?_⟩
    obtain ⟨t, ht, tq⟩ := hbody A gd outer s H vs Q E (room.deeper _) q
    have inv : Inv (cxOf CX P w K mg base N qual scope f cdv A outer s H E) [] (L2.start N vs) H s1 := inv_start S room.hd e0 (len _ _ _ _ q) rv ic
    have done : ∀ {σ' : L2.St} {H' : Hp} {v : V} {u : Value} {s' : Shared}, Inv (cxOf CX P w K mg base N qual scope f cdv A outer s H E) [] σ' H' s' → RelV v u → Q v H' → CE outer P w H s Q u s' := by
      intro σ' H' v u s' J r z
      exact ⟨v, H', J.os, J.bare, J.base, J.hok, r, z⟩
    apply wpAny_mono (ht.run [] s1 _ H _ inv tq)
    · rintro fl s' z
      cases fl with
      | ret u => obtain ⟨v, σ', H', J, r, z⟩ := z; exact done J r z
      | next => obtain ⟨σ', H', J, z⟩ := z; exact done (v := V.non) (u := Value.none) J rfl z
      | brk => obtain ⟨_, _, _, z⟩ := z; exact z.elim
      | cont => obtain ⟨_, _, _, z⟩ := z; exact z.elim
    · exact fun _ _ z => z
/-- a def of the text that lets nothing out -/
theorem okG {x qual : Str} {st : Stmt} {f : Addr} {fd : FuncData} {N ps : List Str} {k : Nat} {sp : Sp} (F : Fun K x qual st f fd) (S : FnScope N ps (defScope st)) (len : ∀ vs H Q E, sp vs H Q E → vs.length = ps.length)
    (hbody : ∀ (cdv : Value) (A : Around), A.guards = some [] → ∀ (outer : List Env) (s : Shared) (H : Hp) (vs : List V) (Q : VK) (E : XK), Room k (A.deeper (envOfC qual (defScope st) s.heap.objs.size f cdv)) → sp vs H Q E →
      ∃ t, PSs (cxOf CX0 P w K mg base N qual (defScope st) f cdv A outer s H E).nox (defBody st) t ∧ t { nx := fun _ H' => Q .non H', rt := Q } (L2.start N vs) H) : FnG P w K mg base CX0 (k + 1) f fd ps sp := by
  obtain ⟨oc, od, kV, doc, pm, an, cdv, ct, osl, rfl, lk, cd⟩ := F.ex
  refine fnG_of lk cd S len fun A gd outer s H vs Q E room q => ?_
  obtain ⟨t, h, z⟩ := hbody cdv A gd outer s H vs Q E room q
  exact ⟨t, h.nox, z⟩
end
end DL
end
section
set_option Elab.async false
set_option maxRecDepth 100000
set_option linter.all false
set_option autoImplicit false
/-! DLE: the end of a law's row, from a promise FnG -/
namespace DL
open PySem PySem.Spec PyProof.Rows L2
variable [TabCtx]

section
variable {P : Program} {w : World} {K : PySem.W.Frag} {mg mb : Str → Option Value} {CX : CXT} {k : Nat} {fa a : Addr} {fd : FuncData} {x : Str} {sp : Sp} {s1 : Shared} {vs : List Value} {ns : List Int}
/-- at an abstract heap that tracks the script at most -/
theorem law_at {H : Hp} (kin : K.In s1.heap) (gns : s1.heap.Ns mainGlobals mg) (bns : s1.heap.Ns builtinsNs mb) (blt : ∀ x : Str, x ≠ "__name__" → mb x = bootBuiltins x) (nl : s1.heap.NoLimit) (gens : s1.gens = #[])
    (obj : s1.heap.get? a = some { cls := .type "list", data := .seq vs.toArray }) (room : Room k callerA)
    (F : ∀ base : Heap, K.In base → base.Ns mainGlobals mg → FnG P w K mg base CX k fa fd [x] sp) (bd : ∀ (s : Shared) (u : Value), BindsTo s fd ⟨[u], []⟩ [(x, u)])
    (q : sp [.ref a] H (fun v _ => v = .bl true) fun _ _ _ => False) (noX : ∀ e s', CX [] H s1 (fun _ _ _ => False) e s' → False)
    (only : Only H) (hok : HOk P w H s1.heap) (one : ∀ b u, H b = some u → b = a ∧ K.lookup a = none) :
    codeAny (model P w) callerA (.call (.ref fa) ⟨[.ref a], []⟩) (fun r s' => r = .ok (.ret (.bool true)) ∧ OldK s1.heap s'.heap ∧ s'.os = s1.os ∧ AllBare s'.gens) s1 := by
  -- a namespace's object is not the script
  have keep : ∀ {b : Addr} {m : Str → Option Value}, s1.heap.Ns b m → (hidT s1.heap H).Ns b m := by
    rintro b m ⟨o, es, ep, e, d, r⟩
    refine ⟨o, es, ep, hidT_get e ?_, d, r⟩
    cases z : H b with
    | none => rfl
    | some u =>
      have eb := (one b u z).1
      rw [eb, obj] at e
      cases e
      cases d
  have inK : K.In (hidT s1.heap H) := by
    intro b o e
    refine hidT_get (kin b o e) ?_
    cases z : H b with
    | none => rfl
    | some u =>
      obtain ⟨eb, no⟩ := one b u z
      rw [eb, no] at e
      cases e
  have md : Mod K mg (hidT s1.heap H) := ⟨inK, keep gns, ⟨mb, keep bns, blt⟩, by obtain ⟨mc, h1, h2⟩ := nl; exact ⟨mc, keep h1, h2⟩⟩
  have none_in : ∀ b : Addr, b ∉ frs ([] : List Env) := fun b z => by cases z
  have ev : Env0 P w K mg (hidT s1.heap H) callerA [] s1 H := ⟨rfl, md, fun _ _ e => of_hidT e, Nat.le_of_eq (hidT_size _ _), trivial, fun b z => (none_in b z).elim, hok, .of_eq gens⟩
  apply codeAny_mono ((F _ inK (keep gns)).go callerA rfl room [] s1 H ev ⟨[.ref a], []⟩ [.ref a] [.ref a] _ _ (bd s1 (.ref a)) (.cons rfl .nil) q)
  rintro (er | fl) s2 z
  · exact (noX er s2 z).elim
  · cases fl with
    | next => exact False.elim z
    | brk => exact False.elim z
    | cont => exact False.elim z
    | ret u =>
      obtain ⟨v, H2, os, bare, un, hok2, rel, tr⟩ := z
      cases (show v = .bl true from tr)
      cases (show u = Value.bool true from rel)
      refine ⟨rfl, OldK.of_keep fun b o e => ?_, os, bare⟩
      rcases only b with z | ⟨ob, xs, z⟩
      · exact un.keep b o e z (none_in b) (by simp)
      · have e1 : s1.heap.get? b = some ob := (hok b _ z).1
        have e2 : s2.heap.get? b = some ob := (hok2 b _ (un.frzs b ob _ z)).1
        rw [e] at e1
        rw [e2, e1]
theorem law_callG (kin : K.In s1.heap) (gns : s1.heap.Ns mainGlobals mg) (bns : s1.heap.Ns builtinsNs mb) (blt : ∀ x : Str, x ≠ "__name__" → mb x = bootBuiltins x) (nl : s1.heap.NoLimit) (gens : s1.gens = #[])
    (obj : s1.heap.get? a = some { cls := .type "list", data := .seq vs.toArray }) (inz : IntsAre vs ns) (few : ns.length ≤ sizeLine) (room : Room k callerA)
    (F : ∀ base : Heap, K.In base → base.Ns mainGlobals mg → FnG P w K mg base CX k fa fd [x] sp) (bd : ∀ (s : Shared) (u : Value), BindsTo s fd ⟨[u], []⟩ [(x, u)])
    (hsp : ∀ H : Hp, SqL K H a (ns.map V.int) → sp [.ref a] H (fun v _ => v = .bl true) fun _ _ _ => False)
    (noX : ∀ H e s', CX [] H s1 (fun _ _ _ => False) e s' → False) :
    codeAny (model P w) callerA (.call (.ref fa) ⟨[.ref a], []⟩) (fun r s' => r = .ok (.ret (.bool true)) ∧ OldK s1.heap s'.heap ∧ s'.os = s1.os ∧ AllBare s'.gens) s1 := by
  have n1 := inz.length
  cases lk : K.lookup a with
  | some o =>
    have e := kin a o lk
    rw [obj] at e
    cases e
    have sq : SqL K (fun _ => none) a (ns.map V.int) := .inr ⟨_, vs.toArray, _, lk, rfl, rfl, rfl, by rw [List.size_toArray, n1]; exact few, by simpa using vals_ints inz⟩
    exact law_at kin gns bns blt nl gens obj room F bd (hsp _ sq) (noX _) (fun _ => .inl rfl) (fun _ u z => by cases (show (none : Option HO) = some u from z)) fun _ u z => by cases (show (none : Option HO) = some u from z)
  | none =>
    let H : Hp := upd (fun _ => none) a (.frz { cls := .type "list", data := .seq vs.toArray } (.lst (ns.map V.int)))
    have at_ : ∀ b u, H b = some u → b = a ∧ u = .frz { cls := .type "list", data := .seq vs.toArray } (.lst (ns.map V.int)) := by
      intro b u z
      by_cases hb : b = a
      · subst hb
        have z2 : upd (fun _ => none) b _ b = some u := z
        rw [upd_same] at z2
        cases z2
        exact ⟨rfl, rfl⟩
      · have z2 : upd (fun _ => none) a _ b = some u := z
        rw [upd_ne hb] at z2
        cases z2
    have sq : SqL K H a (ns.map V.int) := .inl (.inr ⟨_, upd_same⟩)
    refine law_at kin gns bns blt nl gens obj room F bd (hsp H sq) (noX H) (fun b => ?_) (fun b u z => ?_) fun b u z => ⟨(at_ b u z).1, lk⟩
    · cases z : H b with
      | none => exact .inl rfl
      | some u => exact .inr ⟨_, _, by rw [(at_ b u z).2]⟩
    · obtain ⟨rfl, rfl⟩ := at_ b u z
      exact ⟨obj, by rw [List.length_map]; exact few, vs, _, vals_ints inz, obj⟩
end
theorem walkG {l : PySem.W.OpenLaw} {n k : Nat} {q : Program} {loose : List Str} {XP : (Str → Option Value) → Heap → Prop} {YP : World → Heap → Prop} {d : DefRec} {K : Params → PySem.W.Frag} {CX : World → CXT} {sp : World → Sp} {x : Str}
    (hn : l.most = some n) (hn2 : n ≤ sizeLine) (hdf : d.params.defaults = []) (room : Room k callerA)
    (hY : ∀ (w : World) (h : Heap), YP w h → (K w.params).In h)
    (F : ∀ (w : World) (mg : Str → Option Value) (fa : Addr) (h : Heap), (K w.params).In h → h.Ns mainGlobals mg → mg d.name = some (.ref fa) →
      ∃ fd : FuncData, (∀ (s : Shared) (u : Value), BindsTo s fd ⟨[u], []⟩ [(x, u)]) ∧
        ∀ base : Heap, (K w.params).In base → base.Ns mainGlobals mg → FnG l.prog w (K w.params) mg base (CX w) k fa fd [x] (sp w))
    (hsp : ∀ (w : World) (H : Hp) (a : Addr) (ns : List Int), ns.length ≤ n → SqL (K w.params) H a (ns.map V.int) → sp w [.ref a] H (fun v _ => v = .bl true) fun _ _ _ => False)
    (noX : ∀ (w : World) (H : Hp) (s : Shared) (e : Value) (s' : Shared), CX w [] H s (fun _ _ _ => False) e s' → False) :
    PySem.W.WalkO q loose XP YP l.row.toRowW d [] (fun f vs => PySem.call f vs) := by
  apply Att.attach_call hn hdf
  intro w s0 s1 mg mb fa o pm cd doc a vs ns G Y ho hd hcd hmg hobj hints hlen hg
  have kin := hY w _ Y
  obtain ⟨fd, bd, hF⟩ := F w mg fa _ kin G.T.g hmg
  exact law_callG kin G.T.g G.T.b G.T.builtins G.T.nolimit hg hobj hints (Nat.le_trans hlen hn2) room hF bd (fun H sq => hsp w H a ns hlen sq) fun H e s' => noX w H s1 e s'
end DL
end
section
set_option Elab.async false
set_option maxRecDepth 100000
set_option linter.all false
set_option autoImplicit false
/-! DL4: defs and their promises, calls -/
namespace DL
open PySem PySem.Spec PyProof.Rows L2
variable [TabCtx]

/-- an exception: its class, its fields -/
abbrev DXK := Value → List (Str × D) → Rs → Prop
def ExD (K : PySem.W.Frag) (G : Hp) (R : Rs) (H : Hp) (od : Option Addr) (fs : List (Str × D)) : Prop := match od with
  | none => fs = []
  | some d => ∃ vs : List V, H d = some (.xd ((fs.map (·.1)).zip vs)) ∧ R d = none ∧ G d = none ∧ DVs K G (fs.map (·.2)) vs
theorem ExD.st {K : PySem.W.Frag} {G G' : Hp} {R R' : Rs} {H H' : Hp} {od : Option Addr} {fs : List (Str × D)} (h : ExD K G R H od fs) (e : Stp G R H G' R' H') : ExD K G' R' H' od fs := by
  unfold ExD at *
  cases od with
  | none => exact h
  | some d =>
    obtain ⟨vs, h1, h2, h3, h4⟩ := h
    obtain ⟨q1, q2, q3⟩ := e.f d _ h1 (by intro ps z; cases z) h2 h3
    exact ⟨vs, q1, q2, q3, h4.st e⟩
def CBX (K : KF) (G : Hp) (R : Rs) (H : Hp) (Ed : DXK) (E : XK) : Prop := ∀ G' R' H' cls od fs, Stp G R H G' R' H' → RepH K G' R' H' → ExD K G' R' H' od fs → Ed cls fs R' → E cls od H'
theorem CBX.st {K : KF} {G G' : Hp} {R R' : Rs} {H H' : Hp} {Ed : DXK} {E : XK} (h : CBX K G R H Ed E) (e : Stp G R H G' R' H') : CBX K G' R' H' Ed E := fun g r h' c o f q => h g r h' c o f (e.trans q)
section
variable {K : KF} {F : KB} {Φ : Phi} {G : Hp} {R : Rs} {H : Hp}
theorem RepH.toAll (h : RepH K G R H) : RepH ⟨K.F, .all⟩ G R H := ⟨h.g, h.r, trivial, h.b⟩
theorem RepH.ofAll (h : RepH ⟨F, .all⟩ G R H) (φ : Φ.p G R H) : RepH ⟨F, Φ⟩ G R H := ⟨h.g, h.r, φ, h.b⟩
theorem CB.toAll {Qd : DK} {Q : VK} (h : CB K G R H Qd Q) (φ : K.Φ.p G R H) : CB ⟨K.F, .all⟩ G R H Qd Q := fun G' R' H' d v e rh dv q => h G' R' H' d v e (rh.ofAll (K.Φ.st e φ)) dv q
theorem CB.ofAll {Qd : DK} {Q : VK} (h : CB ⟨F, .all⟩ G R H Qd Q) : CB ⟨F, Φ⟩ G R H Qd Q := fun G' R' H' d v e rh dv q => h G' R' H' d v e rh.toAll dv q
end
abbrev DSp := List D → Rs → DK → DXK → Prop
def spOf (K : KB) (dsp : DSp) : Sp := fun vs H Q E => ∃ G ds R Qd Ed, DVs K G ds vs ∧ RepH ⟨K, .all⟩ G R H ∧ dsp ds R Qd Ed ∧ CB ⟨K, .all⟩ G R H Qd Q ∧ CBX ⟨K, .all⟩ G R H Ed E
abbrev Ed0 : DXK := fun _ _ _ => False

/-- a def's end: what it made may be forgotten; a list that it made and hands back may be told as one that never changes -/
def Fin (Qd : DK) : DK := fun d R' => (∃ R2, (∀ a ro, R2 a = some ro → R' a = some ro) ∧ Qd d R2) ∨
  (∃ p ds R2, d = .ref p ∧ R' p = some (.lst ds) ∧ (∀ a ro, R2 a = some ro → a ≠ p ∧ R' a = some ro) ∧ Qd (.lst ds) R2)
theorem fin {Qd : DK} {d : D} {R : Rs} (h : Qd d R) : Fin Qd d R := .inl ⟨R, fun _ _ q => q, h⟩
theorem finS {Qd : DK} {d : D} {R R' : Rs} (s : ∀ a ro, R a = some ro → R' a = some ro) (h : Qd d R) : Fin Qd d R' := .inl ⟨R, s, h⟩
theorem CB.fin {K : KF} {G : Hp} {R : Rs} {H : Hp} {Qd : DK} {Q : VK} (h : CB K G R H Qd Q) : CB K G R H (Fin Qd) Q := fun G' R' H' d v e rh dv q => by
  rcases q with ⟨R2, s, q⟩ | ⟨p, ds, R2, rfl, hp, s, q⟩
  · exact h G' R2 H' d v (e.drop s) (rh.sub0 s) dv q
  · cases dv
    obtain ⟨vs, h1, h2⟩ := rh.lst hp
    obtain ⟨gp, _⟩ := rh.r p _ hp
    have hr2 : R2 p = none := by
      cases z : R2 p with
      | none => rfl
      | some ro => exact absurd rfl (s p ro z).1
    have s' : ∀ a ro, R2 a = some ro → R' a = some ro := fun a ro z => (s a ro z).2
    have S2 : Stp G' R' H' (upd G' p (.lst vs)) R2 H' := .mk0 (fun b u q => by rw [upd_ne (ne_of_none q gp)]; exact q) fun a o q1 q2 q3 => by
      have hb : a ≠ p := by intro z; subst z; rw [hp] at q2; cases q2
      refine ⟨q1, ?_, by rw [upd_ne hb]; exact q3⟩
      cases z : R2 a with
      | none => rfl
      | some ro => rw [s' a ro z] at q2; cases q2
    obtain ⟨s1, rh2⟩ := (rh.sub0 s').tell (p := p) (o := .lst vs) ⟨h1, hr2, gp⟩ (K.Φ.st S2 rh.φ) (K.F.B.st S2 rh.b)
    exact h _ R2 H' _ _ (e.trans S2) rh2 (.lst upd_same (h2.mono s1)) q
def dstart (N : List Str) (ds : List D) : DSt := ds.map some ++ List.replicate (N.length - ds.length) none
theorem SV.start {K : PySem.W.Frag} {G : Hp} {N : List Str} {ds : List D} {vs : List V} (h : DVs K G ds vs) : SV K G (dstart N ds) (L2.start N vs) := by
  refine ⟨by unfold dstart L2.start; simp [h.length], fun i d hd => ?_⟩
  have hl := h.length
  unfold dstart at hd
  unfold L2.start
  by_cases hi : i < ds.length
  · rw [List.getElem?_append_left (by simpa using hi), List.getElem?_map, List.getElem?_eq_getElem hi] at hd
    cases hd
    obtain ⟨v, hv, dv⟩ := h.get (List.getElem?_eq_getElem hi)
    exact ⟨v, by rw [List.getElem?_append_left (by simp; omega), List.getElem?_map, hv]; rfl, dv⟩
  · rw [List.getElem?_append_right (by simpa using hi), List.getElem?_replicate] at hd
    split at hd <;> cases hd

section
variable {P : Program} {w : World} {K : KB} {mg : Str → Option Value} {base : Heap}
theorem spOf_len {dsp : DSp} {n : Nat} (len : ∀ ds R Q E, dsp ds R Q E → ds.length = n) : ∀ vs H Q E, spOf K dsp vs H Q E → vs.length = n := fun vs H Q E ⟨G, ds, R, Qd, Ed, dv, rh, q, _⟩ => by rw [← dv.length]; exact len _ _ _ _ q
/-- a def that lets no exception out -/
theorem okD {x qual : Str} {st : Stmt} {f : Addr} {fd : FuncData} {N ps : List Str} {k : Nat} {dsp : DSp} (F : Fun K x qual st f fd) (S : FnScope N ps (defScope st)) (len : ∀ ds R Q E, dsp ds R Q E → ds.length = ps.length)
    (hbody : ∀ (cdv : Value) (A : Around) (outer : List Env) (s : Shared) (H : Hp) (E : XK), A.guards = some [] → Room k (A.deeper (envOfC qual (defScope st) s.heap.objs.size f cdv)) →
      ∃ t, DSs ⟨(cxOf CX0 P w K mg base N qual (defScope st) f cdv A outer s H E).nox, .all, K.B⟩ (defBody st) t ∧ ∀ ds R Qd Ed, dsp ds R Qd Ed → t { nx := fun _ R' => Fin Qd .non R', rt := Fin Qd } (dstart N ds) R) : FnG P w K mg base CX0 (k + 1) f fd ps (spOf K dsp) := by
  refine okG F S (spOf_len len) fun cdv A gd outer s H vs Q E hr ⟨G, ds, R, Qd, Ed, dv, rh, q, cb, cx⟩ => ?_
  obtain ⟨t, ⟨t0, a1, a2⟩, h⟩ := hbody cdv A outer s H E gd hr
  refine ⟨t0, a1, a2 G _ _ R H _ _ (SV.start dv) rh (h ds R Qd Ed q) ⟨fun G' sd s R' H' e sv rh' q => cb.fin G' R' H' _ _ e rh' .non q, fun G' R' H' d v e rh' dv' q => cb.fin G' R' H' d v e rh' dv' q, fun _ _ _ _ _ _ _ _ q => q.elim, fun _ _ _ _ _ _ _ _ q => q.elim⟩⟩
end

/-! ### calls -/
def dCall (dsp : DSp) (Ed : DXK) (t : DTA) : DTE := fun s R Q => t s R fun ds R1 => dsp ds R1 Q Ed
section
variable {X : CxF} {CX : CXT} {k : Nat} {f C : Addr} {fd : FuncData} {ps : List Str} {dsp : DSp} {x m : Str} {p pos apos : Pos} {e o : Expr} {es : List Expr} {t : DTA}
theorem LE.call {K : KF} {t0 : TA} {Ed : DXK} {E : XK} (h : LA K t0 t) (hx : ∀ G R H, K.Φ.p G R H → CBX ⟨K.F, .all⟩ G R H Ed E) : LE K (tCall (spOf K.F dsp) [] E t0) (dCall dsp Ed t) := fun G sd s R H Qd Q sv rh q k =>
  h G sd s R H _ _ sv rh q fun G1 R1 H1 ds vs e1 rh1 dv1 q1 => by
    rw [List.append_nil]
    exact ⟨G1, ds, R1, Qd, Ed, dv1, rh1.toAll, q1, (k.st e1).toAll rh1.φ, hx _ _ _ rh1.φ⟩
theorem de_call (F : FnG X.prog X.w X.K X.mg X.base CX k f fd ps (spOf X.K.F dsp)) (hgd : X.A.guards = some []) (hr : Room k X.A) (hg : Gl X x) (hm : X.mg x = some (.ref f)) (hk : PySem.W.keepIn X.K (.ref f) = true) (hb : Binds X.K fd ps []) (hx : Passes CX X E0)
    (ha : DA X (e :: es) t) (hdb : (x == ("__debug__" : Str)) = false := by decide) (he : starEach (e :: es) X.env = (false, eval e X.env) :: starEach es X.env := by rfl) (hpl : (backTo pos (starEach es X.env)).any (·.1) = false := by rfl) :
    DE X (.Call (.Name x p) (e :: es) [] pos) (dCall dsp Ed0 t) := by
  obtain ⟨t0, a1, a2⟩ := ha
  exact ⟨_, pe_callG F hgd hr hg hm hk hb .nil hx a1 hdb he hpl, LE.call a2 fun _ _ _ _ _ _ _ _ _ _ _ _ _ q => q.elim⟩
end

/-! ### methods of built-in types -/
def TyD (T : String) (d : D) (R : Rs) : Prop := match d with
  | .str _ => T = "str"
  | .int _ => T = "int"
  | .lst _ => T = "list"
  | .rls _ => T = "list"
  | .dK _ _ => T = "dict"
  | .dT _ _ => T = "dict"
  | .ref l => (T = "list" ∧ ∃ xs, R l = some (.lst xs)) ∨ (T = "dict" ∧ ((∃ kvs, R l = some (.dK kvs)) ∨ ∃ kvs, R l = some (.dT kvs)))
  | _ => False
theorem TyD.ty {K : KF} {G : Hp} {R : Rs} {H : Hp} {T : String} {d : D} {v : V} (h : TyD T d R) (rh : RepH K G R H) (dv : DV K G d v) : tyV K T v H := by
  cases dv with
  | non => exact h.elim
  | bl b => exact h.elim
  | ty n => exact h.elim
  | tup _ _ => exact h.elim
  | ins _ _ _ => exact h.elim
  | lam _ _ => exact h.elim
  | dK h1 h2 h3 => exact .inr (.inr (.inl ⟨h, .inl ⟨_, rh.g _ _ h1⟩⟩))
  | dT h1 h2 h3 => exact .inr (.inr (.inl ⟨h, .inr ⟨_, rh.g _ _ h1⟩⟩))
  | int i => exact h
  | str x => exact h
  | lst h1 h2 => exact .inl ⟨h, _, .inl (.inl (rh.g _ _ h1))⟩
  | rls h1 h2 => exact .inl ⟨h, _, SqL.same rh.g h1⟩
  | ref a =>
    rcases h with ⟨h, xs, q⟩ | ⟨h, q⟩
    · obtain ⟨vs, q1, _⟩ := rh.lst q
      exact .inl ⟨h, vs, .inl (.inl q1)⟩
    · refine .inr (.inr (.inl ⟨h, ?_⟩))
      rcases q with ⟨kvs, q⟩ | ⟨kvs, q⟩
      · obtain ⟨_, o, h2, vs, rfl, _⟩ := rh.r a _ q
        exact .inl ⟨_, h2⟩
      · obtain ⟨_, o, h2, vs, rfl, _⟩ := rh.r a _ q
        exact .inr ⟨_, h2⟩
def dBM0 (T : String) (r : D → List D → Rs → DK → Prop) (to : DTE) : DTE := fun s R Q => to s R fun d R1 => TyD T d R1 ∧ r d [] R1 Q
def dBM (T : String) (r : D → List D → Rs → DK → Prop) (to : DTE) (t : DTA) : DTE := fun s R Q => to s R fun d R1 => TyD T d R1 ∧ t s R1 fun ds R2 => r d ds R2 Q
section
variable {X : CxF} {o e : Expr} {es : List Expr} {to : DTE} {t : DTA} {name : Str} {apos cpos : Pos} {T id : String} {r : D → List D → Rs → DK → Prop}
theorem de_bm (pa : PlainAttrs T) (slot : Slot T name id) (hty : typeOf (.builtin id) = pure (.type "method_descriptor")) (hm : MtD X id r) (ho : DE X o to) (ha : DA X (e :: es) t)
    (hbase : attributeBase o name X.env (eval o X.env) = eval o X.env := by rfl)
    (hfew : ((backTo cpos (starEach (e :: es) X.env)).all (fun x => !x.1) && (backToKw cpos (keywordEach [] X.env)).all (fun x => x.1.isSome)
      && decide ((e :: es).length + ([] : List Keyword).length + (if ([] : List Keyword).isEmpty then 0 else 1) < 30)) = true := by rfl)
    (hline : (apos.endLine == cpos.line) = true := by rfl) (hs : starEach (e :: es) X.env = (false, eval e X.env) :: starEach es X.env := by rfl) (hplain : (backTo cpos (starEach es X.env)).any (·.1) = false := by rfl) :
    DE X (.Call (.Attribute o name apos) (e :: es) [] cpos) (dBM T r to t) := by
  obtain ⟨r0, m1, m2⟩ := hm; obtain ⟨t0, a1, a2⟩ := ho; obtain ⟨t1, b1, b2⟩ := ha
  exact ⟨_, pe_bm pa slot hty m1 a1 b1 hbase hfew hline hs hplain, fun G sd s R H Qd Q sv rh q k => a2 G sd s R H _ _ sv rh q fun G1 R1 H1 d v e1 rh1 dv1 q1 => ⟨q1.1.ty rh1 dv1, b2 G1 sd s R1 H1 _ _ (sv.st e1) rh1 q1.2 fun G2 R2 H2 ds vs e2 rh2 dv2 q2 =>
    m2 G2 R2 H2 v vs d ds _ _ rh2 (dv1.st e2) dv2 q2 (k.st (e1.trans e2))⟩⟩
end

/-! ### stores -/
abbrev DTSet := D → D → D → Rs → (Rs → Prop) → Prop
def LSet (K : KF) (t : TSet) (td : DTSet) : Prop := ∀ G R H o i v od idx vd Qd Q, RepH K G R H → DV K G od o → DV K G idx i → DV K G vd v → td od idx vd R Qd → (∀ G' R' H', Stp G R H G' R' H' → RepH K G' R' H' → Qd R' → Q H') → t o i v H Q
def DSet (X : CxF) (td : DTSet) : Prop := ∃ t, PSet X t ∧ LSet X.K t td
def dgSub (to ti : DTE) (t : DTSet) : DTG := fun d s R Q => to s R fun o R1 => ti s R1 fun i R2 => t o i d R2 fun R3 => Q s R3
section
variable {X : CxF} {o i : Expr} {to ti : DTE} {t : DTSet} {pos : Pos}
theorem dg_sub (ho : DE X o to) (hi : DE X i ti) (hs : DSet X t)
    (ha : ∀ v, assign (.Subscript o i pos) X.env v = (do
      let ov ← holding [v] (eval o X.env)
      let iv ← holding [v, ov] (eval i X.env)
      standAt pos
      holding [v, ov, iv] (setItem ov iv v)
      release [v, ov, iv] []) := by intro _; rfl) : DG X (.Subscript o i pos) (dgSub to ti t) := by
  obtain ⟨t0, o1, o2⟩ := ho; obtain ⟨t1, i1, i2⟩ := hi; obtain ⟨t2, s1, s2⟩ := hs
  exact ⟨_, pg_sub o1 i1 s1 ha, fun G sd s R H d v Qd Q sv rh dv q k => o2 G sd s R H _ _ sv rh q fun G1 R1 H1 d1 v1 e1 rh1 dv1 q1 => i2 G1 sd s R1 H1 _ _ (sv.st e1) rh1 q1 fun G2 R2 H2 d2 v2 e2 rh2 dv2 q2 =>
    s2 G2 R2 H2 _ _ _ _ _ _ _ _ rh2 (dv1.st e2) dv2 ((dv.st e1).st e2) q2 fun G3 R3 H3 e3 rh3 q3 => k G3 sd s R3 H3 (e1.trans (e2.trans e3)) (((sv.st e1).st e2).st e3) rh3 q3⟩
/-- l[i] = v -/
def rdSetL : DTSet := fun o i v R Q => ∃ l ds k j, o = .ref l ∧ i = .int k ∧ R l = some (.lst ds) ∧ ixN ds.length k = some j ∧ Q (put R l (.lst (ds.set j v)))
theorem dset_list : DSet X rdSetL := by
  refine ⟨_, set_list, fun G R H o i v od idx vd Qd Q rh do_ di dv q k => ?_⟩
  obtain ⟨l, ds, n, j, rfl, rfl, hl, hj, q⟩ := q
  cases do_; cases di
  obtain ⟨vs, h1, h2⟩ := rh.lst hl
  refine ⟨l, vs, n, j, rfl, rfl, h1, by rw [← h2.length]; exact hj, ?_⟩
  obtain ⟨s1, rh1⟩ := rh.chg (ro := .lst (ds.set j vd)) (o := .lst (vs.set j v)) hl ⟨_, rfl, h2.set dv j⟩
  exact k G _ _ s1 rh1 q
end

/-! ### two names at once -/
def dPar (i j : Nat) (ta : DTA) : DTS := fun D s R => ta s R fun ds R1 => ∃ x y, ds = [x, y] ∧ D.nx ((s.set i (some x)).set j (some y)) R1
section
variable {X : CxF} {pos : Pos}
theorem ds_par {i j : Nat} {x y : Str} {a b : Expr} {ta : DTA} {px py pt : Pos} {kt k2 pt2} (hc : X.calm = true) (hN : X.N.Nodup) (hi : X.N[i]? = some x) (hj : X.N[j]? = some y) (hij : i ≠ j)
    (hx : X.env.scope.names.lookup x = some .local) (hy : X.env.scope.names.lookup y = some .local) (ha : DA X [a, b] ta)
    (hw : swappedStores [.Tuple [.Name x px, .Name y py] kt pt] (.Tuple [a, b] k2 pt2) X.env = pure (some [x, y]))
    (hs : swapsWithSole [.Tuple [.Name x px, .Name y py] kt pt] (.Tuple [a, b] k2 pt2) pos.line X.env = pure false := by rfl) :
    DS X (.Assign [.Tuple [.Name x px, .Name y py] kt pt] (.Tuple [a, b] k2 pt2) pos) (dPar i j ta) := by
  obtain ⟨t0, a1, a2⟩ := ha
  refine ⟨_, ps_par hc hN hi hj hij hx hy a1 hw hs, fun G sd s R H Ed E sv rh q k => a2 G sd s R H _ _ sv rh q fun G1 R1 H1 ds vs e1 rh1 dv1 q1 => ?_⟩
  obtain ⟨u, v, rfl, q2⟩ := q1
  cases dv1 with
  | cons d1 r =>
    cases r with
    | cons d2 r => cases r; exact ⟨_, _, rfl, k.nx G1 _ _ R1 H1 e1 (((sv.st e1).set i d1).set j d2) rh1 q2⟩
end
end DL
end
section
set_option Elab.async false
set_option maxRecDepth 100000
set_option linter.all false
set_option autoImplicit false
/-! DL5: operations on values -/
namespace DL
open PySem PySem.Spec PyProof.Rows L2
variable [TabCtx]

section
variable {X : CxF}
/-! ### ints -/
def rdI (C : Int → Int → Prop) (g : Int → Int → D) : DR2 := fun x y R Q => ∃ i j, x = .int i ∧ y = .int j ∧ C i j ∧ Q (g i j) R
def rdI0 (g : Int → Int → D) : DR2 := fun x y R Q => ∃ i j, x = .int i ∧ y = .int j ∧ Q (g i j) R
theorem LR2.i {K : KF} {C : Int → Int → Prop} {g : Int → Int → V} {gd : Int → Int → D} (h : ∀ G i j, DV K G (gd i j) (g i j)) : LR2 K (rI C g) (rdI C gd) := fun G R H x y xd yd Qd Q rh dx dy ⟨i, j, hx, hy, c, q⟩ k => by
  subst hx; subst hy; cases dx; cases dy
  exact ⟨i, j, rfl, rfl, c, k G R H _ _ (Stp.refl _ _ _) rh (h G i j) q⟩
theorem LR2.i0 {K : KF} {g : Int → Int → V} {gd : Int → Int → D} (h : ∀ G i j, DV K G (gd i j) (g i j)) : LR2 K (rI0 g) (rdI0 gd) := fun G R H x y xd yd Qd Q rh dx dy ⟨i, j, hx, hy, q⟩ k => by
  subst hx; subst hy; cases dx; cases dy
  exact ⟨i, j, rfl, rfl, k G R H _ _ (Stp.refl _ _ _) rh (h G i j) q⟩
theorem od_add : OpD X (binaryOp .Add) (rdI0 fun i j => .int (i + j)) := ⟨_, op_add, LR2.i0 fun _ _ _ => .int _⟩
theorem od_sub : OpD X (binaryOp .Sub) (rdI0 fun i j => .int (i - j)) := ⟨_, op_sub, LR2.i0 fun _ _ _ => .int _⟩
theorem od_mul : OpD X (binaryOp .Mult) (rdI CMul fun i j => .int (i * j)) := ⟨_, op_mul, LR2.i fun _ _ _ => .int _⟩
theorem od_fdiv : OpD X (binaryOp .FloorDiv) (rdI CDiv fun i j => .int (i / j)) := ⟨_, op_fdiv, LR2.i fun _ _ _ => .int _⟩
theorem od_mod : OpD X (binaryOp .Mod) (rdI (fun _ j => 0 < j) fun i j => .int (i % j)) := ⟨_, op_mod, LR2.i fun _ _ _ => .int _⟩
theorem od_pow : OpD X (binaryOp .Pow) (rdI CPow fun i j => .int (i ^ j.toNat)) := ⟨_, op_pow, LR2.i fun _ _ _ => .int _⟩
theorem od_lt : OpD X (compareOp .Lt) (rdI0 fun i j => .bl (decide (i < j))) := ⟨_, op_lt, LR2.i0 fun _ _ _ => .bl _⟩
theorem od_le : OpD X (compareOp .LtE) (rdI0 fun i j => .bl (decide (i ≤ j))) := ⟨_, op_le, LR2.i0 fun _ _ _ => .bl _⟩
theorem od_gt : OpD X (compareOp .Gt) (rdI0 fun i j => .bl (decide (j < i))) := ⟨_, op_gt, LR2.i0 fun _ _ _ => .bl _⟩
theorem od_ge : OpD X (compareOp .GtE) (rdI0 fun i j => .bl (decide (j ≤ i))) := ⟨_, op_ge, LR2.i0 fun _ _ _ => .bl _⟩
/-! ### texts -/
/-! ### equality of scalars -/
def D.sc : D → Option V
  | .non => some .non
  | .bl b => some (.bl b)
  | .int i => some (.int i)
  | .str x => some (.str x)
  | _ => none
theorem DV.sc {K : PySem.W.Frag} {G : Hp} {d : D} {v u : V} (h : DV K G d v) (e : d.sc = some u) : v = u := by
  cases h <;> first | (cases e; rfl) | cases e
def rdEqS (neg : Bool) : DR2 := fun x y R Q => ∃ u v, x.sc = some u ∧ y.sc = some v ∧ scal u v = true ∧ Q (.bl (if neg then !decide (u = v) else decide (u = v))) R
theorem od_eqS : OpD X (compareOp .Eq) (rdEqS false) := ⟨_, op_eq, fun G R H x y xd yd Qd Q rh dx dy ⟨u, v, hx, hy, c, q⟩ k => by
  rw [dx.sc hx, dy.sc hy]
  exact ⟨c, k G R H _ _ (Stp.refl _ _ _) rh (.bl _) q⟩⟩
theorem od_neS : OpD X (compareOp .NotEq) (rdEqS true) := ⟨_, op_ne, fun G R H x y xd yd Qd Q rh dx dy ⟨u, v, hx, hy, c, q⟩ k => by
  rw [dx.sc hx, dy.sc hy]
  exact ⟨c, k G R H _ _ (Stp.refl _ _ _) rh (.bl _) q⟩⟩
/-! ### is None -/
def D.isNon : D → Bool
  | .non => true
  | _ => false
theorem DV.isNon {K : PySem.W.Frag} {G : Hp} {d : D} {v : V} (h : DV K G d v) : decide (v = .non) = d.isNon := by
  cases h <;> rfl
/-! ### data: equality, membership, repr -/
/-- d may be read as the data p -/
def AsPy (R : Rs) (d : D) (p : PyData) : Prop := (d.plain = true ∧ p = d.py) ∨ ∃ l ds, d = .ref l ∧ R l = some (.lst ds) ∧ D.plains ds = true ∧ p = .list (D.pys ds)
theorem AsPy.dp {K : KF} {G : Hp} {R : Rs} {H : Hp} {d : D} {p : PyData} {v : V} (h : AsPy R d p) (rh : RepH K G R H) (dv : DV K G d v) : Dp K H v p := by
  rcases h with ⟨h, rfl⟩ | ⟨l, ds, rfl, hl, hp, rfl⟩
  · exact Dp.same rh.g (dv.dp h)
  · cases dv
    obtain ⟨vs, h1, h2⟩ := rh.lst hl
    exact .lst (.inl (.inl h1)) (DpAll.same rh.g (h2.dp hp))
def rdEqD (neg : Bool) : DR2 := fun x y R Q => ∃ p q, AsPy R x p ∧ AsPy R y q ∧ SeqAt.shaped p = true ∧ SeqAt.shaped q = true ∧ Q (.bl (if neg then !PyData.eqv p q else PyData.eqv p q)) R
def rdInD (neg : Bool) : DR2 := fun x y R Q => ∃ p qs, AsPy R x p ∧ AsPy R y (.list qs) ∧ SeqAt.shaped p = true ∧ SeqAt.shaped (.list qs) = true ∧ Q (.bl (if neg then !(qs.any fun z => PyData.eqv z p) else qs.any fun z => PyData.eqv z p)) R
theorem od_inD (hu : X.A.units + 65 < cLine) : OpD X (compareOp .In) (rdInD false) := ⟨_, op_inD hu, fun G R H x y xd yd Qd Q rh dx dy ⟨p, q, hp, hq, sp, sq, z⟩ k =>
  ⟨p, q, hp.dp rh dx, hq.dp rh dy, sp, sq, k G R H _ _ (Stp.refl _ _ _) rh (.bl _) z⟩⟩
/-! ### built-in functions -/
def rd1 (g : D → Rs → DK → Prop) : List D → Rs → DK → Prop := fun ds R Q => match ds with
  | [d] => g d R Q
  | _ => False
theorem cd_abs : CallD X (.builtin "abs") (fun ds R Q => ∃ i, ds = [.int i] ∧ Q (.int (if i < 0 then -i else i)) R) := ⟨_, call_abs, fun G R H xs ds Qd Q rh dv ⟨i, hx, q⟩ k => by
  subst hx
  cases dv with
  | cons a b => cases a; cases b; exact ⟨i, rfl, k G R H _ _ (Stp.refl _ _ _) rh (.int _) q⟩⟩
theorem cd_max2 (hc : X.calm = true) : CallD X (.builtin "max") (fun ds R Q => ∃ i j, ds = [.int i, .int j] ∧ Q (.int (if j > i then j else i)) R) := ⟨_, call_max2 hc, fun G R H xs ds Qd Q rh dv ⟨i, j, hx, q⟩ k => by
  subst hx
  cases dv with
  | cons a b =>
    cases b with
    | cons b c => cases a; cases b; cases c; exact ⟨i, j, rfl, k G R H _ _ (Stp.refl _ _ _) rh (.int _) q⟩⟩
theorem cd_min2 (hc : X.calm = true) : CallD X (.builtin "min") (fun ds R Q => ∃ i j, ds = [.int i, .int j] ∧ Q (.int (if j < i then j else i)) R) := ⟨_, call_min2 hc, fun G R H xs ds Qd Q rh dv ⟨i, j, hx, q⟩ k => by
  subst hx
  cases dv with
  | cons a b =>
    cases b with
    | cons b c => cases a; cases b; cases c; exact ⟨i, j, rfl, k G R H _ _ (Stp.refl _ _ _) rh (.int _) q⟩⟩
theorem cd_intB : CallD X (.type "int") (fun ds R Q => ∃ b, ds = [.bl b] ∧ Q (.int (if b = true then 1 else 0)) R) := ⟨_, call_int1, fun G R H xs ds Qd Q rh dv ⟨i, hx, q⟩ k => by
  subst hx
  cases dv with
  | cons a b => cases a; cases b; exact .inr ⟨i, rfl, k G R H _ _ (Stp.refl _ _ _) rh (.int _) q⟩⟩
theorem seqOf_ref {R : Rs} {l : Addr} {xs : List D} (h : seqOf R (.ref l) = some xs) : R l = some (.lst xs) := by
  unfold seqOf at h
  cases e : R l with
  | none => simp [e] at h
  | some o => cases o <;> simp [e] at h; subst h; rfl
theorem seqOf_lst {R : Rs} {l : Addr} {xs : List D} (h : R l = some (.lst xs)) : seqOf R (.ref l) = some xs := by
  unfold seqOf
  simp [h]
theorem seq_dv {K : KF} {G : Hp} {R : Rs} {H : Hp} {d : D} {v : V} {xs : List D} (h : seqOf R d = some xs) (rh : RepH K G R H) (dv : DV K G d v) : ∃ a vs, v = .ref a ∧ (SqL K H a vs ∨ SqT K H a vs) ∧ DVs K G xs vs := by
  cases dv with
  | tup h1 h2 => cases h; exact ⟨_, _, rfl, .inr (SqT.same rh.g h1), h2⟩
  | lst h1 h2 => cases h; exact ⟨_, _, rfl, .inl (.inl (.inl (rh.g _ _ h1))), h2⟩
  | rls h1 h2 => cases h; exact ⟨_, _, rfl, .inl (SqL.same rh.g h1), h2⟩
  | ref l =>
    obtain ⟨vs, h1, h2⟩ := rh.lst (seqOf_ref h)
    exact ⟨_, _, rfl, .inl (.inl (.inl h1)), h2⟩
  | non => cases h
  | bl _ => cases h
  | int _ => cases h
  | str _ => cases h
  | ty _ => cases h
  | ins _ _ _ => cases h
  | dK _ _ _ => cases h
  | dT _ _ _ => cases h
  | lam _ _ => cases h
theorem LRA.one {K : KF} {r : List V → Hp → VK → Prop} {g : D → Rs → DK → Prop} (h : ∀ G R H d v Qd Q, RepH K G R H → DV K G d v → g d R Qd → CB K G R H Qd Q → r [v] H Q) : LRA K r (rd1 g) := fun G R H xs ds Qd Q rh dv q k => by
  cases dv with
  | nil => exact q.elim
  | cons a b =>
    cases b with
    | cons _ _ => exact q.elim
    | nil => exact h G R H _ _ Qd Q rh a q k
/-- len of a list or tuple -/
theorem cd_len : CallD X (.builtin "len") (rd1 fun d R Q => ∃ xs, seqOf R d = some xs ∧ Q (.int xs.length) R) := ⟨_, call_len_seq, LRA.one fun G R H d v Qd Q rh dv ⟨xs, hx, q⟩ k => by
  obtain ⟨a, vs, rfl, hs, h2⟩ := seq_dv hx rh dv
  have fin := k G R H _ _ (Stp.refl _ _ _) rh (.int _) q
  rw [h2.length] at fin
  exact ⟨a, vs, rfl, hs, fin⟩⟩
theorem cd_lenS : CallD X (.builtin "len") (rd1 fun d R Q => ∃ x, d = .str x ∧ x.length ≤ sizeLine ∧ Q (.int x.length) R) := ⟨_, call_len_str, LRA.one fun G R H d v Qd Q rh dv ⟨x, hx, hz, q⟩ k => by
  subst hx; cases dv
  exact ⟨x, rfl, hz, k G R H _ _ (Stp.refl _ _ _) rh (.int _) q⟩⟩
/-- tuple(list), tuple(tuple) -/
theorem cd_tuple : CallD X (.type "tuple") (rd1 fun d R Q => ∃ xs, seqOf R d = some xs ∧ Q (.tup xs) R) := ⟨_, call_tuple_of, LRA.one fun G R H d v Qd Q rh dv ⟨xs, hx, q⟩ k => by
  have main : ∀ a vs, v = .ref a → SqL X.K H a vs → DVs X.K G xs vs → ∃ p ys, [v] = [.ref p] ∧ ((SqL X.K H p ys ∧ ∀ l, H l = none → Q (.ref l) (upd H l (.tup ys))) ∨ (SqT X.K H p ys ∧ Q (.ref p) H)) := fun a vs e hs h2 => by
    subst e
    refine ⟨a, vs, rfl, .inl ⟨hs, fun l hl => ?_⟩⟩
    obtain ⟨s1, rh2⟩ := rh.imm (o := .tup vs) hl
    exact k _ R _ _ _ s1 rh2 (.tup (.inl (.inl upd_same)) (h2.st s1)) q
  cases dv with
  | tup h1 h3 => cases hx; exact ⟨_, _, rfl, .inr ⟨SqT.same rh.g h1, k G R H _ _ (Stp.refl _ _ _) rh (.tup h1 h3) q⟩⟩
  | lst h1 h3 => cases hx; exact main _ _ rfl (.inl (.inl (rh.g _ _ h1))) h3
  | rls h1 h3 => cases hx; exact main _ _ rfl (SqL.same rh.g h1) h3
  | ref l =>
    obtain ⟨vs, h1, h2⟩ := rh.lst (seqOf_ref hx)
    exact main _ _ rfl (.inl (.inl h1)) h2
  | non => cases hx
  | bl _ => cases hx
  | int _ => cases hx
  | str _ => cases hx
  | ty _ => cases hx
  | ins _ _ _ => cases hx
  | dK _ _ _ => cases hx
  | dT _ _ _ => cases hx
  | lam _ _ => cases hx⟩
theorem cd_any (hc : X.calm = true) : CallD X (.builtin "any") (rd1 fun d R Q => ∃ xs : List Bool, d = .lst (xs.map D.bl) ∧ Q (.bl (xs.any id)) R) := ⟨_, cr_any hc, LRA.one fun G R H d v Qd Q rh dv ⟨xs, hx, q⟩ k => by
  subst hx
  cases dv with
  | lst h1 h2 => rw [h2.bls] at h1; exact ⟨_, xs, rfl, .inl (.inl (rh.g _ _ h1)), k G R H _ _ (Stp.refl _ _ _) rh (.bl _) q⟩⟩
theorem cd_all (hc : X.calm = true) : CallD X (.builtin "all") (rd1 fun d R Q => ∃ xs : List Bool, d = .lst (xs.map D.bl) ∧ Q (.bl (xs.all id)) R) := ⟨_, cr_all hc, LRA.one fun G R H d v Qd Q rh dv ⟨xs, hx, q⟩ k => by
  subst hx
  cases dv with
  | lst h1 h2 => rw [h2.bls] at h1; exact ⟨_, xs, rfl, .inl (.inl (rh.g _ _ h1)), k G R H _ _ (Stp.refl _ _ _) rh (.bl _) q⟩⟩

/-! ### isinstance of a built-in class -/
def D.tyName (R : Rs) : D → Option String
  | .non => some "NoneType"
  | .bl _ => some "bool"
  | .int _ => some "int"
  | .str _ => some "str"
  | .tup _ => some "tuple"
  | .lst _ => some "list"
  | .rls _ => some "list"
  | .dK _ _ => some "dict"
  | .dT _ _ => some "dict"
  | .ref l => match R l with
    | some (.lst _) => some "list"
    | some (.dK _) => some "dict"
    | some (.dT _) => some "dict"
    | _ => none
  | _ => none
theorem tyX_of {K : KF} {G : Hp} {R : Rs} {H : Hp} {d : D} {v : V} {T : String} (h : d.tyName R = some T) (rh : RepH K G R H) (dv : DV K G d v) : TyX K H v (.type T) := by
  cases dv with
  | non => cases h; exact .base .non
  | bl b => cases h; exact .base (.bl b)
  | int i => cases h; exact .base (.int i)
  | str x => cases h; exact .base (.str x)
  | ty n => cases h
  | ins _ _ _ => cases h
  | lam _ _ => cases h
  | dK h1 _ _ => cases h; exact .base (.dK (rh.g _ _ h1))
  | dT h1 _ _ => cases h; exact .base (.dT (rh.g _ _ h1))
  | tup h1 h2 =>
    cases h
    rcases SqT.same rh.g h1 with (h | ⟨o, h⟩) | ⟨o, its, n, h, hc, _⟩
    · exact .base (.tup h)
    · exact .fTuple h
    · exact .kTuple h hc
  | lst h1 h2 => cases h; exact .base (.lst (rh.g _ _ h1))
  | rls h1 h2 =>
    cases h
    rcases SqL.same rh.g h1 with (h | ⟨o, h⟩) | ⟨o, its, n, h, hc, _⟩
    · exact .base (.lst h)
    · exact .base (.frz h)
    · exact .kList h hc
  | ref l =>
    unfold D.tyName at h
    cases e : R l with
    | none => simp [e] at h
    | some ro =>
      obtain ⟨_, o, h2, h3⟩ := rh.r l _ e
      cases ro <;> simp [e] at h <;> subst h
      · obtain ⟨vs, rfl, _⟩ := h3; exact .base (.lst h2)
      · obtain ⟨vs, rfl, _⟩ := h3; exact .base (.dK h2)
      · obtain ⟨vs, rfl, _⟩ := h3; exact .base (.dT h2)
/-- isinstance(x, T) -/
def rdIsi (isa : String → String → Option Bool) : List D → Rs → DK → Prop := fun ds R Q => match ds with
  | [d, .ty T] => ∃ S b, d.tyName R = some S ∧ isa S T = some b ∧ Q (.bl b) R
  | _ => False
theorem cd_isi : CallD X (.builtin "isinstance") (rdIsi kitB) := ⟨_, call_isi, fun G R H xs ds Qd Q rh dv q k => by
  cases dv with
  | nil => exact q.elim
  | @cons d1 ds1 v1 vs1 a b =>
    cases b with
    | nil => exact q.elim
    | @cons d2 ds2 v2 vs2 b c =>
      cases c with
      | cons _ _ => cases d2 <;> exact q.elim
      | nil =>
        cases b with
        | ty T =>
          obtain ⟨S, z, h1, h2, q⟩ := q
          exact ⟨_, _, .type S, .type T, z, rfl, .ty T, tyX_of h1 rh a, kit_ty h2, k G R H _ _ (Stp.refl _ _ _) rh (.bl _) q⟩
        | _ => exact q.elim⟩

/-! ### subscripts -/
theorem atI_dv {K : PySem.W.Frag} {G : Hp} {xs : List D} {vs : List V} {i : Int} {d : D} (h : DVs K G xs vs) (e : atI xs i = some d) : ∃ v, atI vs i = some v ∧ DV K G d v := by
  unfold atI at e ⊢
  rw [h.length] at e
  cases z : ixN vs.length i with
  | none => rw [z] at e; cases e
  | some j => rw [z] at e; exact h.get e
theorem xd_seq : IxD X (fun x y R Q => ∃ xs i d, seqOf R x = some xs ∧ y = .int i ∧ atI xs i = some d ∧ Q d R) := ⟨_, ix_seq, fun G R H x y xd yd Qd Q rh dx dy ⟨xs, i, d, hx, hy, hd, q⟩ k => by
  subst hy; cases dy
  obtain ⟨a, vs, rfl, hs, h2⟩ := seq_dv hx rh dx
  obtain ⟨v, h3, h4⟩ := atI_dv h2 hd
  have fin := k G R H _ _ (Stp.refl _ _ _) rh h4 q
  rcases hs with hs | hs
  · exact .inl ⟨a, vs, i, v, rfl, rfl, hs, h3, fin⟩
  · exact .inr (.inl ⟨a, vs, i, v, rfl, rfl, hs, h3, fin⟩)⟩
theorem xd_str : IxD X (fun x y R Q => ∃ z i c, x = .str z ∧ y = .int i ∧ z.length ≤ sizeLine ∧ atI z.cps.toList i = some c ∧ Q (.str ⟨#[c]⟩) R) := ⟨_, ix_str, fun G R H x y xd yd Qd Q rh dx dy ⟨z, i, c, hx, hy, hz, hd, q⟩ k => by
  subst hx; subst hy; cases dx; cases dy
  exact ⟨z, i, c, rfl, rfl, hz, hd, k G R H _ _ (Stp.refl _ _ _) rh (.str _) q⟩⟩
/-! ### slices -/
def cutD (xs : List D) (lo hi : Option Int) : List D := (xs.drop (HT.sIx xs.length 0 lo)).take (HT.sIx xs.length xs.length hi - HT.sIx xs.length 0 lo)
theorem cut_dv {K : PySem.W.Frag} {G : Hp} {xs : List D} {vs : List V} {lo hi : Option Int} (h : DVs K G xs vs) : DVs K G (cutD xs lo hi) (cutV vs lo hi) := by
  unfold cutD cutV
  rw [h.length]
  exact (h.drop _).take _
theorem cutD_whole {xs : List D} {lo hi : Option Int} (h1 : HT.sIx xs.length 0 lo = 0) (h2 : HT.sIx xs.length xs.length hi = xs.length) : cutD xs lo hi = xs := by
  unfold cutD
  rw [h1, h2]
  simp
theorem sd_tup : SlD X (fun x lo hi R Q => ∃ xs, x = .tup xs ∧ Q (.tup (cutD xs lo hi)) R) := ⟨_, sl_tupA, fun G R H x d lo hi Qd Q rh dv ⟨xs, hx, q⟩ k => by
  subst hx
  cases dv with
  | @tup a vs _ h1 h2 =>
    refine ⟨a, vs, rfl, SqT.same rh.g h1, fun ⟨z1, z2⟩ => ?_, fun _ p hp => ?_⟩
    · rw [← h2.length] at z1 z2
      rw [cutD_whole z1 z2] at q
      exact k G R H _ _ (Stp.refl _ _ _) rh (.tup h1 h2) q
    · obtain ⟨s1, rh2⟩ := rh.imm (o := .tup (cutV vs lo hi)) hp
      exact k _ R _ _ _ s1 rh2 (.tup (.inl (.inl upd_same)) ((cut_dv h2).st s1)) q⟩
/-! ### methods of lists -/
theorem md_append : MtD X "list.append" (fun x ds R Q => ∃ l xs y, x = .ref l ∧ ds = [y] ∧ R l = some (.lst xs) ∧ xs.length < sizeLine ∧ Q .non (put R l (.lst (xs ++ [y])))) := ⟨_, mt_append, fun G R H x vs d ds Qd Q rh dv dvs ⟨l, xs, y, hx, hy, hl, hz, q⟩ k => by
  subst hx; subst hy; cases dv
  cases dvs with
  | cons a b =>
    cases b
    obtain ⟨us, h1, h2⟩ := rh.lst hl
    obtain ⟨s1, rh2⟩ := rh.chg (ro := .lst (xs ++ [y])) (o := .lst (us ++ [_])) hl ⟨_, rfl, h2.append (.cons a .nil)⟩
    exact ⟨l, us, _, rfl, rfl, h1, by rw [← h2.length]; exact hz, k _ _ _ _ _ s1 rh2 .non q⟩⟩
end
end DL
end
section
set_option Elab.async false
set_option maxRecDepth 100000
set_option linter.all false
set_option autoImplicit false
/-! DL6: operations that the hand layer has no rule for -/
namespace DL
open PySem PySem.Spec PyProof.Rows L2
variable [TabCtx]

section
variable {X : CxF}
/-! ### a list or tuple against the empty one -/
/-- one of kind list: its items -/
def lstOf (R : Rs) : D → Option (List D)
  | .lst xs => some xs
  | .rls xs => some xs
  | .ref l => match R l with
    | some (.lst xs) => some xs
    | _ => none
  | _ => none
theorem lst_dv {K : KF} {G : Hp} {R : Rs} {H : Hp} {d : D} {v : V} {xs : List D} (h : lstOf R d = some xs) (rh : RepH K G R H) (dv : DV K G d v) : ∃ a vs, v = .ref a ∧ SqL K H a vs ∧ DVs K G xs vs := by
  cases dv with
  | lst h1 h2 => cases h; exact ⟨_, _, rfl, .inl (.inl (rh.g _ _ h1)), h2⟩
  | rls h1 h2 => cases h; exact ⟨_, _, rfl, SqL.same rh.g h1, h2⟩
  | ref l =>
    have h' : R l = some (.lst xs) := by
      unfold lstOf at h
      cases e : R l with
      | none => simp [e] at h
      | some o => cases o <;> simp [e] at h; subst h; rfl
    obtain ⟨vs, h1, h2⟩ := rh.lst h'
    exact ⟨_, _, rfl, .inl (.inl h1), h2⟩
  | _ => cases h
/-- [..] == [], [..] != [] -/
def rNil (K : PySem.W.Frag) (neg : Bool) : R2 := fun x y H Q => ∃ a b xs, x = .ref a ∧ y = .ref b ∧ SqL K H a xs ∧ SqL K H b [] ∧ Q (.bl (if neg then !xs.isEmpty else xs.isEmpty)) H
def rdNil (neg : Bool) : DR2 := fun x y R Q => ∃ xs, lstOf R x = some xs ∧ lstOf R y = some [] ∧ Q (.bl (if neg then !xs.isEmpty else xs.isEmpty)) R
theorem LR2.nil {K : KF} (neg : Bool) : LR2 K (rNil K neg) (rdNil neg) := fun G R H x y xd yd Qd Q rh dx dy ⟨xs, h1, h2, q⟩ k => by
  obtain ⟨a, vs, rfl, s1, d1⟩ := lst_dv h1 rh dx
  obtain ⟨b, us, rfl, s2, d2⟩ := lst_dv h2 rh dy
  cases d2
  have e : vs.isEmpty = xs.isEmpty := by cases d1 <;> rfl
  exact ⟨a, b, vs, rfl, rfl, s1, s2, by rw [e]; exact k G R H _ _ (Stp.refl _ _ _) rh (.bl _) q⟩
/-- (..) == (), (..) != () -/
def rNilT (K : PySem.W.Frag) (neg : Bool) : R2 := fun x y H Q => ∃ a b xs, x = .ref a ∧ y = .ref b ∧ SqT K H a xs ∧ SqT K H b [] ∧ Q (.bl (if neg then !xs.isEmpty else xs.isEmpty)) H
theorem isTup_is {h : Heap} {a : Addr} {its : Array Value} (p : IsTup h a its) : h.IsTuple a its := by
  obtain ⟨o, h1, h2, n, h3⟩ := p
  exact ⟨o, h1, h2, n, h3⟩
theorem op_eqNilT (hu : X.A.units < cLine) : OpR X (compareOp .Eq) (rNilT X.K false) := by
  intro pins s σ H x y v u Q I rx ry h
  obtain ⟨a, b, xs, rfl, rfl, h1, h2, q⟩ := h
  cases rx; cases ry
  obtain ⟨its, r1, p1, _⟩ := I.tuple h1
  obtain ⟨its2, r2, p2, _⟩ := I.tuple h2
  cases r2
  refine SeqAt.RcAt.tuples (e := fun _ => true) (isTup_is p1) (isTup_is p2) hu (fun j h1 h2 => absurd h2 (by simp)) _ _ _ _ ⟨.bl _, H, I, rfl, ?_⟩
  cases r1 with
  | nil => exact q
  | cons _ _ => exact q
def rdNilT (neg : Bool) : DR2 := fun x y R Q => ∃ xs, x = .tup xs ∧ y = .tup [] ∧ Q (.bl (if neg then !xs.isEmpty else xs.isEmpty)) R
theorem LR2.nilT {K : KF} (neg : Bool) : LR2 K (rNilT K neg) (rdNilT neg) := fun G R H x y xd yd Qd Q rh dx dy ⟨xs, h1, h2, q⟩ k => by
  subst h1; subst h2
  cases dx with
  | @tup a vs _ s1 d1 =>
    cases dy with
    | tup s2 d2 =>
      cases d2
      have e : vs.isEmpty = xs.isEmpty := by cases d1 <;> rfl
      exact ⟨_, _, vs, rfl, rfl, SqT.same rh.g s1, SqT.same rh.g s2, by rw [e]; exact k G R H _ _ (Stp.refl _ _ _) rh (.bl _) q⟩
theorem od_eqNilT (hu : X.A.units < cLine) : OpD X (compareOp .Eq) (rdNilT false) := ⟨_, op_eqNilT hu, LR2.nilT false⟩

/-! ### repr of data -/
def rRepr (K : PySem.W.Frag) : List V → Hp → VK → Prop := fun xs H Q => ∃ x d, xs = [x] ∧ Dp K H x d ∧ d.showable = true ∧ d.hasDict = false ∧ d.depth ≤ 190 ∧ d.shown.length ≤ sizeLine ∧ Q (.str d.shown) H
mutual
theorem hasDict_py : ∀ d : D, d.py.hasDict = false
  | .non => rfl
  | .bl _ => rfl
  | .int _ => rfl
  | .str _ => rfl
  | .ty _ => rfl
  | .ref _ => rfl
  | .tup xs => by rw [D.py, PyData.hasDict]; exact hasDict_pys xs
  | .lst xs => by rw [D.py, PyData.hasDict]; exact hasDict_pys xs
  | .rls xs => by rw [D.py, PyData.hasDict]; exact hasDict_pys xs
  | .ins _ _ _ => rfl
  | .dK _ _ => rfl
  | .dT _ _ => rfl
  | .lam _ => rfl
theorem hasDict_pys : ∀ ds : List D, PyData.hasDictAll (D.pys ds) = false
  | [] => by rw [D.pys]; rfl
  | d :: ds => by rw [D.pys, PyData.hasDictAll, hasDict_py d, hasDict_pys ds]; rfl
end
/-! ### extend -/
theorem md_extend : MtD X "list.extend" (fun x ds R Q => ∃ l xs zs, x = .ref l ∧ ds = [.lst zs] ∧ R l = some (.lst xs) ∧ xs.length + zs.length ≤ sizeLine ∧ Q .non (put R l (.lst (xs ++ zs)))) := ⟨_, mt_extend, fun G R H x vs d ds Qd Q rh dv dvs ⟨l, xs, zs, hx, hy, hl, hz, q⟩ k => by
  subst hx; subst hy; cases dv
  cases dvs with
  | cons a b =>
    cases b
    cases a with
    | @lst b us _ h3 h4 =>
      obtain ⟨ws, h1, h2⟩ := rh.lst hl
      obtain ⟨s1, rh2⟩ := rh.chg (ro := .lst (xs ++ zs)) (o := .lst (ws ++ us)) hl ⟨_, rfl, h2.append h4⟩
      exact ⟨l, b, ws, us, rfl, rfl, h1, rh.g _ _ h3, by rw [← h2.length, ← h4.length]; exact hz, k _ _ _ _ _ s1 rh2 .non q⟩⟩
open AutoSeq1 in
def rExtT (K : PySem.W.Frag) : V → List V → Hp → VK → Prop := fun x vs H Q => ∃ l b xs zs, x = .ref l ∧ vs = [.ref b] ∧ H l = some (.lst xs) ∧ SqT K H b zs ∧ xs.length + zs.length ≤ sizeLine ∧ Q .non (upd H l (.lst (xs ++ zs)))
/-! ### a + b of lists -/
/-- lists as the concatenation wants them -/
def trk (R : Rs) : D → Option (List D)
  | .lst xs => some xs
  | .ref l => match R l with
    | some (.lst xs) => some xs
    | _ => none
  | _ => none
theorem trk_dv {K : KF} {G : Hp} {R : Rs} {H : Hp} {d : D} {v : V} {xs : List D} (h : trk R d = some xs) (rh : RepH K G R H) (dv : DV K G d v) : ∃ a vs, v = .ref a ∧ H a = some (.lst vs) ∧ DVs K G xs vs := by
  cases dv with
  | lst h1 h2 => cases h; exact ⟨_, _, rfl, rh.g _ _ h1, h2⟩
  | ref l =>
    have h' : R l = some (.lst xs) := by
      unfold trk at h
      cases e : R l with
      | none => simp [e] at h
      | some o => cases o <;> simp [e] at h; subst h; rfl
    obtain ⟨vs, h1, h2⟩ := rh.lst h'
    exact ⟨_, _, rfl, h1, h2⟩
  | _ => cases h
/-- the sum never changes -/
theorem od_catF : OpD X (binaryOp .Add) (fun x y R Q => ∃ xs ys, trk R x = some xs ∧ trk R y = some ys ∧ xs.length + ys.length ≤ sizeLine ∧ Q (.lst (xs ++ ys)) R) := ⟨_, op_cat, fun G R H x y xd yd Qd Q rh dx dy ⟨xs, ys, hx, hy, hz, q⟩ k => by
  obtain ⟨a, vs, rfl, h1, d1⟩ := trk_dv hx rh dx
  obtain ⟨b, us, rfl, h2, d2⟩ := trk_dv hy rh dy
  refine ⟨a, b, vs, us, rfl, rfl, h1, h2, by rw [← d1.length, ← d2.length]; exact hz, fun p hp => ?_⟩
  obtain ⟨s1, rh2⟩ := rh.imm (o := .lst (vs ++ us)) hp
  exact k _ R _ _ _ s1 rh2 (.lst upd_same ((d1.append d2).st s1)) q⟩
/-! ### tuples -/
theorem od_catT : OpD X (binaryOp .Add) (fun x y R Q => ∃ xs ys, x = .tup xs ∧ y = .tup ys ∧ xs.length + ys.length ≤ sizeLine ∧ Q (.tup (xs ++ ys)) R) := ⟨_, op_catA, fun G R H x y xd yd Qd Q rh dx dy ⟨xs, ys, hx, hy, hz, q⟩ k => by
  subst hx; subst hy
  cases dx with
  | @tup a vs _ h1 d1 =>
    cases dy with
    | @tup b us _ h2 d2 =>
      refine ⟨a, b, vs, us, rfl, rfl, SqT.same rh.g h1, SqT.same rh.g h2, by rw [← d1.length, ← d2.length]; exact hz, fun e => ?_, fun _ e => ?_, fun _ _ p hp => ?_⟩
      · subst e; cases d1; exact k G R H _ _ (Stp.refl _ _ _) rh (.tup h2 d2) q
      · subst e; cases d2; rw [List.append_nil] at q; exact k G R H _ _ (Stp.refl _ _ _) rh (.tup h1 d1) q
      · obtain ⟨s1, rh2⟩ := rh.imm (o := .tup (vs ++ us)) hp
        exact k _ R _ _ _ s1 rh2 (.tup (.inl (.inl upd_same)) ((d1.append d2).st s1)) q⟩
/-! ### in: a sign in a text, a text in a list or tuple of texts -/
theorem od_inSign : OpD X (compareOp .In) (fun x y R Q => ∃ (c : Nat) (z : Str), x = .str ⟨#[c]⟩ ∧ y = .str z ∧ Q (.bl (decide (c ∈ z.cps.toList))) R) := ⟨_, op_in_sign, fun G R H x y xd yd Qd Q rh dx dy ⟨c, z, hx, hy, q⟩ k => by
  subst hx; subst hy; cases dx; cases dy
  exact ⟨c, z, rfl, rfl, k G R H _ _ (Stp.refl _ _ _) rh (.bl _) q⟩⟩
def rdInS (neg : Bool) : DR2 := fun x y R Q => ∃ (a : Str) (xs : List Str), x = .str a ∧ seqOf R y = some (xs.map D.str) ∧ Q (.bl (if neg then !decide (a ∈ xs) else decide (a ∈ xs))) R
theorem inV_str (a : Str) (xs : List Str) : inV (.str a) (xs.map V.str) = decide (a ∈ xs) := by
  unfold inV
  induction xs with
  | nil => rfl
  | cons x xs ih =>
    rw [List.map_cons, List.any_cons, ih]
    by_cases h : x = a
    · subst h; simp [eqV]
    · have h2 : ¬ a = x := fun e => h e.symm
      simp [eqV, h, h2]
theorem flat_strs (xs : List Str) : (xs.map V.str).all flatV = true := by
  induction xs with
  | nil => rfl
  | cons x xs ih => rw [List.map_cons, List.all_cons, ih]; rfl
theorem od_inS : OpD X (compareOp .In) (rdInS false) := ⟨_, op_in_seq, fun G R H x y xd yd Qd Q rh dx dy ⟨a, xs, hx, hy, q⟩ k => by
  subst hx; cases dx
  obtain ⟨p, vs, rfl, hs, d2⟩ := seq_dv hy rh dy
  rw [d2.strs] at hs
  exact ⟨p, _, rfl, hs, rfl, flat_strs xs, by rw [inV_str]; exact k G R H _ _ (Stp.refl _ _ _) rh (.bl _) q⟩⟩
/-! ### join -/
/-! ### is True -/
/-- a built-in class as a value -/
theorem de_ty {x : Str} {T : String} {pos : Pos} (hg : Gl X x) (hm : X.mg x = none) (hv : bootBuiltins x = some (.type T)) (hn : x ≠ "__name__" := by decide) (hdb : (x == ("__debug__" : Str)) = false := by decide) : DE X (.Name x pos) (dC (.ty T)) := ⟨_, pe_bltn (v := .ty T) hg hm hv rfl hn hdb, LE.con fun _ => .ty T⟩
end
end DL
end
section
set_option Elab.async false
set_option maxRecDepth 100000
set_option linter.all false
set_option autoImplicit false
/-! DL7: calls by name, the built-ins' names -/
namespace DL
open PySem PySem.Spec PyProof.Rows L2
variable [TabCtx]
theorem bt_len : bootBuiltins "len" = some (.builtin "len") := by decide +kernel
theorem bt_isi : bootBuiltins "isinstance" = some (.builtin "isinstance") := by decide +kernel
theorem bt_abs : bootBuiltins "abs" = some (.builtin "abs") := by decide +kernel
theorem bt_max : bootBuiltins "max" = some (.builtin "max") := by decide +kernel
theorem bt_min : bootBuiltins "min" = some (.builtin "min") := by decide +kernel
theorem bt_sorted : bootBuiltins "sorted" = some (.builtin "sorted") := by decide +kernel
theorem bt_any : bootBuiltins "any" = some (.builtin "any") := by decide +kernel
theorem bt_all : bootBuiltins "all" = some (.builtin "all") := by decide +kernel
theorem bt_int : bootBuiltins "int" = some (.type "int") := by decide +kernel
theorem bt_str : bootBuiltins "str" = some (.type "str") := by decide +kernel
theorem bt_tuple : bootBuiltins "tuple" = some (.type "tuple") := by decide +kernel
/-- none of these names is the module's -/
def Blt (mg : Str → Option Value) (l : List Str) : Prop := ∀ x ∈ l, mg x = none
/-- a def of the module, called by its name -/
structure Cal (P : Program) (w : World) (K : KB) (mg : Str → Option Value) (base : Heap) (k : Nat) (x : Str) (dsp : DSp) : Prop where
  ex : ∃ (f : Addr) (fd : FuncData) (ps : List Str), FnG P w K mg base CX0 k f fd ps (spOf K dsp) ∧ mg x = some (.ref f) ∧ PySem.W.keepIn K (.ref f) = true ∧ Binds K fd ps []
section
variable {X : CxF} {k j : Nat} {x : Str} {dsp : DSp} {p pos : Pos} {e : Expr} {es : List Expr} {t : DTA}
theorem de_c (c : Cal X.prog X.w X.K.F X.mg X.base k x dsp) (gd : X.A.guards = some []) (hr : Room j X.A) (hk : k ≤ j) (hg : Gl X x) (ha : DA X (e :: es) t) (hdb : (x == ("__debug__" : Str)) = false := by decide)
    (he : starEach (e :: es) X.env = (false, eval e X.env) :: starEach es X.env := by rfl) (hpl : (backTo pos (starEach es X.env)).any (·.1) = false := by rfl) : DE X (.Call (.Name x p) (e :: es) [] pos) (dCall dsp Ed0 t) := by
  obtain ⟨f, fd, ps, F, hm, kp, bd⟩ := c.ex
  exact de_call F gd (hr.mono hk) hg hm kp bd pass0 ha hdb he hpl
end
/-- one statement, a middle, the rest -/
def dCut (t u : DTS) : DTS := fun D s R => ∃ Mid : DSt → Rs → Prop, t { D with nx := Mid } s R ∧ ∀ s' R', Mid s' R' → u D s' R'
theorem dss_cut {X : CxF} {st : Stmt} {rest : List Stmt} {t u : DTS} (h : DS X st t) (r : DSs X rest u) : DSs X (st :: rest) (dCut t u) := by
  obtain ⟨t1, a1, a2⟩ := h; obtain ⟨t2, b1, b2⟩ := r
  refine ⟨_, pss_cons a1 b1, fun G sd s R H Ed E sv rh ⟨Mid, q, m⟩ k => a2 G sd s R H _ _ sv rh q ⟨fun G1 sd1 s1 R1 H1 e1 sv1 rh1 q1 => b2 G1 sd1 s1 R1 H1 _ _ sv1 rh1 (m _ _ q1) (k.st e1), k.rt, k.bk, k.ct⟩⟩
/-- the promise with less asked -/
theorem FnG.imp {P : Program} {w : World} {K : PySem.W.Frag} {mg : Str → Option Value} {base : Heap} {CX : CXT} {k : Nat} {f : Addr} {fd : FuncData} {ps : List Str} {sp sp' : Sp} (F : FnG P w K mg base CX k f fd ps sp) (h : ∀ vs H Q E, sp' vs H Q E → sp vs H Q E) : FnG P w K mg base CX k f fd ps sp' :=
  ⟨fun vs H Q E q => F.len vs H Q E (h _ _ _ _ q), fun A g r outer s H e args us vs Q E b v q => F.go A g r outer s H e args us vs Q E b v (h _ _ _ _ q)⟩
/-- the slots as they stand: a shorthand to read one -/
theorem Room.cl {k : Nat} {A : Around} (r : Room k A) : A.units < cLine := r.units0
theorem Room.c65 {k : Nat} {A : Around} (r : Room k A) : A.units + 65 < cLine := by have := r.un; omega
end DL
namespace DL
variable [TabCtx]
open PySem PySem.Spec PyProof.Rows L2
/-! ### places -/
theorem at0 {α : Type} {a : α} {l : List α} : atI (a :: l) 0 = some a := by
  unfold atI ixN
  simp
theorem at1 {α : Type} {a b : α} {l : List α} : atI (a :: b :: l) 1 = some b := by
  have h : (1 : Int) < ((a :: b :: l).length : Nat) := by simp only [List.length_cons]; omega
  unfold atI ixN
  simp only [h, if_true, show (0 : Int) ≤ 1 by decide]
  rfl
theorem at2 {α : Type} {a b c : α} {l : List α} : atI (a :: b :: c :: l) 2 = some c := by
  have h : (2 : Int) < ((a :: b :: c :: l).length : Nat) := by simp only [List.length_cons]; omega
  unfold atI ixN
  simp only [h, if_true, show (0 : Int) ≤ 2 by decide]
  rfl
theorem ix30 : ixN 3 0 = some 0 := rfl
theorem ix31 : ixN 3 1 = some 1 := rfl
theorem ix32 : ixN 3 2 = some 2 := rfl
theorem at_map {α β : Type} (g : α → β) {l : List α} {i : Int} {a : α} (h : atI l i = some a) : atI (l.map g) i = some (g a) := by
  unfold atI at h ⊢
  rw [List.length_map]
  cases e : ixN l.length i with
  | none => rw [e] at h; cases h
  | some j => rw [e] at h; show (l.map g)[j]? = _; rw [List.getElem?_map]; have h' : l[j]? = some a := h; rw [h']; rfl
theorem at_lt {α : Type} {l : List α} {i : Int} (h0 : 0 ≤ i) (h : i < (l.length : Int)) : ∃ a, atI l i = some a ∧ a ∈ l ∧ l[i.toNat]? = some a := by
  have hi : i.toNat < l.length := by omega
  refine ⟨l[i.toNat], ?_, List.getElem_mem hi, List.getElem?_eq_getElem hi⟩
  unfold atI ixN
  simp only [h0, h, if_true]
  exact List.getElem?_eq_getElem hi
end DL
namespace DL
variable [TabCtx]
open PySem PySem.Spec PyProof.Rows L2
/-! ### readings at known values -/
section
variable {R : Rs} {Q : DK}
theorem eqS_ii {i j : Int} : rdEqS false (.int i) (.int j) R Q ↔ Q (.bl (decide (i = j))) R := by
  constructor
  · rintro ⟨u, v, h1, h2, _, q⟩; cases h1; cases h2; simpa using q
  · intro q; exact ⟨_, _, rfl, rfl, rfl, by simpa using q⟩
theorem neS_ii {i j : Int} : rdEqS true (.int i) (.int j) R Q ↔ Q (.bl (!decide (i = j))) R := by
  constructor
  · rintro ⟨u, v, h1, h2, _, q⟩; cases h1; cases h2; simpa using q
  · intro q; exact ⟨_, _, rfl, rfl, rfl, by simpa using q⟩
theorem eqS_ss {i j : Str} : rdEqS false (.str i) (.str j) R Q ↔ Q (.bl (decide (i = j))) R := by
  constructor
  · rintro ⟨u, v, h1, h2, _, q⟩; cases h1; cases h2; simpa using q
  · intro q; exact ⟨_, _, rfl, rfl, rfl, by simpa using q⟩
theorem neS_ss {i j : Str} : rdEqS true (.str i) (.str j) R Q ↔ Q (.bl (!decide (i = j))) R := by
  constructor
  · rintro ⟨u, v, h1, h2, _, q⟩; cases h1; cases h2; simpa using q
  · intro q; exact ⟨_, _, rfl, rfl, rfl, by simpa using q⟩
theorem sq_tup {xs : List D} : seqOf R (.tup xs) = some xs := rfl
theorem sq_lst {xs : List D} : seqOf R (.lst xs) = some xs := rfl
theorem sq_rls {xs : List D} : seqOf R (.rls xs) = some xs := rfl
theorem sq_ref {l : Addr} {xs : List D} (h : R l = some (.lst xs)) : seqOf R (.ref l) = some xs := seqOf_lst h
theorem lo_lst {xs : List D} : lstOf R (.lst xs) = some xs := rfl
theorem lo_rls {xs : List D} : lstOf R (.rls xs) = some xs := rfl
theorem lo_ref {l : Addr} {xs : List D} (h : R l = some (.lst xs)) : lstOf R (.ref l) = some xs := by unfold lstOf; simp [h]
theorem tr_lst {xs : List D} : trk R (.lst xs) = some xs := rfl
theorem tr_ref {l : Addr} {xs : List D} (h : R l = some (.lst xs)) : trk R (.ref l) = some xs := by unfold trk; simp [h]
theorem kb_tt : kitB "tuple" "tuple" = some true := by decide +kernel
theorem kb_st : kitB "str" "tuple" = some false := by decide +kernel
theorem kb_ss : kitB "str" "str" = some true := by decide +kernel
theorem kb_ts : kitB "tuple" "str" = some false := by decide +kernel
theorem kb_nt : kitB "NoneType" "tuple" = some false := by decide +kernel
theorem kb_bt : kitB "bool" "tuple" = some false := by decide +kernel
theorem kb_it : kitB "int" "tuple" = some false := by decide +kernel
theorem kb_lt : kitB "list" "tuple" = some false := by decide +kernel
theorem kb_ns : kitB "NoneType" "str" = some false := by decide +kernel
theorem kb_bs : kitB "bool" "str" = some false := by decide +kernel
theorem kb_is : kitB "int" "str" = some false := by decide +kernel
theorem kb_ls : kitB "list" "str" = some false := by decide +kernel
theorem isi_of {d : D} {S T : String} {b : Bool} (h1 : d.tyName R = some S) (h2 : kitB S T = some b) : rdIsi kitB [d, .ty T] R Q ↔ Q (.bl b) R := by
  constructor
  · rintro ⟨S', b', e1, e2, q⟩
    rw [h1] at e1; cases e1
    rw [h2] at e2; cases e2
    exact q
  · intro q; exact ⟨S, b, h1, h2, q⟩
theorem isi_tt {xs : List D} : rdIsi kitB [.tup xs, .ty "tuple"] R Q ↔ Q (.bl true) R := isi_of rfl kb_tt
theorem isi_st {x : Str} : rdIsi kitB [.str x, .ty "tuple"] R Q ↔ Q (.bl false) R := isi_of rfl kb_st
theorem isi_nt : rdIsi kitB [.non, .ty "tuple"] R Q ↔ Q (.bl false) R := isi_of rfl kb_nt
theorem isi_bt {x : Bool} : rdIsi kitB [.bl x, .ty "tuple"] R Q ↔ Q (.bl false) R := isi_of rfl kb_bt
theorem isi_it {x : Int} : rdIsi kitB [.int x, .ty "tuple"] R Q ↔ Q (.bl false) R := isi_of rfl kb_it
theorem isi_lt {x : List D} : rdIsi kitB [.lst x, .ty "tuple"] R Q ↔ Q (.bl false) R := isi_of rfl kb_lt
theorem isi_ts {xs : List D} : rdIsi kitB [.tup xs, .ty "str"] R Q ↔ Q (.bl false) R := isi_of rfl kb_ts
theorem isi_ss {x : Str} : rdIsi kitB [.str x, .ty "str"] R Q ↔ Q (.bl true) R := isi_of rfl kb_ss
theorem isi_ns : rdIsi kitB [.non, .ty "str"] R Q ↔ Q (.bl false) R := isi_of rfl kb_ns
theorem isi_bs {x : Bool} : rdIsi kitB [.bl x, .ty "str"] R Q ↔ Q (.bl false) R := isi_of rfl kb_bs
theorem isi_is {x : Int} : rdIsi kitB [.int x, .ty "str"] R Q ↔ Q (.bl false) R := isi_of rfl kb_is
theorem isi_ls {x : List D} : rdIsi kitB [.lst x, .ty "str"] R Q ↔ Q (.bl false) R := isi_of rfl kb_ls
end
end DL
namespace DL
variable [TabCtx]
open PySem PySem.Spec PyProof.Rows L2
theorem sz0 : (0 ≤ sizeLine) = True := eq_true (by decide)
theorem sz1 : (1 ≤ sizeLine) = True := eq_true (by decide)
theorem sz2 : (2 ≤ sizeLine) = True := eq_true (by decide)
theorem sz3 : (3 ≤ sizeLine) = True := eq_true (by decide)
theorem sz4 : (4 ≤ sizeLine) = True := eq_true (by decide)
theorem sz5 : (5 ≤ sizeLine) = True := eq_true (by decide)
theorem sz6 : (6 ≤ sizeLine) = True := eq_true (by decide)
theorem sl0 : (0 < sizeLine) = True := eq_true (by decide)
theorem sl1 : (1 < sizeLine) = True := eq_true (by decide)
theorem sl2 : (2 < sizeLine) = True := eq_true (by decide)
theorem ty_put {R : Rs} {p : Addr} {xs : List D} : TyD "list" (.ref p) (put R p (.lst xs)) = True := eq_true (.inl ⟨rfl, xs, put_same⟩)
theorem ty_str {R : Rs} {x : Str} : TyD "str" (.str x) R = True := eq_true rfl
theorem lo_put {R : Rs} {l : Addr} {xs : List D} : lstOf (put R l (.lst xs)) (.ref l) = some xs := lo_ref put_same
theorem sq_put {R : Rs} {l : Addr} {xs : List D} : seqOf (put R l (.lst xs)) (.ref l) = some xs := sq_ref put_same
theorem tr_put {R : Rs} {l : Addr} {xs : List D} : trk (put R l (.lst xs)) (.ref l) = some xs := tr_ref put_same
theorem put_comm {R : Rs} {a b : Addr} {o u : RO} (h : a ≠ b) : put (put R a o) b u = put (put R b u) a o := by
  funext x
  unfold put
  by_cases h1 : x = a
  · by_cases h2 : x = b
    · exact absurd (h1.symm.trans h2) h
    · rw [if_neg h2, if_pos h1, if_pos h1]
  · by_cases h2 : x = b
    · rw [if_pos h2, if_neg h1, if_pos h2]
    · rw [if_neg h2, if_neg h1, if_neg h1, if_neg h2]
end DL
namespace DL
variable [TabCtx]
theorem app1_empty {α : Type} {xs : List α} {y : α} : (xs ++ [y]).isEmpty = false := by cases xs <;> rfl
end DL
namespace DL
variable [TabCtx]
open PySem PySem.Spec PyProof.Rows L2
theorem fnG_none {P : Program} {w : World} {K : KB} {mg : Str → Option Value} {base : Heap} {CX : CXT} {k : Nat} {f : Addr} {fd : FuncData} {ps : List Str} {dsp : DSp} (h : ∀ ds R Q E, ¬ dsp ds R Q E) : FnG P w K mg base CX k f fd ps (spOf K dsp) :=
  ⟨fun vs H Q E ⟨G, ds, R, Qd, Ed, _, _, q, _⟩ => absurd q (h _ _ _ _), fun A _ _ outer s H _ args us vs Q E _ _ ⟨G, ds, R, Qd, Ed, _, _, q, _⟩ => absurd q (h _ _ _ _)⟩
theorem cut_take {xs : List D} {k : Int} (h0 : 0 ≤ k) (h : k ≤ (xs.length : Int)) : cutD xs none (some k) = xs.take k.toNat := by
  unfold cutD
  have e1 : HT.sIx xs.length 0 none = 0 := rfl
  have e2 : HT.sIx xs.length xs.length (some k) = k.toNat := by
    unfold HT.sIx
    simp only []
    split <;> omega
  rw [e1, e2]
  simp
theorem cut_drop {xs : List D} {k : Int} (h0 : 0 ≤ k) (h : k ≤ (xs.length : Int)) : cutD xs (some k) none = xs.drop k.toNat := by
  unfold cutD
  have e1 : HT.sIx xs.length xs.length none = xs.length := rfl
  have e2 : HT.sIx xs.length 0 (some k) = k.toNat := by
    unfold HT.sIx
    simp only []
    split <;> omega
  rw [e1, e2]
  rw [List.take_of_length_le]
  rw [List.length_drop]
  exact Nat.le_refl _
end DL
end
section
set_option Elab.async false
set_option maxRecDepth 100000
set_option linter.all false
set_option autoImplicit false
/-! DL8: names drawn by the laws (plain) -/
namespace DL
open PySem PySem.Spec PyProof.Rows L2 TL
variable [TabCtx]
def Let (c : Nat) : Prop := 97 ≤ c ∧ c ≤ 122
def Stem (st : Str) : Prop := (∀ c ∈ tl st, Let c) ∧ ((tl st).length ≤ 2 ∨ tl st = [122, 122, 122, 122, 122])
def Nm (x : Str) : Prop := ∃ (st : Str) (c : Nat), Stem st ∧ Let c ∧ tl x = tl st ++ [c]
def NmS (xs : List Str) (n : Nat) : Prop := xs.length = n ∧ xs.Nodup ∧ ∀ x ∈ xs, Nm x
abbrev abc : Str := "abcdefghijklmnopqrstuvwxyz"
def lstr (c : Nat) : Str := ⟨#[c]⟩
theorem len_tl (x : Str) : x.length = (tl x).length := by show x.cps.size = x.cps.toList.length; simp
theorem Stem.len {st : Str} (h : Stem st) : st.length ≤ 5 := by
  rw [len_tl]
  rcases h.2 with h | h
  · omega
  · rw [h]; decide
theorem Nm.len {x : Str} (h : Nm x) : 1 ≤ x.length ∧ x.length ≤ 6 := by
  obtain ⟨st, c, hs, _, e⟩ := h
  have := hs.len
  rw [len_tl] at this ⊢
  rw [e, List.length_append]
  simp only [List.length_singleton]
  omega
/-- the k-th name -/
def nth (st : Str) (a p : Int) (k : Nat) : Str := st ++ lstr (97 + ((a + p * (k : Int)) % 26).toNat)
end DL
end
section
set_option autoImplicit false
/-! TrA: trees, turns (plain) -/
namespace TrA
inductive Tr (α : Type) where
  | leaf (x : α)
  | node (l r : Tr α)
  deriving DecidableEq
section
variable {α : Type}
open Tr
def size : Tr α → Nat
  | leaf _ => 1
  | node l r => size l + size r
def height : Tr α → Nat
  | leaf _ => 0
  | node l r => max (height l) (height r) + 1
def leaves : Tr α → List α
  | leaf x => [x]
  | node l r => leaves l ++ leaves r
def turnsL : Tr α → Tr α → List (Tr α)
  | node a b, r => [node a (node b r)]
  | leaf _, _ => []
def turnsR : Tr α → Tr α → List (Tr α)
  | l, node a b => [node (node l a) b]
  | _, leaf _ => []
def turnsAt : Tr α → List (Tr α)
  | leaf _ => []
  | node l r => turnsL l r ++ turnsR l r
def turns : Tr α → List (Tr α)
  | leaf _ => []
  | node l r => (turns l).map (fun x => node x r) ++ (turns r).map (fun x => node l x) ++ turnsAt (node l r)
/-- a number that every turn changes -/
def rho : Tr α → Nat
  | leaf _ => 0
  | node l r => rho l + rho r + size r
/-! ### the search that is_turn makes -/
variable [DecidableEq α]
def mTurn : Tr α → Tr α → Bool
  | node l r, node a b => if node l r = node a b then false else if node a b ∈ turnsAt (node l r) then true else if l = a then mTurn r b else if r = b then mTurn l a else false
  | _, _ => false
end
/-! ### a tree put back into what stands around it -/
section
variable {α : Type}
open Tr
def grow : Tr α → List (Bool × Tr α) → Tr α
  | t, [] => t
  | t, (b, o) :: w => grow (if b = true then node o t else node t o) w
end
/-! ### all bracketings of a row -/
section
variable {α : Type}
open Tr
def treesF : Nat → List α → List (Tr α)
  | 0, _ => []
  | n + 1, row => match row with
    | [] => []
    | [x] => [leaf x]
    | row => (List.range (row.length - 1)).flatMap fun k => (treesF n (row.take (k + 1))).flatMap fun l => (treesF n (row.drop (k + 1))).map fun r => node l r
def trees (row : List α) : List (Tr α) := treesF row.length row
end
end TrA
namespace TrA
section
variable {α : Type}
open Tr
def catF : Nat → Nat → Nat
  | 0, _ => 0
  | n + 1, m => if m ≤ 1 then m else ((List.range (m - 1)).map fun k => catF n (k + 1) * catF n (m - (k + 1))).sum
/-! ### a leaf replaced -/
def ren (x : α) : Tr α → Int → Tr α × Nat
  | leaf y, p => (if p = 0 then leaf x else leaf y, 1)
  | node l r, p => (node (ren x l p).1 (ren x r (p - (ren x l p).2)).1, (ren x l p).2 + (ren x r (p - (ren x l p).2)).2)
end
end TrA
end
section
set_option Elab.async false
set_option maxRecDepth 100000
set_option linter.all false
set_option autoImplicit false
/-! DL9: trees of names as data -/
namespace DL
open PySem PySem.Spec PyProof.Rows L2 TL TrA
open TrA.Tr
variable [TabCtx]
abbrev T := Tr Str
def td : T → D
  | leaf x => .str x
  | node l r => .tup [td l, td r]
theorem Nm.all {x : Str} (h : Nm x) : ∀ c ∈ tl x, Let c := by
  obtain ⟨st, c, hs, hc, e⟩ := h
  intro d hd
  rw [e] at hd
  rcases List.mem_append.mp hd with z | z
  · exact hs.1 d z
  · have : d = c := by simpa using z
    rw [this]; exact hc
theorem Nm.ok {x : Str} (h : Nm x) : PyData.strOk x = true := by
  have h1 := h.all
  unfold PyData.strOk
  rw [← Array.all_toList, List.all_eq_true]
  intro c hc
  have := h1 c hc
  unfold Let at this
  simp only [decide_eq_true_eq]
  omega
def NT (t : T) : Prop := ∀ x ∈ leaves t, Nm x
theorem NT.l {l r : T} (h : NT (node l r)) : NT l := fun x hx => h x (List.mem_append_left _ hx)
theorem NT.r {l r : T} (h : NT (node l r)) : NT r := fun x hx => h x (List.mem_append_right _ hx)
/-- isinstance(t, tuple) -/
def isNode : T → Bool
  | leaf _ => false
  | node _ _ => true
end DL
end
section
set_option Elab.async false
set_option linter.all false
set_option maxRecDepth 100000
set_option maxHeartbeats 4000000
set_option autoImplicit false
/-! DLA: more rules: a target list that takes a list apart, a tuple times an int. -/
namespace DL
open PySem PySem.Spec PyProof.Rows L2
variable [TabCtx]
section
variable {X : CxF} {es : List Expr} {pos : Pos}
def dgLst (n : Nat) (t : DTGs) : DTG := fun d s R Q => ∃ ds, trk R d = some ds ∧ ds.length = n ∧ t ds s R Q
end
/-- no tables of code objects are told -/
def noTabs : TabCtx := ⟨fun _ => none⟩
/-- the law's script, as the row hands it -/
theorem vals_int {K : PySem.W.Frag} {G : Hp} : ∀ ns : List Int, DVs K G (ns.map D.int) (ns.map V.int)
  | [] => .nil
  | _ :: ns => .cons (.int _) (vals_int ns)
theorem script_okG {K : KB} {dsp : DSp} {G H : Hp} {a : Addr} {ns : List Int} (h : ∀ (R : Rs) (Ed : DXK), dsp [.rls (ns.map D.int)] R (fun d _ => d = .bl true) Ed) (hg : Same G H) (hb : K.B.p G (fun _ => none) H) (hS : SqL K G a (ns.map V.int)) : spOf K dsp [.ref a] H (fun v _ => v = .bl true) (fun _ _ _ => False) :=
  ⟨G, _, fun _ => none, _, fun _ _ _ => False, .cons (.rls hS (vals_int ns)) .nil, ⟨hg, fun a ro e => (by cases e), trivial, hb⟩, h _ _, fun G1 R1 H1 d v e1 rh1 dv1 q1 => by subst q1; cases dv1; rfl, fun _ _ _ _ _ _ _ _ _ z => z⟩
theorem script_ok {K : PySem.W.Frag} {dsp : DSp} {H : Hp} {a : Addr} {ns : List Int} (h : ∀ (R : Rs) (Ed : DXK), dsp [.rls (ns.map D.int)] R (fun d _ => d = .bl true) Ed) (hS : SqL K H a (ns.map V.int)) : spOf ⟨K, .all⟩ dsp [.ref a] H (fun v _ => v = .bl true) (fun _ _ _ => False) :=
  script_okG h (fun _ _ e => e) trivial hS
theorem take_step {α β : Type} {l : List α} {c : α → β} {i : Nat} {x : β} (hx : (l.map c)[i]? = some x) : ∃ v, x = c v ∧ v ∈ l ∧ l[i]? = some v ∧ l.take (i + 1) = l.take i ++ [v] := by
  rw [List.getElem?_map] at hx
  cases hv : l[i]? with
  | none => rw [hv] at hx; cases hx
  | some v =>
    rw [hv] at hx
    cases hx
    exact ⟨v, rfl, List.mem_of_getElem? hv, rfl, by rw [List.take_succ, hv]; rfl⟩
theorem range_step {n i : Nat} {x : D} {c : Nat → D} (hx : ((List.range n).map c)[i]? = some x) : x = c i ∧ i < n := by
  obtain ⟨v, rfl, hv, hi, _⟩ := take_step hx
  have hl : i < n := by
    obtain ⟨z, _⟩ := List.getElem?_eq_some_iff.mp hi
    simpa using z
  rw [List.getElem?_range hl] at hi
  cases hi
  exact ⟨rfl, hl⟩
end DL
end
section
set_option Elab.async false
set_option linter.all false
set_option maxRecDepth 100000
set_option maxHeartbeats 4000000
set_option autoImplicit false
/-! DLS: sorted(set(texts)), len(set(texts)). -/
namespace DL
open PySem PySem.Spec PyProof.Rows L2 PySem.Froz
variable [TabCtx]
abbrev kTx (e : Int × Value) : Str := strOf e.2
/-- the payload of a set of texts that can be walked -/
structure TS (P : Program) (w : World) (D : SD) (l : List Str) : Prop where
  ok : TxOk P w D l
  nd : l.Nodup
  ks : (D.1.toList.map kTx).Perm l
  vs : ∀ e ∈ D.1.toList, ∃ x u, e.2 = Value.str x u
  ris : Ris D.2.2.place.toList
  led : w.params.followText "set-order" = true ∨ D.2.2.led = true
section
variable {P : Program} {w : World} {A : Around} {E : Value → Shared → Prop} {s : Shared}
theorem TS.new : TS P w (#[], 0, .fresh 0 0 (!w.params.followText "set-order")) [] where
  ok := TxOk.nil rfl
  nd := List.nodup_nil
  ks := List.Perm.refl _
  vs := fun e he => by simp at he
  ris := List.Pairwise.nil
  led := by
    show _ ∨ (!w.params.followText "set-order") = true
    cases w.params.followText "set-order" with
    | false => exact .inr rfl
    | true => exact .inl rfl
theorem TS.add {D : SD} {l : List Str} {k : Str} (u : Tok) (T : TS P w D l) (hk : k ∉ l) : TS P w (addTx (hashStr w k) (.str k u) D) (k :: l) := by
  obtain ⟨es, ep, t⟩ := D
  have lp := layNew_perm t es (hashStr w k) (.str k u)
  have lr := layNew_ris t es (hashStr w k) (.str k u) T.ris
  have ll := layNew_led t es (hashStr w k) (.str k u)
  have F := add_ok u T.ok (k := k)
  have tks := T.ks; have tvs := T.vs; have tled := T.led
  unfold addTx tailTx at F ⊢
  dsimp only at F lp lr ll tks tvs tled ⊢
  generalize layNew t es (hashStr w k) (.str k u) = L at F lp lr ll ⊢
  obtain ⟨e1, t1, d1, g1⟩ := L
  dsimp only at F lp lr ll ⊢
  rw [Array.toList_push] at lp
  have p1 : (e1.toList.map kTx).Perm (k :: l) := (lp.map kTx).trans (by
    rw [List.map_append]
    exact (List.perm_append_singleton _ _).trans (tks.cons k))
  have v1 : ∀ e ∈ e1.toList, ∃ x u, e.2 = Value.str x u := fun e he => by
    rcases List.mem_append.mp (lp.mem_iff.mp he) with z | z
    · exact tvs e z
    · rw [List.mem_singleton.mp z]; exact ⟨k, u, rfl⟩
  have r2 : Ris (if t1.plain = true then { t1 with plain := false } else t1).place.toList := by split <;> exact lr
  have l2 : w.params.followText "set-order" = true ∨ (if t1.plain = true then { t1 with plain := false } else t1).led = true := by
    rcases tled with z | z
    · exact .inl z
    · refine .inr ?_
      rw [← ll] at z
      split <;> exact z
  generalize (if t1.plain = true then { t1 with plain := false } else t1) = t2 at F r2 l2 ⊢
  refine ⟨F, List.nodup_cons.mpr ⟨hk, T.nd⟩, ?_, ?_, ?_, ?_⟩ <;> split
  · exact ((relayAll_perm t2 e1 _).map kTx).trans p1
  · exact p1
  · exact fun e he => v1 e ((relayAll_perm t2 e1 _).mem_iff.mp he)
  · exact v1
  · exact relayAll_ris t2 e1 _
  · exact r2
  · exact l2.imp id fun z => by rw [relayAll_led]; exact z
  · exact l2
end
section
variable {P : Program} {w : World} {A : Around} {R : Result → Shared → Prop} {I : Addr} {fp wr : List Addr} {G : Array GenState → Array GenState → Prop} {n : Nat} {Pv : Nat → Value → Prop} {St : Nat → Shared → Prop}
/-- what the loop has gathered -/
def Gat (P : Program) (w : World) (S : Addr) (xs : List Str) (i : Nat) (s : Shared) : Prop := ∃ D l, s.heap.get? S = some (sObj "set" D) ∧ TS P w D l ∧ l.length ≤ i ∧ ∀ x, x ∈ l ↔ x ∈ xs.take i
end
section
variable {P : Program} {w : World} {A : Around} {E : Value → Shared → Prop} {s : Shared}
abbrev newSet (w : World) : Obj := { cls := .type "set", dict := none, data := .set #[] 0 (.fresh 0 0 (!w.params.followText "set-order")) }
/-- the set at a holds the texts of xs -/
def SetTx (P : Program) (w : World) (a : Addr) (xs : List Str) (h : Heap) : Prop := ∃ D l, h.get? a = some (sObj "set" D) ∧ TS P w D l ∧ l.length ≤ xs.length ∧ ∀ x, x ∈ l ↔ x ∈ xs
end
end DL
namespace DL
variable [TabCtx]
open PySem PySem.Spec PyProof.Rows L2 PySem.Froz
/-- sorted(set(xs)), xs a list of fewer than 64 texts -/
def tSortSet (K : PySem.W.Frag) (ta : TE) : TE := fun σ H Q => ta σ H fun x H1 => ∃ l, ∃ xs : List Str, x = .ref l ∧ SqL K H1 l (xs.map V.str) ∧ xs.length < 64 ∧
  ∀ (ys : List Str) (p : Addr), ys.Nodup → (∀ y, y ∈ ys ↔ y ∈ xs) → sortedS ys = true → H1 p = none → Q (.ref p) (upd H1 p (.lst (ys.map V.str)))
section
variable {X : CxF} {a : Expr} {p p2 q pos : Pos}
def dSortSet (t : DTE) : DTE := fun s R Q => t s R fun d R1 => ∃ xs : List Str, trk R1 d = some (xs.map D.str) ∧ xs.length < 64 ∧ ∀ ys : List Str, ys.Nodup → (∀ y, y ∈ ys ↔ y ∈ xs) → sortedS ys = true → Q (.lst (ys.map D.str)) R1
end
end DL
end
section
set_option Elab.async false
set_option linter.all false
set_option maxRecDepth 100000
set_option maxHeartbeats 4000000
set_option autoImplicit false
/-! DLR: what repr tells of trees; sorted lists of texts. -/
namespace DL
open PySem PySem.Spec PyProof.Rows L2 TL TrA
open TrA.Tr
variable [TabCtx]
theorem Nm.lets {x : Str} (h : Nm x) : ∀ c ∈ tl x, Let c := by
  obtain ⟨st, c, hs, hc, e⟩ := h
  intro d hd
  rw [e] at hd
  rcases List.mem_append.mp hd with z | z
  · exact hs.1 d z
  · have : d = c := by simpa using z
    rw [this]; exact hc
/-- the signs that repr shows of a tree -/
def sh : T → List Nat
  | leaf x => 39 :: (tl x ++ [39])
  | node l r => 40 :: (sh l ++ (44 :: 32 :: (sh r ++ [41])))
def shT (t : T) : Str := (td t).py.shown
/-! ### sorted lists of texts -/
abbrev leS (a b : Str) : Prop := tl a ≤ tl b
end DL
end
section
set_option Elab.async false
set_option linter.all false
set_option maxRecDepth 100000
set_option maxHeartbeats 4000000
set_option autoImplicit false
/-! DLT: a, *b = tuple; a name of the module that holds a value. -/
namespace DL
open PySem PySem.Spec PyProof.Rows L2
variable [TabCtx]
section
variable {P : Program} {w : World} {A : Around} {E : Value → Shared → Prop} {s : Shared}
end
/-- (a, *b) = a tuple of one item at least -/
def gStar (K : PySem.W.Frag) (t : TGs) : TG := fun v σ H Q => ∃ a x xs, v = .ref a ∧ SqT K H a (x :: xs) ∧ xs.length ≤ 16000 ∧ ∀ p, H p = none → t [x, .ref p] σ (upd H p (.lst xs)) Q
section
variable {X : CxF} {e e1 e2 : Expr} {es : List Expr} {p pos : Pos} {k : Nat}
/-! the same over plain data; b never changes -/
def dgStar (t : DTGs) : DTG := fun d s R Q => ∃ x xs, d = .tup (x :: xs) ∧ xs.length ≤ 16000 ∧ t [x, .lst xs] s R Q
/-- a name of the module that holds a value -/
def GC (K : PySem.W.Frag) (mg : Str → Option Value) (x : Str) (d : D) : Prop := ∃ u v, mg x = some u ∧ RelV v u ∧ ∀ G, DV K G d v
theorem de_glob {x : Str} {d : D} (c : GC X.K X.mg x d) (hg : Gl X x) (hd : (x == ("__debug__" : Str)) = false := by decide) : DE X (.Name x pos) (dC d) := by
  obtain ⟨u, v, h1, h2, h3⟩ := c
  exact ⟨_, pe_glob hg h1 h2 hd, fun G sd s R H Qd Q sv rh q k => k G R H d v (Stp.refl G R H) rh (h3 G) q⟩
theorem GC.str {K : PySem.W.Frag} {mg : Str → Option Value} {x y : Str} {t : Tok} (h : mg x = some (.str y t)) : GC K mg x (.str y) := ⟨_, .str y, h, ⟨t, rfl⟩, fun _ => .str y⟩
theorem GC.int {K : PySem.W.Frag} {mg : Str → Option Value} {x : Str} {i : Int} {t : Tok} (h : mg x = some (.int i t)) : GC K mg x (.int i) := ⟨_, .int i, h, ⟨t, rfl⟩, fun _ => .int i⟩
theorem vals_strs_of : ∀ {vs : List Value} {xs : List Str}, StrsAre vs xs → Vals (xs.map V.str) vs
  | _, _, .nil => .nil
  | _, _, .cons y t r => .cons ⟨t, rfl⟩ (vals_strs_of r)
theorem GC.strs {K : PySem.W.Frag} {mg : Str → Option Value} {x : Str} {a : Addr} {o : Obj} {its : Array Value} {n : Nat} {xs : List Str} (h : mg x = some (.ref a)) (hl : K.lookup a = some o) (hc : o.cls = .type "tuple") (hd : o.data = .seq its n) (hi : StrsAre its.toList xs) (hz : xs.length ≤ 1000) : GC K mg x (.tup (xs.map D.str)) :=
  ⟨_, .ref a, h, rfl, fun G => .tup (.inr ⟨o, its, n, hl, hc, hd, by have := hi.len_eq; rw [Array.length_toList] at this; rw [this, sizeLine_eq]; omega, vals_strs_of hi⟩) (DVs.ofStrs xs)⟩
end
end DL
end
section
set_option Elab.async false
set_option maxRecDepth 100000
set_option linter.all false
set_option autoImplicit false
/-! DLB: small data: what repr, ==, in need of a value -/
namespace DL
open PySem PySem.Spec PyProof.Rows L2
variable [TabCtx]
structure Sm (h w : Nat) (d : D) : Prop where
  pl : d.plain = true
  lay : d.py.canLay0 = true
  it : d.py.intsShort 13 = true
  dep : d.py.depth ≤ h
  wei : d.py.weight ≤ w
structure Sms (h w : Nat) (ds : List D) : Prop where
  pl : D.plains ds = true
  lay : PyData.canLayAll0 (D.pys ds) = true
  it : PyData.intsShortAll 13 (D.pys ds) = true
  dep : PyData.depthAll (D.pys ds) ≤ h
  wei : PyData.weightAll (D.pys ds) ≤ w
section
variable {h w h' w' : Nat} {d e : D} {ds : List D} {R : Rs} {Q : DK}
theorem Sm.mono (a : Sm h w d) (h1 : h ≤ h') (h2 : w ≤ w') : Sm h' w' d := ⟨a.pl, a.lay, a.it, Nat.le_trans a.dep h1, Nat.le_trans a.wei h2⟩
theorem Sms.mono (a : Sms h w ds) (h1 : h ≤ h') (h2 : w ≤ w') : Sms h' w' ds := ⟨a.pl, a.lay, a.it, Nat.le_trans a.dep h1, Nat.le_trans a.wei h2⟩
theorem Sms.nil : Sms h w [] := ⟨rfl, by simp [D.pys, PyData.canLayAll0], by simp [D.pys, PyData.intsShortAll], by simp [D.pys, PyData.depthAll], by simp [D.pys, PyData.weightAll]⟩
theorem Sms.cons (a : Sm h w d) (b : Sms h w' ds) : Sms h (w + 1 + w') (d :: ds) := ⟨by rw [D.plains, a.pl, b.pl]; rfl, by rw [D.pys, PyData.canLayAll0, a.lay, b.lay]; rfl, by rw [D.pys, PyData.intsShortAll, a.it, b.it]; rfl,
  by rw [D.pys, PyData.depthAll]; have := a.dep; have := b.dep; omega, by rw [D.pys, PyData.weightAll]; have := a.wei; have := b.wei; omega⟩
theorem Sms.all : ∀ {ds : List D}, (∀ d ∈ ds, Sm h w d) → Sms h ((w + 1) * ds.length) ds
  | [], _ => Sms.nil
  | d :: ds, q => (Sms.cons (q d (by simp)) (Sms.all fun e he => q e (by simp [he]))).mono (Nat.le_refl _) (by rw [List.length_cons, Nat.mul_succ]; omega)
theorem Sm.tup (a : Sms h w ds) : Sm (h + 1) w (.tup ds) := ⟨by rw [D.plain]; exact a.pl, by rw [D.py, PyData.canLay0]; exact a.lay, by rw [D.py, PyData.intsShort]; exact a.it, by rw [D.py, PyData.depth]; have := a.dep; omega, by rw [D.py, PyData.weight]; exact a.wei⟩
theorem Sm.lst (a : Sms h w ds) : Sm (h + 1) w (.lst ds) := ⟨by rw [D.plain]; exact a.pl, by rw [D.py, PyData.canLay0]; exact a.lay, by rw [D.py, PyData.intsShort]; exact a.it, by rw [D.py, PyData.depth]; have := a.dep; omega, by rw [D.py, PyData.weight]; exact a.wei⟩
theorem Sm.non : Sm h w .non := ⟨rfl, rfl, rfl, by simp [D.py, PyData.depth], by simp [D.py, PyData.weight]⟩
theorem Sm.bl (b : Bool) : Sm h w (.bl b) := ⟨rfl, rfl, rfl, by simp [D.py, PyData.depth], by simp [D.py, PyData.weight]⟩
theorem Sm.str {x : Str} (a : PyData.strOk x = true) (b : x.length ≤ w) : Sm h w (.str x) := ⟨rfl, by rw [D.py, PyData.canLay0]; exact a, rfl, by simp [D.py, PyData.depth], by rw [D.py, PyData.weight]; exact b⟩
theorem Sm.asPy (a : Sm h w d) : AsPy R d d.py := .inl ⟨a.pl, rfl⟩
theorem Sm.shaped (a : Sm h w d) (h1 : h ≤ 64) : SeqAt.shaped d.py = true := by
  show (d.py.canLay0 && decide (d.py.depth ≤ 64)) = true
  rw [a.lay, decide_eq_true (Nat.le_trans a.dep h1)]; rfl
end
mutual
/-- ints below 2 ^ 1920 -/
def D.sh : D → Bool
  | .int i => decide (i.natAbs.log2 < 1920)
  | .tup xs => D.shs xs
  | .lst xs => D.shs xs
  | .rls xs => D.shs xs
  | _ => true
def D.shs : List D → Bool
  | [] => true
  | x :: xs => x.sh && D.shs xs
end
mutual
theorem weight_log : ∀ d : D, d.py.weight ≤ 1900 → d.py.showable = true
  | .non, _ => by simp [D.py, PyData.showable]
  | .bl _, _ => by simp [D.py, PyData.showable]
  | .str _, _ => by simp [D.py, PyData.showable]
  | .ty _, _ => by simp [D.py, PyData.showable]
  | .ref _, _ => by simp [D.py, PyData.showable]
  | .int i, h => by
    simp only [D.py, PyData.showable, PyData.weight] at h ⊢
    rw [decide_eq_true_eq]
    by_cases z : i = 0
    · subst z; decide
    · rw [if_neg (by simpa using z)] at h; omega
  | .tup xs, h => by simp only [D.py, PyData.showable, PyData.weight] at h ⊢; exact weight_logs xs h
  | .lst xs, h => by simp only [D.py, PyData.showable, PyData.weight] at h ⊢; exact weight_logs xs h
  | .rls xs, h => by simp only [D.py, PyData.showable, PyData.weight] at h ⊢; exact weight_logs xs h
  | .ins _ _ _, _ => by simp [D.py, PyData.showable]
  | .dK _ _, _ => by simp [D.py, PyData.showable]
  | .dT _ _, _ => by simp [D.py, PyData.showable]
  | .lam _, _ => by simp [D.py, PyData.showable]
theorem weight_logs : ∀ ds : List D, PyData.weightAll (D.pys ds) ≤ 1900 → PyData.showableAll (D.pys ds) = true
  | [], _ => by simp [D.pys, PyData.showableAll]
  | d :: ds, h => by
    simp only [D.pys, PyData.showableAll, PyData.weightAll] at h ⊢
    rw [weight_log d (by omega), weight_logs ds (by omega)]; rfl
end
section
variable {h w h' w' : Nat} {d e : D} {ds : List D} {R : Rs} {Q : DK}
theorem Sm.repr (a : Sm h w d) (h1 : h ≤ 64) (h2 : w ≤ 1900) (q : Q (.str d.py.shown) R) : ∃ p, AsPy R d p ∧ p.showable = true ∧ p.depth ≤ 190 ∧ p.shown.length ≤ sizeLine ∧ Q (.str p.shown) R := by
  refine ⟨_, a.asPy, weight_log d (Nat.le_trans a.wei h2), by have := a.dep; omega, ?_, q⟩
  have hl : d.py.layable0 = true := by
    show (PyData.canLay0 d.py && decide (PyData.depth d.py ≤ 64) && decide (PyData.weight d.py ≤ 2 ^ 20)) = true
    have := a.dep; have := a.wei
    rw [a.lay, decide_eq_true (by omega), decide_eq_true (by omega)]; rfl
  have := shown_le13 hl a.it
  rw [sizeLine_eq]; omega
theorem Sm.r1 (a : Sm h w d) (h2 : w ≤ 1900 := by omega) : d.py.showable = true := weight_log d (Nat.le_trans a.wei h2)
theorem Sm.r2 (a : Sm h w d) (h1 : h ≤ 64 := by omega) : d.py.depth ≤ 190 := by have := a.dep; omega
theorem Sm.ne (a : Sm h w d) (b : Sm h' w' e) (h1 : h ≤ 64) (h2 : h' ≤ 64) (q : Q (.bl (!PyData.eqv d.py e.py)) R) : rdEqD true d e R Q := ⟨_, _, a.asPy, b.asPy, a.shaped h1, b.shaped h2, q⟩
theorem Sm.eqv (a : Sm h w d) : PyData.eqv d.py d.py = true := SeqAt.eqv_refl _ a.lay
/-- a comprehension that maps, leaving what may change -/
def PvM {α : Type} (l : List α) (g : α → D) (R : Rs) (i : Nat) (acc : List D) (R' : Rs) : Prop := R' = R ∧ acc = (l.take i).map g
theorem PvM.go {α : Type} {l : List α} {g : α → D} {R : Rs} {i : Nat} {v : α} (e : l.take (i + 1) = l.take i ++ [v]) : PvM l g R (i + 1) ((l.take i).map g ++ [g v]) R := ⟨rfl, by rw [e, List.map_append]; rfl⟩
theorem PvM.end {α : Type} {l : List α} {g : α → D} {R R' : Rs} {n : Nat} {acc : List D} (h : PvM l g R n acc R') (hn : n = l.length) : R' = R ∧ acc = l.map g := ⟨h.1, by rw [h.2, hn, List.take_length]⟩
end
end DL
end
section
set_option Elab.async false
set_option maxRecDepth 100000
set_option maxHeartbeats 2000000
set_option linter.all false
set_option autoImplicit false
/-! DLX1: own exceptions with one field, laid by their __init__ -/
namespace PySem
namespace LX
open PySem.W PySem.Calls PyProof.Rows PySem.HandSPX Builtin Builtin.ObjectAttr
/-- self.name = v on an exception without a dict; its class stands straight over a built-in one -/
theorem exc_osa {prog : Program} {w : World} {A : Around} {R : Result → Shared → Prop} {hp : Heap} {g : Array GenState} {d : Drawn} {t : Nat} {os : OsState} {K : W.Frag} {name : Str} {tk : Tok} {v : Value} {x C : Addr} {fv : Array Value} {cd : ClassData} {bm : List Value}
    (X : K.In hp) (hx : hp.get? x = some { cls := .ref C, data := .fields fv }) (hcd : W.clsIn K C = some cd) (hm : cd.mro = .ref C :: bm) (hpass : ∀ self, refuseLoop self "__setattr__" bm = pure ()) (hobj : bm.contains (.type "object") = true) (hh : cd.hasDict = true) (ha : W.findIn K (.ref C) name = some none)
    (hq : ∀ h' tk' dx, (∀ b o, b ≠ x → hp.get? b = some o → h'.get? b = some o) → hp.objs.size ≤ dx → dx ≠ x → h'.get? x = some { cls := .ref C, dict := some dx, data := .fields fv } →
      h'.Ns1 dx (fun y => if y = name then some v else none) → R (.ok (.ret .none)) ⟨h', g, d, tk', os⟩) :
    codeAny (model prog w) A (.call (.builtin "object.__setattr__") ⟨[.ref x, .str name tk, v], []⟩) R ⟨hp, g, d, t, os⟩ := by
  have I : W.InstAt hp x { cls := .ref C, data := .fields fv } C none := ⟨hx, rfl, rfl, trivial⟩
  have SF := F.store_object
  have ne : cd.mro.isEmpty = false := by rw [hm]; rfl
  have hob : cd.mro.contains (.type "object") = true := by rw [hm, List.contains_cons, hobj, Bool.or_true]
  have hxs : x ≠ hp.objs.size := Nat.ne_of_lt (Heap.lt_size hx)
  have sub : W.Looks (model prog w) hp (isInstance (.ref x) (.type "object")) true := I.type.andThen (W.looks_mroIn X (by unfold W.mroIn; rw [hcd, Option.bind_some, if_neg (by rw [ne]; decide), hob]))
  refine codeAny_call_builtin SF.slot.plain SF.entry (@W.check_slot (model prog w) _ _ ⟨hp, g, d, t, os⟩ "object.__setattr__" "object" "__setattr__" (.ref x) [.str name tk, v] [] _ SF.kind SF.split sub (SF.args (.ref x) (.str name tk) v) ?_)
  have hmr : W.Looks (model prog w) hp (mroOf (.ref C)) cd.mro := (W.looks_clsIn X hcd).andThen .now
  have L3 : W.Looks (model prog w) hp (storeTaker? none) none := .now
  have hcls : W.Looks (model prog w) hp (classData C) cd := W.looks_clsIn X hcd
  rw [W.osa_eq, refuse_eq]
  refine wpAny_bind (wpAny_bind (I.type.at (wpAny_bind (hmr.at ?_))))
  rw [hm, refuseLoop_ref, hpass]
  refine wpAny_pure (wpAny_bind (I.type.at (wpAny_bind ((W.looks_findIn X ha).at (wpAny_bind (L3.at ?_))))))
  show wpAny _ _ (storeInOwnDict (.ref x) (.ref C) (.str name tk) name v false) _ _ _
  obtain ⟨nm, bs, mro, ns, qn, hd, sn, sb, ab, col, del⟩ := cd
  dsimp only at hh
  subst hh
  unfold storeInOwnDict ownDictForStores
  repeat (first | with_reducible refine store_in_new ?_ ?_ | with_reducible refine wpAny_loadPart_at hx ?_ | with_reducible refine hcls.at ?_ | wp_step)
  · exact ⟨_, #[], _, (Heap.get?_update_ne _ _ _ _ hxs.symm).trans (Heap.get?_push_at rfl rfl), rfl, fun e he => absurd he (by simp), fun _ => rfl⟩
  · intro h' tk' hn' hs
    have hx₁ : (hp.push { cls := .type "dict", data := .dict #[] }).get? x = some { cls := .ref C, data := .fields fv } := Heap.get?_push_of_some _ hx
    refine hq h' tk' hp.objs.size (fun b o hb ho => ?_) (Nat.le_refl _) hxs.symm ?_ hn'
    · exact (hs.2 b (Nat.ne_of_lt (Heap.lt_size ho))).trans ((Heap.get?_update_ne _ _ _ _ hb).trans (Heap.get?_push_of_some _ ho))
    · exact (hs.2 x hxs).trans (Heap.get?_update_self _ hx₁ rfl)
/-- what __init__ leaves of a fresh exception at x -/
structure InitEnd (h h' : Heap) (x C dx t1 : Addr) (f : Str) (v : Value) : Prop where
  keep : ∀ b o, b ≠ x → h.get? b = some o → h'.get? b = some o
  obj : h'.get? x = some { cls := .ref C, dict := some dx, data := .fields #[.ref t1, .none, .none, .none, .bool false, .none] }
  dbig : h.objs.size ≤ dx
  dne : dx ≠ x
  ns : h'.Ns1 dx (fun y => if y = f then some v else none)
/-- a made exception -/
structure OwnMade (h h' : Heap) (e C d : Addr) (f : Str) (v : Value) : Prop where
  keep : ∀ b o, h.get? b = some o → h'.get? b = some o
  new : h.objs.size ≤ e
  obj : ∃ oe vs, h'.get? e = some oe ∧ oe.cls = .ref C ∧ oe.dict = some d ∧ oe.data = .fields vs ∧ vs[1]? = some .none ∧ vs[2]? = some .none ∧ 4 < vs.size
  dbig : h.objs.size ≤ d
  dne : d ≠ e
  ns : h'.Ns1 d (fun y => if y = f then some v else none)
theorem one_size (v : Value) : [v].length ≤ sizeLine := by
  rw [sizeLine_eq]
  exact (by decide : 1 ≤ 16777216)
theorem ldC {M : Model} {s : Shared} {name : Str} {scope : Scope} {L a : Addr} {cd : Value} {m : Str → Option Value} {x : Str} {pos : Pos} {v : Value} {Q : Value → Shared → Prop} {A : Around} {E : Value → Shared → Prop} (hn : s.heap.Ns L m) (hv : m x = some v) (h : Q v s)
    (hk : scope.kind = .function := by rfl) (hl : (envOfC name scope L a cd).kindOf x = some .local := by rfl) (hd : (x == ("__debug__" : Str)) = false := by decide) :
    wpAny M A (eval (.Name x pos) (envOfC name scope L a cd)) Q E s := wpAny_Name (wpAny_loadName_local hk hl hn hv h) hd
/-- what the written part says of an exception class cn, at C, with one field f -/
structure Low (K : Frag) (mg : Str → Option Value) (cn f : Str) (C : Addr) : Prop where
  gC : mg cn = some (.ref C)
  ga : findIn K (.ref C) "__getattribute__" = some (some (.builtin "BaseException.__getattribute__"))
  gg : findIn K (.ref C) "__getattr__" = some none
  noN : findIn K (.ref C) f = some none
  kC : keepIn K (.ref C) = true
  exC : subIn K (.ref C) (.type "BaseException") = some true
  tyC : typeIn K (.ref C) = some (.type "type")
  hdC : hasDictIn K C = true
  te : exmOne K (.ref C) (.ref C) = some true
  made : ∀ (prog : Program) (w : World) (A : Around) (R : Result → Shared → Prop) (s : Shared) (v : Value), K.In s.heap → s.heap.NoLimit → A.depth + 1 < recursionLimit →
    (∀ h' tk e d, OwnMade s.heap h' e C d f v → R (.ok (.ret (.ref e))) { s with heap := h', toks := tk }) → codeAny (model prog w) A (.call (.ref C) ⟨[v], []⟩) R s
theorem exm_self {K : PySem.W.Frag} {S : Addr} (h1 : PySem.W.subIn K (.ref S) (.type "BaseException") = some true) (h2 : PySem.W.isClsIn K S = true) (h3 : PySem.W.typeIn K (.ref S) = some (.type "type")) (h4 : PySem.W.subIn K (.ref S) (.ref S) = some true) :
    PySem.W.exmOne K (.ref S) (.ref S) = some true := by
  have e1 : (PySem.W.subIn K (.ref S) (.type "BaseException") == some true) = true := by rw [h1] <;> rfl
  have e2 : ((PySem.W.clsIn K S).isSome && PySem.W.typeIn K (.ref S) == some (.type "type")) = true := by
    have h2' : (PySem.W.clsIn K S).isSome = true := h2
    rw [h2', h3] <;> rfl
  show (if (PySem.W.subIn K (.ref S) (.type "BaseException") == some true) = true then (if ((PySem.W.clsIn K S).isSome && PySem.W.typeIn K (.ref S) == some (.type "type")) = true then PySem.W.subIn K (.ref S) (.ref S) else none) else none) = some true
  rw [if_pos e1, if_pos e2]
  exact h4
end LX
end PySem
namespace L2
open PySem PySem.Spec PyProof.Rows
theorem relO_x {v : V} {v' : Value} {n : Str} (r : RelV v v') (f : Str) : RelO (List.lookup f [(n, v)]) (if f = n then some v' else none) := by
  by_cases hw : f = n
  · subst hw
    rw [if_pos rfl]
    have q : List.lookup f [(f, v)] = some v := by simp [List.lookup]
    rw [q]
    exact r
  · rw [if_neg hw]
    have qw : (f == n) = false := by simpa using hw
    have q2 : List.lookup f [(n, v)] = none := by simp [List.lookup, qw]
    rw [q2]
    trivial
section
variable {X : Cx} {C : Addr} {cn f : Str}
/-- X(e) -/
def tMkX (C : Addr) (f : Str) (ta : TA) : St → Hp → XK → Prop := fun σ H Q => ta σ H fun vs H1 => ∃ v, vs = [v] ∧ ∀ d, H1 d = none → Q (.ref C) (some d) (upd H1 d (.xd [(f, v)]))
theorem pmk_x {a : Expr} {ta : TA} {p pos : Pos} (T : PySem.LX.Low X.K X.mg cn f C) (hr : X.A.depth + 1 < recursionLimit) (ha : PA X [a] ta) (hg : Gl X cn) (hdb : (cn == ("__debug__" : Str)) = false)
    (he : starEach (a :: []) X.env = (false, eval a X.env) :: starEach [] X.env := by rfl) (hpl : (backTo pos (starEach [] X.env)).any (·.1) = false := by rfl) :
    PMk X (.Call (.Name cn p) [a] [] pos) (tMkX C f ta) := by
  intro pins s σ H Q I h
  refine wpAny_Call_Name_kw (ld_glob I hg T.gC ?_ hdb)
  refine PySem.W.callWith_K (h₀ := X.base) I.ok.mod.kin T.kC (thn (ha.run pos pins s σ H _ I h) fun us s1 hh => ?_) he hpl
  obtain ⟨vs, H1, I1, r1, v, ev, q1⟩ := hh
  subst ev
  refine ⟨I1.kIn, ?_⟩
  cases r1 with
  | cons rv rn =>
    rename_i v' us'
    cases rn
    show wpAny _ _ (call (.ref C) [v']) _ _ _
    have hlim := I1.nolimit
    obtain ⟨hp, g, dr, tk, os⟩ := s1
    refine wpAny_call (T.made _ _ _ _ _ _ I1.kIn hlim hr fun h' tk' e d M => ?_)
    show MkP X pins σ Q (.ref e) ⟨h', g, dr, tk', os⟩
    obtain ⟨oe, fv, hoe, hc, hd, hdat, h1, _, _⟩ := M.obj
    have hns := M.ns
    obtain ⟨G', g1, g2⟩ := restrict h' fun b => decide (b ≠ e)
    have gk : ∀ b, b ≠ e → G'.get? b = h'.get? b := fun b hb => g1 b (decide_eq_true hb)
    have ge : G'.get? e = none := g2 e (by simp)
    have old : ∀ b o, hp.get? b = some o → G'.get? b = some o := fun b o q => (gk b (Nat.ne_of_lt (Nat.lt_of_lt_of_le (Heap.lt_size q) M.new))).trans (M.keep b o q)
    have ob : ObjOk X.prog X.w (upd H1 d (.xd [(f, v)])) G' d (.xd [(f, v)]) :=
      ⟨_, hns.at (fun o q => (gk d M.dne).trans q), fun f => relO_x rv f⟩
    have J : Inv X pins σ (upd H1 d (.xd [(f, v)])) ⟨G', g, dr, tk', os⟩ := I1.laid (t' := tk') old M.dbig ob
    refine ⟨e, oe, fv, ⟨G', g, dr, tk', os⟩, _, .ref C, some d, rfl, J, fun b o q => ?_, ge, hoe, ⟨hc, hd⟩, hdat, h1, ?_, rfl, I1.bare, raises_own T.exC T.tyC, q1 d (I1.hok.fresh M.dbig)⟩
    · by_cases hb : b = e
      · have q' : G'.get? b = some o := q
        rw [hb, ge] at q'; cases q'
      · exact (gk b hb).symm.trans q
    · rw [upd_ne (Ne.symm M.dne)]
      exact I1.hok.fresh M.new
/-- raise X(e) -/
def tRaiseX (C : Addr) (f : Str) (W : WX) (ta : TA) : TS := fun _ σ H => tMkX C f ta σ H fun cls d H' => W cls d σ H'
theorem ps_raiseX {a : Expr} {ta : TA} {W : WX} {p pos pos2 : Pos} (hc : X.calm = true) (T : PySem.LX.Low X.K X.mg cn f C) (hr : X.A.depth + 1 < recursionLimit) (tk : Takes X W) (ha : PA X [a] ta) (hg : Gl X cn) (hdb : (cn == ("__debug__" : Str)) = false)
    (he : starEach (a :: []) X.env = (false, eval a X.env) :: starEach [] X.env := by rfl) (hpl : (backTo pos (starEach [] X.env)).any (·.1) = false := by rfl) :
    PS X (.Raise (some (.Call (.Name cn p) [a] [] pos)) none pos2) (tRaiseX C f W ta) := ps_raise hc tk (pmk_x T hr ha hg hdb he hpl)
/-- e.f, e the exception that the suite holds (at a; its class cls, its dict d) -/
def tXF (C : Addr) (f : Str) (a : Addr) (cls : Value) (d : Option Addr) (te : TE) : TE := fun σ H Q => te σ H fun x H1 => x = .ref a ∧ cls = .ref C ∧ ∃ (dd : Addr) (v : V), d = some dd ∧ H1 dd = some (.xd [(f, v)]) ∧ Q v H1
end
end L2
end
section
set_option Elab.async false
set_option maxRecDepth 100000
set_option linter.all false
set_option autoImplicit false
/-! DLX2: raise, try, defs that raise, over plain data -/
namespace DL
open PySem PySem.Spec PyProof.Rows L2
variable [TabCtx]

abbrev DWX := Value → List (Str × D) → DSt → Rs → Prop
def LWX (K : KF) (W : WX) (Wd : DWX) : Prop := ∀ G R H cls od fs sd σ, SV K G sd σ → RepH K G R H → ExD K G R H od fs → Wd cls fs sd R → W cls od σ H
def TakesD (X : CxF) (Wd : DWX) : Prop := ∃ W, Takes X W ∧ LWX X.K W Wd
abbrev WNo : DWX := fun _ _ _ _ => False
theorem takesNo {X : CxF} : TakesD X WNo := ⟨fun _ _ _ _ => False, fun u s' ⟨_, _, _, _, _, _, _, _, _, _, _, _, _, _, _, _, w⟩ => w.elim, fun _ _ _ _ _ _ _ _ _ _ _ w => w⟩
def Phi.and (a b : Phi) : Phi := ⟨fun G R H => a.p G R H ∧ b.p G R H, fun e h => ⟨a.st e h.1, b.st e h.2⟩⟩
theorem RepH.imp {F : KB} {Φ Ψ : Phi} {G : Hp} {R : Rs} {H : Hp} (h : RepH ⟨F, Φ⟩ G R H) (q : Φ.p G R H → Ψ.p G R H) : RepH ⟨F, Ψ⟩ G R H := ⟨h.g, h.r, q h.φ, h.b⟩
theorem ExD.drop {K : PySem.W.Frag} {G : Hp} {R R2 : Rs} {H : Hp} {od : Option Addr} {fs : List (Str × D)} (h : ExD K G R H od fs) (s : ∀ a ro, R2 a = some ro → R a = some ro) : ExD K G R2 H od fs := by
  unfold ExD at *
  cases od with
  | none => exact h
  | some d =>
    obtain ⟨vs, h1, h2, h3, h4⟩ := h
    refine ⟨vs, h1, ?_, h3, h4⟩
    cases z : R2 d with
    | none => rfl
    | some ro => rw [s d ro z] at h2; cases h2

/-! ### raise -/
def dRaise (C : Addr) (f : Str) (Wd : DWX) (t : DTA) : DTS := fun _ s R => t s R fun ds R1 => ∃ v, ds = [v] ∧ Wd (.ref C) [(f, v)] s R1
section
variable {X : CxF} {C : Addr} {cn f : Str} {Wd : DWX}
theorem ds_raise {a : Expr} {t : DTA} {p pos pos2 : Pos} {k : Nat} (hc : X.calm = true) (T : PySem.LX.Low X.K X.mg cn f C) (hr : Room k X.A) (tk : TakesD X Wd) (ha : DA X [a] t) (hg : Gl X cn) (hdb : (cn == ("__debug__" : Str)) = false := by decide)
    (he : starEach (a :: []) X.env = (false, eval a X.env) :: starEach [] X.env := by rfl) (hpl : (backTo pos (starEach [] X.env)).any (·.1) = false := by rfl) :
    DS X (.Raise (some (.Call (.Name cn p) [a] [] pos)) none pos2) (dRaise C f Wd t) := by
  obtain ⟨W, tk, lw⟩ := tk
  obtain ⟨t1, a1, a2⟩ := ha
  refine ⟨_, ps_raiseX hc T (by have : Room k X.X.A := hr; have := this.dp; omega) tk a1 hg hdb he hpl, fun G sd s R H Ed E sv rh q k => a2 G sd s R H _ _ sv rh q fun G1 R1 H1 ds vs e1 rh1 dv q1 => ?_⟩
  obtain ⟨v, rfl, q2⟩ := q1
  cases dv with
  | cons d1 d2 =>
    cases d2
    refine ⟨_, rfl, fun d hd => ?_⟩
    exact lw G1 R1 _ _ (some d) [(f, v)] sd s (sv.st e1) (rh1.hide (rh1.free hd) (rh1.gfree hd) (X.Φ.st ((Stp.refl _ _ _).wr hd) rh1.φ) (X.B.st ((Stp.refl _ _ _).wr hd) rh1.b)) ⟨_, upd_same, rh1.free hd, rh1.gfree hd, .cons d1 .nil⟩ q2
end

/-! ### a def that may raise -/
def FinX (Ed : DXK) (cls : Value) (fs : List (Str × D)) (R : Rs) : Prop := ∃ R2, (∀ a ro, R2 a = some ro → R a = some ro) ∧ Ed cls fs R2
theorem finX {Ed : DXK} {cls : Value} {fs : List (Str × D)} {R : Rs} (h : Ed cls fs R) : FinX Ed cls fs R := ⟨R, fun _ _ q => q, h⟩
section
variable {P : Program} {w : World} {K : KB} {mg : Str → Option Value} {base : Heap}
theorem okX {x qual : Str} {st : Stmt} {f : Addr} {fd : FuncData} {N ps : List Str} {k : Nat} {dsp : DSp} (F : Fun K x qual st f fd) (S : FnScope N ps (defScope st)) (len : ∀ ds R Q E, dsp ds R Q E → ds.length = ps.length)
    (hbody : ∀ {Φ : Phi} (cdv : Value) (A : Around) (outer : List Env) (s : Shared) (H : Hp) (E : XK) (Ed : DXK), A.guards = some [] → Room k (A.deeper (envOfC qual (defScope st) s.heap.objs.size f cdv)) →
      TakesD ⟨cxOf (L2.CX P w) P w K mg base N qual (defScope st) f cdv A outer s H E, Φ, K.B⟩ (fun cls fs _ R => FinX Ed cls fs R) →
      ∃ t, DSs ⟨cxOf (L2.CX P w) P w K mg base N qual (defScope st) f cdv A outer s H E, Φ, K.B⟩ (defBody st) t ∧ ∀ ds R Qd, dsp ds R Qd Ed → t { nx := fun _ R' => Fin Qd .non R', rt := Fin Qd } (dstart N ds) R) : FnG P w K mg base (L2.CX P w) (k + 1) f fd ps (spOf K dsp) := by
  obtain ⟨oc, od, kV, doc, pm, an, cdv, ct, osl, rfl, lk, cd⟩ := F.ex
  refine fnG_of lk cd S (spOf_len len) fun A gd outer s H vs Q E hr ⟨G, ds, R, Qd, Ed, dv, rh, q, cb, cx⟩ => ?_
  have tk : TakesD ⟨cxOf (L2.CX P w) P w K mg base N qual (defScope st) f cdv A outer s H E, Phi.of G R H, K.B⟩ (fun cls fs _ R => FinX Ed cls fs R) :=
    ⟨fun cls d _ H => E cls d H, takes_of rfl rfl rfl rfl, fun G' R' H' cls od fs sd σ sv rh' ex ⟨R2, s2, q2⟩ => cx G' R2 H' cls od fs (Stp.drop rh'.φ s2) (rh'.sub0 s2).toAll (ex.drop s2) q2⟩
  obtain ⟨t, ⟨t0, a1, a2⟩, h⟩ := hbody cdv A outer s H E Ed gd hr tk
  have cb' := (cb.fin).ofAll (Φ := Phi.of G R H)
  exact ⟨t0, a1, a2 G _ _ R H _ _ (SV.start dv) (rh.ofAll (Stp.refl G R H)) (h ds R Qd q) ⟨fun G' sd s R' H' e sv rh' q => cb' G' R' H' _ _ e rh' .non q, fun G' R' H' d v e rh' dv' q => cb' G' R' H' d v e rh' dv' q, fun _ _ _ _ _ _ _ _ q => q.elim, fun _ _ _ _ _ _ _ _ q => q.elim⟩⟩
end

/-! ### its call -/
section
variable {X : Cx} {CX : CXT} {k : Nat} {f : Addr} {fd : FuncData} {ps : List Str} {sp : Sp} {E : L2.St → XK} {x : Str} {p pos : Pos} {e : Expr} {es : List Expr} {t : TA}
theorem goGS {pins : List (Addr × Obj)} {σ : L2.St} {H : Hp} {s : Shared} {Q : VK} {us : List Value} {vs : List V} (F : FnG X.prog X.w X.K X.mg X.base CX k f fd ps sp) (hgd : X.A.guards = some []) (room : Room k X.A) (bd : Binds X.K fd ps []) (ps' : PassesAt CX X σ (E σ))
    (I : Inv X pins σ H s) (rv : Vals vs us) (q : sp vs H Q (E σ)) : wpAny (model X.prog X.w) X.A (call (.ref f) us) (EP X pins σ Q) X.xe s := by
  have n : us.length = ps.length := rv.length.symm.trans (F.len _ _ _ _ q)
  have b := bd s us I.kIn (by rw [List.append_nil]; exact n)
  rw [List.append_nil] at b
  apply wpAny_call
  apply codeAny_mono (F.go X.A hgd room X.stack s H I.env0 ⟨us, []⟩ us vs Q (E σ) b rv q)
  rintro (er | fl) s' z
  · exact ps' pins H s er s' I z
  · cases fl <;> first | exact False.elim z | exact I.after z
theorem pe_callGS (F : FnG X.prog X.w X.K X.mg X.base CX k f fd ps sp) (hgd : X.A.guards = some []) (room : Room k X.A) (gl : Gl X x) (hm : X.mg x = some (.ref f)) (kp : PySem.W.keepIn X.K (.ref f) = true) (bd : Binds X.K fd ps []) (ps' : ∀ σ, PassesAt CX X σ (E σ))
    (ha : PA X (e :: es) t) (hdb : (x == ("__debug__" : Str)) = false := by decide) (he : starEach (e :: es) X.env = (false, eval e X.env) :: starEach es X.env := by rfl) (hpl : (backTo pos (starEach es X.env)).any (·.1) = false := by rfl) :
    PE X (.Call (.Name x p) (e :: es) [] pos) (tCallS sp E t) :=
  ⟨fun pins s σ H Q I h => wpAny_Call_Name_kw (ld_glob I gl hm (PySem.W.callWith_K (h₀ := X.base) I.ok.mod.kin kp
    (thn (ha.run pos pins s σ H _ I h) fun us s1 ⟨vs, H1, I1, r, q⟩ => ⟨I1.kIn, goGS F hgd room bd (ps' σ) I1 r q⟩) he hpl) hdb)⟩
end
def dCallX (dsp : DSp) (Wd : DWX) (t : DTA) : DTE := fun s R Q => t s R fun ds R1 => dsp ds R1 Q (fun cls fs R' => Wd cls fs s R')
theorem LE.callX {K : KF} {t0 : TA} {W : WX} {Wd : DWX} {dsp : DSp} {t : DTA} (h : LA K t0 t) (lw : LWX K W Wd) : LE K (tCallS (spOf K.F dsp) (WE W) t0) (dCallX dsp Wd t) := fun G sd s R H Qd Q sv rh q k =>
  h G sd s R H _ _ sv rh q fun G1 R1 H1 ds vs e1 rh1 dv1 q1 =>
    ⟨G1, ds, R1, Qd, _, dv1, rh1.toAll, q1, (k.st e1).toAll rh1.φ, fun G' R' H' cls od fs e rh' ex w => lw G' R' H' cls od fs sd s ((sv.st e1).st e) (rh'.ofAll (K.Φ.st e rh1.φ)) ex w⟩
structure CalX (P : Program) (w : World) (K : KB) (mg : Str → Option Value) (base : Heap) (k : Nat) (x : Str) (dsp : DSp) : Prop where
  ex : ∃ (f : Addr) (fd : FuncData) (ps : List Str), FnG P w K mg base (L2.CX P w) k f fd ps (spOf K dsp) ∧ mg x = some (.ref f) ∧ PySem.W.keepIn K (.ref f) = true ∧ Binds K fd ps []
section
variable {X : CxF} {k j : Nat} {x : Str} {dsp : DSp} {Wd : DWX} {p pos : Pos} {e : Expr} {es : List Expr} {t : DTA}
theorem de_cX (c : CalX X.prog X.w X.K.F X.mg X.base k x dsp) (gd : X.A.guards = some []) (hr : Room j X.A) (hk : k ≤ j) (tk : TakesD X Wd) (hg : Gl X x) (ha : DA X (e :: es) t) (hdb : (x == ("__debug__" : Str)) = false := by decide)
    (he : starEach (e :: es) X.env = (false, eval e X.env) :: starEach es X.env := by rfl) (hpl : (backTo pos (starEach es X.env)).any (·.1) = false := by rfl) : DE X (.Call (.Name x p) (e :: es) [] pos) (dCallX dsp Wd t) := by
  obtain ⟨f, fd, ps, F, hm, kp, bd⟩ := c.ex
  obtain ⟨W, tk, lw⟩ := tk
  obtain ⟨t0, a1, a2⟩ := ha
  exact ⟨_, pe_callGS F gd (hr.mono hk) hg hm kp bd (fun σ => passAt tk σ) a1 hdb he hpl, LE.callX a2 lw⟩
end

/-! ### try -/
def HasX (X : CxF) (d : Option Addr) (fs : List (Str × D)) : Prop := ∀ G R H, RepH X.K G R H → ExD X.K G R H d fs
def wAsD (K : PySem.W.Frag) (c : Value) (i : Nat) (tsd : Addr → Value → List (Str × D) → DTS) (Wout : DWX) (D : DEnds) : DWX := fun cls fs s R =>
  ∃ b, PySem.W.exmOne K cls c = some b ∧ (b = true → ∀ a, R a = none → tsd a cls fs { nx := fun s' R' => D.nx (s'.set i none) R', rt := D.rt, bk := fun s' R' => D.bk (s'.set i none) R', ct := fun s' R' => D.ct (s'.set i none) R' } (s.set i (some (.ref a))) R) ∧
    (b = false → Wout cls fs s R)
def wOnlyD (K : PySem.W.Frag) (c : Value) (tsd : Addr → Value → List (Str × D) → DTS) (Wout : DWX) (D : DEnds) : DWX := fun cls fs s R =>
  ∃ b, PySem.W.exmOne K cls c = some b ∧ (b = true → ∀ a, R a = none → tsd a cls fs D s R) ∧ (b = false → Wout cls fs s R)
def dTryAs (K : PySem.W.Frag) (c : Value) (i : Nat) (tbd : DWX → DTS) (tsd : Addr → Value → List (Str × D) → DTS) (Wout : DWX) : DTS := fun D s R => tbd (wAsD K c i tsd Wout D) D s R
def dTryOnly (K : PySem.W.Frag) (c : Value) (tbd : DWX → DTS) (tsd : Addr → Value → List (Str × D) → DTS) (Wout : DWX) : DTS := fun D s R => tbd (wOnlyD K c tsd Wout D) D s R
def cTb (F : KB) (tbd : DWX → DTS) (W : WX) : L2.TS := fun E s H => ∃ (Φ' : Phi) (Wd : DWX) (G : Hp) (sd : DSt) (R : Rs) (Ed : DEnds), LWX ⟨F, Φ'⟩ W Wd ∧ SV F G sd s ∧ RepH ⟨F, Φ'⟩ G R H ∧ tbd Wd Ed sd R ∧ EB ⟨F, Φ'⟩ G R H Ed E
def cTs (F : KB) (tsd : Addr → Value → List (Str × D) → DTS) (a : Addr) (cls : Value) (d : Option Addr) : L2.TS := fun E s H => ∃ (Φ' : Phi) (fs : List (Str × D)) (G : Hp) (sd : DSt) (R : Rs) (Ed : DEnds),
  (∀ G' R' H', RepH ⟨F, Φ'⟩ G' R' H' → ExD F G' R' H' d fs) ∧ SV F G sd s ∧ RepH ⟨F, Φ'⟩ G R H ∧ tsd a cls fs Ed sd R ∧ EB ⟨F, Φ'⟩ G R H Ed E
section
variable {X : CxF} {x n : Str} {c : Value} {i : Nat} {body suite : List Stmt} {b₀ : Stmt} {np pos pos' : Pos} {tbd : DWX → DTS} {tsd : Addr → Value → List (Str × D) → DTS} {Wout : DWX}
theorem ts_run (hsu : ∀ (Φ' : Phi) (a : Addr) (oe : Obj) (cls : Value) (d : Option Addr) (fs : List (Str × D)) (pn : List (Addr × Obj)), Zc cls d oe → (∃ vs, oe.data = .fields vs) → HasX ⟨X.X.suite a ((a, oe) :: pn), Φ', X.B⟩ d fs → DSs ⟨X.X.suite a ((a, oe) :: pn), Φ', X.B⟩ (b₀ :: suite) (tsd a cls fs))
    (a : Addr) (oe : Obj) (cls : Value) (d : Option Addr) (pn : List (Addr × Obj)) (hz : Zc cls d oe) (hf : ∃ vs, oe.data = .fields vs) : PSs (X.X.suite a ((a, oe) :: pn)) (b₀ :: suite) (cTs X.K.F tsd a cls d) := by
  refine ⟨fun pins s σ H E I h => ?_⟩
  obtain ⟨Φ', fs, G, sd, R, Ed, hx, sv, rh, q, eb⟩ := h
  obtain ⟨te, a1, a2⟩ := hsu Φ' a oe cls d fs pn hz hf hx
  exact a1.run pins s σ H E I (a2 G sd σ R H Ed E sv rh q eb)
end
/-- e.f in a suite -/
def dXF (C : Addr) (f : Str) (a : Addr) (cls : Value) (fs : List (Str × D)) (t : DTE) : DTE := fun s R Q => t s R fun x R1 => x = .ref a ∧ cls = .ref C ∧ ∃ v, fs = [(f, v)] ∧ Q v R1
section
variable {X : Cx} {Φ B : Phi} {C : Addr} {cn f : Str}
end
end DL
end
section
set_option Elab.async false
set_option maxRecDepth 100000
set_option linter.all false
set_option autoImplicit false
/-! DLX3: del xs[-k:], xs[i] += e -/
namespace DL
open PySem PySem.Spec PyProof.Rows L2
variable [TabCtx]
section
variable {prog : Program} {w : World} {A : Around} {E : Value → Shared → Prop} {s : Shared}
end
section
variable {X : Cx}
def tDelTail (to : TE) (k : Nat) : L2.TS := fun D σ H => to σ H fun x H1 => ∃ (l : Addr) (xs : List V), x = .ref l ∧ H1 l = some (.lst xs) ∧ k ≤ xs.length ∧ D.nx σ (upd H1 l (.lst (xs.take (xs.length - k))))
def rGetL (K : PySem.W.Frag) : V → V → Hp → VK → Prop := fun x y H Q => ∃ p xs i z, x = .ref p ∧ y = .int i ∧ SqL K H p xs ∧ atI xs i = some z ∧ Q z H
end
/-- del xs[-k:] over data -/
def dDelTail (to : DTE) (k : Nat) : DTS := fun D s R => to s R fun x R1 => ∃ l xs, x = .ref l ∧ R1 l = some (.lst xs) ∧ k ≤ xs.length ∧ D.nx s (put R1 l (.lst (xs.take (xs.length - k))))
def dAugL (to ti te : DTE) : DTS := fun D s R => to s R fun x R1 => ti s R1 fun y R2 => ∃ l xs i a, x = .ref l ∧ y = .int i ∧ R2 l = some (.lst xs) ∧ atI xs i = some (.str a) ∧ te s R2 fun z R3 => ∃ b j xs3, z = .str b ∧ a.length + b.length ≤ sizeLine ∧ R3 l = some (.lst xs3) ∧ ixN xs3.length i = some j ∧ D.nx s (put R3 l (.lst (xs3.set j (.str (a ++ b)))))
section
variable {X : CxF}
end
end DL
end
section
set_option Elab.async false
set_option maxRecDepth 100000
set_option linter.all false
set_option autoImplicit false
/-! DLX4: isinstance of a caught error; text * int; repeated texts -/
namespace DL
open PySem PySem.Spec PyProof.Rows L2
variable [TabCtx]
/-- what a class says, so that isinstance asks its instances rightly -/
structure ExcK (K : PySem.W.Frag) (C : Addr) : Prop where
  cl : (PySem.W.clsIn K C).isSome = true
  ga : PySem.W.findIn K (.ref C) "__getattribute__" = some (some (.builtin "BaseException.__getattribute__"))
  gg : PySem.W.findIn K (.ref C) "__getattr__" = some none
  hs : PySem.W.subIn K (.ref C) (.type "BaseException") = some true
  ha : PySem.W.findIn K (.ref C) "__class__" = some (some (.builtin "object.__class__"))
  hn : PySem.W.specialIn K (.builtin "object.__class__") "__get__" = some (some (.builtin "getset_descriptor.__get__"))
  ht : PySem.W.takesIn K (.builtin "object.__class__") = some true
  hm : PySem.W.mroIn K C (.type "object") = some true
inductive ClsD : D → Value → Prop where
  | ty (n : String) : ClsD (.ty n) (.type n)
  | own (C : Addr) : ClsD (.ref C) (.ref C)
theorem ClsD.rel {K : PySem.W.Frag} {G : Hp} {c : D} {v : V} {u w : Value} (k : ClsD c u) (dv : DV K G c v) (r : RelV v w) : w = u := by
  cases k with
  | ty n => cases dv; exact r
  | own C => cases dv; exact r
def rIsX (K : PySem.W.Frag) (C a : Addr) (d : Option Addr) (cls : Value) : List V → Hp → VK → Prop := fun xs H Q => cls = .ref C ∧ ∃ (c : V) (b : Bool), xs = [.ref a, c] ∧ Q (.bl b) H ∧ (d = none ∨ ∃ dd fs, d = some dd ∧ H dd = some (.xd fs)) ∧
  ((∃ cv, (∀ u, RelV c u → u = cv) ∧ PySem.W.kitOne K cls cv = some b) ∨ ∃ tp vs us, c = .ref tp ∧ SqT K H tp vs ∧ (∀ ws, Vals vs ws → ws = us) ∧ PySem.W.kitAny K cls us = some b)
/-- isinstance(e, c), isinstance(e, (c, ..)) in a suite -/
def rdIsX (K : PySem.W.Frag) (C a : Addr) (cls : Value) : List D → Rs → DK → Prop := fun ds R Q => cls = .ref C ∧ ∃ c b, ds = [.ref a, c] ∧ ((∃ u, ClsD c u ∧ PySem.W.kitOne K cls u = some b) ∨ ∃ cs us, c = .tup cs ∧ Paired ClsD cs us ∧ PySem.W.kitAny K cls us = some b) ∧ Q (.bl b) R
theorem GC.ref {K : PySem.W.Frag} {mg : Str → Option Value} {x : Str} {C : Addr} (h : mg x = some (.ref C)) : GC K mg x (.ref C) := ⟨_, .ref C, h, rfl, fun _ => .ref C⟩
/-- text * int -/
theorem op_mulS {X : Cx} : OpR X (binaryOp .Mult) (fun x y H Q => ∃ a n, x = .str a ∧ y = .int n ∧ PySem.MulOk a n ∧ Q (.str (Txt.mul a n)) H) := by
  intro pins s σ H x y v u Q I rx ry h
  obtain ⟨a, n, rfl, rfl, ok, q⟩ := h
  obtain ⟨t, rfl⟩ := rx
  obtain ⟨t', rfl⟩ := ry
  exact SB.mul ok fun t2 k => ⟨.str _, H, I.tok _, ⟨_, rfl⟩, q⟩
theorem od_mulS {X : CxF} : OpD X (binaryOp .Mult) (fun x y R Q => ∃ a n, x = .str a ∧ y = .int n ∧ PySem.MulOk a n ∧ Q (.str (Txt.mul a n)) R) := ⟨_, op_mulS, fun G R H x y xd yd Qd Q rh dx dy ⟨a, n, hx, hy, c, q⟩ k => by
  subst hx hy
  cases dx; cases dy
  exact ⟨a, n, rfl, rfl, c, k G R H _ _ (Stp.refl _ _ _) rh (.str _) q⟩⟩
end DL
end
section
set_option Elab.async false
set_option maxRecDepth 100000
set_option linter.all false
set_option autoImplicit false
/-! DLX5: text.replace of written texts in a display that begins with a written text + .. -/
namespace DL
open PySem PySem.Spec PyProof.Rows L2 CwR PySem.StrLaws
variable [TabCtx]
section
variable {X : Cx}
end
def DET (X : CxF) (e : Expr) (t : DTE) : Prop := ∃ te, PET X e te ∧ LE X.K te t
def DAT (X : CxF) (es : List Expr) (t : DTA) : Prop := ∃ te, PAT X es te ∧ LA X.K te t
def dRepl (to : DTE) (y z : Str) : DTE := fun s R Q => to s R fun d R1 => ∃ x, d = .str x ∧ x.length + (x.length + 1) * z.length ≤ 16777216 ∧ Q (.str (Txt.replace x y z)) R1
section
variable {X : CxF} {o e : Expr} {es : List Expr} {to te : DTE} {t : DTA} {y z : Str} {j k : Nat} {c0 c1 apos pos p1 : Pos}
end
end DL
end
section
set_option Elab.async false
set_option maxRecDepth 100000
set_option linter.all false
set_option autoImplicit false
/-! DLL: lambdas as data; f-strings -/
namespace DL
open PySem PySem.Spec PyProof.Rows L2 LamX NdefX
variable [TabCtx]

/-! ### a lambda is made -/
section
variable {X : Cx} {pins : List (Addr × Obj)} {σ : L2.St} {H : Hp} {s : Shared}
end
def tLamV (P : Addr) (nm : Nat → Nat → Str) (pos : Pos) (L : Lam) : TE := fun σ H Q => ∃ ps : Array Value, H P = some (.tbl ps) ∧ TriplesOk ps.toList ∧ (∀ (p : Pos) (cv : Value), codeAmong p ps.toList = some cv → ∃ c, cv = .ref c ∧ H c = some (CodeO c (nm p.line p.col))) ∧
  (∀ f c', codeAmong pos ps.toList = some (.ref c') → H f = none → Q (.ref f) (upd H f (LamO f L c'))) ∧
  (∀ f c', H f = none → H c' = none → f ≠ c' → f ≠ P → Q (.ref f) (upd (upd (upd H P (.tbl (ps ++ #[rawInt pos.line, rawInt pos.col, .ref c']))) c' (CodeO c' L.qual)) f (LamO f L c')))
section
variable {K : KF} {G : Hp} {R : Rs} {H : Hp}
end
def dLam (L : Lam) : DTE := fun _ R Q => Q (.lam L) R
/-- what is asked where a lambda is made: the code object of the running def, its table -/
structure LamAt (X : CxF) (P : Addr) (nm : Nat → Nat → Str) : Prop where
  ex : ∃ c, TabB X.X.base X.X.mg c P ∧ X.X.env.code = .ref c
  tb : ∀ G R H, X.B.p G R H → TabH G R H P nm
  tc : TabCtx.T P = some nm
/-! ### what it promises -/
abbrev nf (L : Lam) (c : Addr) : NF := ⟨"<lambda>", L.qual, L.params, [], L.scope, L.cl, c⟩
structure LOk (P : Program) (w : World) (K : PySem.W.Frag) (mg : Str → Option Value) (base : Heap) (CX : CXT) (k : Nat) (L : Lam) (ps fr : List Str) (sp : List (Option V) → Sp) : Prop where
  len : ∀ ws vs H Q E, sp ws vs H Q E → vs.length = ps.length
  go : ∀ (A : Around), A.guards = some [] → Room k A → ∀ (outer : List Env) (s : Shared) (H : Hp), Env0 P w K mg base A outer s H → ∀ (f c : Addr) (us : List Value) (vs : List V) (ws : List (Option V)) (Q : VK) (E : XK), H f = some (LamO f L c) → H c = some (CodeO c L.qual) →
    CellsAt L.cl fr ws s.heap H → Vals vs us → sp ws vs H Q E → codeAny (model P w) A (.call (.ref f) ⟨us, []⟩) (CR CX outer P w H s Q E) s
section
variable {CX : CXT} {P : Program} {w : World} {K : PySem.W.Frag} {mg : Str → Option Value} {base : Heap} {N ps fr : List Str} {L : Lam} {k : Nat} {sp : List (Option V) → Sp}
end
/-- a lambda that captured nothing, and its promise -/
structure LamP (P : Program) (w : World) (K : KB) (mg : Str → Option Value) (base : Heap) (k : Nat) (L : Lam) (dsp : DSp) : Prop where
  cl : L.cl = []
  ex : ∃ ps, LOk P w K mg base CX0 k L ps [] fun _ => spOf K dsp
section
variable {P : Program} {w : World} {K : KB} {mg : Str → Option Value} {base : Heap}
end
/-! ### its call by a local name -/
def tCallLV (i : Nat) (L : Lam) (sp : Sp) (E : XK) (t : TA) : TE := fun σ H Q => ∃ f c, σ[i]? = some (some (.ref f)) ∧ H f = some (LamO f L c) ∧ t σ H fun vs H1 => H1 f = some (LamO f L c) ∧ H1 c = some (CodeO c L.qual) ∧ sp vs H1 Q E
section
variable {X : Cx} {CX : CXT} {ps : List Str} {i j k : Nat} {x : Str} {L : Lam} {sp : Sp} {E : XK} {t : TA} {e : Expr} {es : List Expr} {p pos : Pos}
end
def dCallL (i : Nat) (L : Lam) (dsp : DSp) (t : DTA) : DTE := fun s R Q => s[i]? = some (some (.lam L)) ∧ t s R fun ds R1 => dsp ds R1 Q Ed0
section
variable {X : CxF} {i j k : Nat} {x : Str} {L : Lam} {dsp : DSp} {t : DTA} {e : Expr} {es : List Expr} {p pos : Pos}
end

/-! ### f-strings -/
def dFmt (t : DTE) : DTE := fun s R Q => t s R fun x R1 => (∃ y : Str, x = .str y ∧ y.length ≤ sizeLine ∧ Q (.str y) R1) ∨ ∃ i : Int, x = .int i ∧ i.natAbs.log2 < 1920 ∧ Q (.str (toString i)) R1
/-- {x} where x is a text -/
def dFmtS (t : DTE) : DTE := fun s R Q => t s R fun x R1 => ∃ y : Str, x = .str y ∧ y.length ≤ sizeLine ∧ Q (.str y) R1
def dJs : List DTE → Str → DSt → Rs → (Str → Rs → Prop) → Prop
  | [], acc, _, R, Q => Q acc R
  | t :: ts, acc, s, R, Q => t s R fun x R1 => ∃ y : Str, x = .str y ∧ (acc ++ y).length ≤ sizeLine ∧ dJs ts (acc ++ y) s R1 Q
def dJoin (ts : List DTE) : DTE := fun s R Q => dJs ts Str.empty s R fun out R1 => Q (.str out) R1
section
variable {X : CxF}
inductive DJ (X : CxF) : List Expr → List DTE → Prop where
  | nil : DJ X [] []
  | cons {e : Expr} {t : DTE} {es : List Expr} {ts : List DTE} (h : DE X e t) (r : DJ X es ts) : DJ X (e :: es) (t :: ts)
end
end DL
end
section
set_option Elab.async false
set_option maxRecDepth 100000
set_option linter.all false
set_option autoImplicit false
/-! DLF: the end of a law's row whose defs make lambdas, from a promise FnG -/
namespace DL
open PySem PySem.Spec PyProof.Rows L2 LamX
variable [TabCtx]
abbrev tab0 : Obj := { cls := .none, data := .fields #[] }
section
variable {P : Program} {w : World} {K : PySem.W.Frag} {mg mb : Str → Option Value} {CX : CXT} {k : Nat} {fa a : Addr} {fd : FuncData} {x : Str} {sp : Sp} {s1 : Shared} {vs : List Value} {ns : List Int} {cs : List (Addr × Addr)}
/-- what is hidden is the script or a table -/
def Hidden (K : PySem.W.Frag) (cs : List (Addr × Addr)) (a : Addr) (H : Hp) : Prop := ∀ b u, H b = some u → (b = a ∧ K.lookup a = none ∧ ∃ ob xs, u = .frz ob (.lst xs)) ∨ (K.lookup b = none ∧ u = .tbl #[] ∧ b ∈ cs.map (·.2))
/-- the tables alone; the tables and the script -/
def tabHp (cs : List (Addr × Addr)) : Hp := fun b => if b ∈ cs.map (·.2) then some (.tbl #[]) else none
end
/-- the tables of the defs at the head's end: empty -/
def TabsOf (q : Program) (K : PySem.W.Frag) (h : Heap) : Prop := ∀ (x : Str) (c P : Addr), ((recsOf q).find? fun e => e.name == x).isSome = true → PySem.W.tabIn K x = some (c, P) → PySem.W.CodeHd h c P ∧ h.get? P = some tab0
/-- the law's promise at the head's heap h -/
def LawAtG (l : PySem.W.OpenLaw) (w : World) (K : PySem.W.Frag) (CX : CXT) (k n : Nat) (x : Str) (mg : Str → Option Value) (fa : Addr) (h : Heap) : Prop :=
  ∃ (fd : FuncData) (cs : List (Addr × Addr)) (sp : Sp), (∀ p ∈ cs, h.get? p.2 = some tab0) ∧ (∀ p ∈ cs, K.lookup p.2 = none) ∧ (∀ p ∈ cs, PySem.W.CodeHd h p.1 p.2) ∧ (∀ (s : Shared) (u : Value), BindsTo s fd ⟨[u], []⟩ [(x, u)]) ∧
    (∀ (H : Hp) (a : Addr) (ns : List Int), ns.length ≤ n → (∀ p ∈ cs, H p.2 = some (.tbl #[])) → SqL K H a (ns.map V.int) → sp [.ref a] H (fun v _ => v = .bl true) fun _ _ _ => False) ∧
    ∀ base : Heap, K.In base → base.Ns mainGlobals mg → (∀ p ∈ cs, TabB base mg p.1 p.2) → FnG l.prog w K mg base CX k fa fd [x] sp
/-! ### what stays true: the told tables -/
def tabsPhi : Phi := ⟨fun G R H => ∀ a nm, TabCtx.T a = some nm → TabH G R H a nm, fun e h a nm z => e.t a nm z (h a nm z)⟩
/-- a def whose code object is known -/
structure FunC (K : PySem.W.Frag) (x qual : Str) (st : Stmt) (f : Addr) (fd : FuncData) (c : Addr) : Prop where
  ex : ∃ (oc : Value) (od : Option Addr) (kV doc pm : Value) (an : Option Addr) (ct : Value) (osl : Array (Option Value)), fd = PySem.W.fnOf x qual (defArgs st) (defBody st) (defScope st) .none kV doc pm an (.ref c) ct ∧ K.lookup f = some ⟨oc, od, .func fd, osl⟩ ∧ PySem.W.codeIn K (.ref c) qual = true
/-- its table -/
structure TabOk (K : KB) (mg : Str → Option Value) (base : Heap) (c P : Addr) (nm : Nat → Nat → Str) : Prop where
  tb : TabB base mg c P
  on : ∀ G R H, K.B.p G R H → TabH G R H P nm
  tc : TabCtx.T P = some nm
section
variable {P : Program} {w : World} {K : KB} {mg : Str → Option Value} {base : Heap}
end
/-! ### a lambda among a call's arguments -/
def exNone : Expr := .Constant .none 0 ⟨0, 0, 0, 0⟩
def retE : List Stmt → Expr
  | .Return (some e) _ :: _ => e
  | _ => exNone
def argE (i : Nat) : Expr → Expr
  | .Call _ es _ _ => es.getD i exNone
  | _ => exNone
def lamOf (q : Str) : Expr → Lam
  | .Lambda ps b sc _ => ⟨q, ps, b, sc, []⟩
  | _ => ⟨q, { posonlyargs := [], args := [], vararg := none, kwonlyargs := [], kw_defaults := [], kwarg := none, defaults := [] }, exNone, { kind := .function, names := [], isGenerator := false, isCoroutine := false, more := [] }, []⟩
end DL
end
section
set_option Elab.async false
set_option maxRecDepth 100000
set_option linter.all false
set_option autoImplicit false
/-! DLC: classes over plain data: fields, methods, new instances -/
namespace DL
open PySem PySem.Spec PyProof.Rows L2
variable [TabCtx]

section
variable {X : Cx} {CX : CXT} {k : Nat} {f C : Addr} {fd : FuncData} {ps : List Str} {sp : Sp} {E : L2.St → XK} {x m : Str} {p pos apos : Pos} {e o : Expr} {es : List Expr} {ta : TE} {t : TA}
/-- o.m(..) of an instance of the class at C; what is raised is wished for at the caller's slots -/
def tMethV (C : Addr) (m : Str) (sp : Sp) (E : L2.St → XK) (ta : TE) (t : TA) : TE := fun σ H Q => ta σ H fun x H1 => ∃ a dx fs, x = .ref a ∧ H1 a = some (.ins C dx fs) ∧ fs.lookup m = none ∧ t σ H1 fun vs H2 => sp (x :: vs) H2 Q (E σ)
theorem pe_methV {pl : Sem Bool} (he : PE X o ta) (c : Cls X.K C) (hm : Meth X.K C m f) (F : FnG X.prog X.w X.K X.mg X.base CX k f fd ps sp) (gd : X.A.guards = some []) (hr : Room k X.A) (hb : Binds X.K fd ps []) (hx : ∀ σ, PassesAt CX X σ (E σ)) (ha : PA X (e :: es) t)
    (hst : starEach (e :: es) X.env = (false, eval e X.env) :: starEach es X.env := by rfl) (hpl : (backTo pos (starEach es X.env)).any (·.1) = false := by rfl)
    (ht : eval (.Call (.Attribute o m apos) (e :: es) [] pos) X.env = (do
      let ov ← eval o X.env
      standAt apos.atName
      let (f, first) ← holding [ov] (getMethod ov m pl)
      callWith pos f first (backTo pos (starEach (e :: es) X.env)) (backToKw pos (keywordEach [] X.env))) := by rfl) :
    PE X (.Call (.Attribute o m apos) (e :: es) [] pos) (tMethV C m sp E ta t) :=
  ⟨fun pins s σ H Q I h => PySem.W.methodCall_KW (pl := pl) (thn (he.run pins s σ H _ I h) fun u s1 ⟨x, H1, I1, rx, a, dx, fs, ex, ea, l, q⟩ => by
    subst ex
    obtain rfl : u = Value.ref a := rx
    refine getmeth_ok I1 ea c hm l (PySem.W.callWith_K (first := [.ref a]) (h₀ := X.base) I.ok.mod.kin hm.kp (thn (ha.run pos pins s1 σ H1 _ I1 q) fun us s2 ⟨vs, H2, I2, r, q2⟩ => ⟨I2.kIn, ?_⟩) hst hpl)
    exact goGS (us := .ref a :: us) (vs := .ref a :: vs) F gd hr hb (hx σ) I2 (.cons rfl r) q2) ht⟩
theorem pe_methV0 {pl : Sem Bool} (he : PE X o ta) (c : Cls X.K C) (hm : Meth X.K C m f) (F : FnG X.prog X.w X.K X.mg X.base CX k f fd ps sp) (gd : X.A.guards = some []) (hr : Room k X.A) (hb : Binds X.K fd ps []) (hx : ∀ σ, PassesAt CX X σ (E σ))
    (ht : eval (.Call (.Attribute o m apos) [] [] pos) X.env = (do
      let ov ← eval o X.env
      standAt apos.atName
      let (f, first) ← holding [ov] (getMethod ov m pl)
      callWith pos f first (backTo pos (starEach [] X.env)) (backToKw pos (keywordEach [] X.env))) := by rfl) :
    PE X (.Call (.Attribute o m apos) [] [] pos) (tMethV C m sp E ta tNil) :=
  ⟨fun pins s σ H Q I h => PySem.W.methodCall_KW (pl := pl) (thn (he.run pins s σ H _ I h) fun u s1 ⟨x, H1, I1, rx, a, dx, fs, ex, ea, l, q⟩ => by
    subst ex
    obtain rfl : u = Value.ref a := rx
    exact getmeth_ok I1 ea c hm l (PySem.W.callWith_K0 (first := [.ref a]) I1.kIn hm.kp (goGS (us := [.ref a]) (vs := [.ref a]) F gd hr hb (hx σ) I1 (.cons rfl .nil) q))) ht⟩
end

/-! ### instances as data -/
/-- d is an instance of the class at C that has no field m -/
def insAt (R : Rs) (d : D) (C : Addr) (m : Str) : Prop := match d with
  | .ins C' ns _ => C' = C ∧ m ∉ ns
  | .ref a => ∃ dx fs, R a = some (.ins C dx fs) ∧ m ∉ fs.map (·.1)
  | _ => False
theorem lookup_zip_none {ns : List Str} {xs : List V} {m : Str} (h : m ∉ ns) : (ns.zip xs).lookup m = none := by
  induction ns generalizing xs with
  | nil => rfl
  | cons n ns ih =>
    cases xs with
    | nil => rfl
    | cons x xs =>
      rw [List.zip_cons_cons, List.lookup_cons]
      have hn : (m == n) = false := by
        apply beq_false_of_ne
        intro z; exact h (by simp [z])
      rw [hn]
      exact ih fun z => h (by simp [z])
section
variable {K : KF} {G : Hp} {R : Rs} {H : Hp}
theorem ins_dv {d : D} {v : V} {C : Addr} {m : Str} (h : insAt R d C m) (rh : RepH K G R H) (dv : DV K G d v) : ∃ a dx fs, v = .ref a ∧ H a = some (.ins C dx fs) ∧ fs.lookup m = none := by
  cases dv with
  | ins h1 h2 h3 => obtain ⟨rfl, hm⟩ := h; exact ⟨_, _, _, rfl, rh.g _ _ h1, lookup_zip_none hm⟩
  | ref a =>
    obtain ⟨dx, fs, e, hm⟩ := h
    obtain ⟨_, o, h2, vs, rfl, _⟩ := rh.r a _ e
    exact ⟨_, _, _, rfl, h2, lookup_zip_none hm⟩
  | _ => exact h.elim
end
theorem LA.nil {K : KF} : LA K tNil dNil := fun G sd s R H Qd Q sv rh q k => k G R H [] [] (Stp.refl G R H) rh .nil q
/-- a method of a class by its name, that lets no exception out; one that may raise -/
structure MetD (P : Program) (w : World) (K : KB) (mg : Str → Option Value) (base : Heap) (k : Nat) (C : Addr) (m : Str) (dsp : DSp) : Prop where
  ex : ∃ (f : Addr) (fd : FuncData) (ps : List Str), FnG P w K mg base CX0 k f fd ps (spOf K dsp) ∧ Cls K C ∧ Meth K C m f ∧ Binds K fd ps []
structure MetDX (P : Program) (w : World) (K : KB) (mg : Str → Option Value) (base : Heap) (k : Nat) (C : Addr) (m : Str) (dsp : DSp) : Prop where
  ex : ∃ (f : Addr) (fd : FuncData) (ps : List Str), FnG P w K mg base (L2.CX P w) k f fd ps (spOf K dsp) ∧ Cls K C ∧ Meth K C m f ∧ Binds K fd ps []
def dMeth (C : Addr) (m : Str) (dsp : DSp) (Wd : DWX) (to : DTE) (t : DTA) : DTE := fun s R Q => to s R fun d R1 => insAt R1 d C m ∧ t s R1 fun ds R2 => dsp (d :: ds) R2 Q (fun cls fs R' => Wd cls fs s R')
theorem LE.meth {K : KF} {C : Addr} {m : Str} {dsp : DSp} {W : WX} {Wd : DWX} {to : DTE} {t : DTA} {ta : TE} {t0 : TA} (ho : LE K ta to) (h : LA K t0 t) (lw : LWX K W Wd) : LE K (tMethV C m (spOf K.F dsp) (WE W) ta t0) (dMeth C m dsp Wd to t) := fun G sd s R H Qd Q sv rh q k =>
  ho G sd s R H _ _ sv rh q fun G1 R1 H1 d v e1 rh1 dv1 ⟨hi, q1⟩ => by
    obtain ⟨a, dx, fs, rfl, h1, h2⟩ := ins_dv hi rh1 dv1
    exact ⟨a, dx, fs, rfl, h1, h2, h G1 sd s R1 H1 _ _ (sv.st e1) rh1 q1 fun G2 R2 H2 ds vs e2 rh2 dv2 q2 => ⟨G2, d :: ds, R2, Qd, _, .cons (dv1.st e2) dv2, rh2.toAll, q2, (k.st (e1.trans e2)).toAll rh2.φ,
      fun G' R' H' cls od fs e rh' ex w => lw G' R' H' cls od fs sd s (((sv.st e1).st e2).st e) (rh'.ofAll (K.Φ.st e rh2.φ)) ex w⟩⟩
section
variable {X : CxF} {k j : Nat} {C : Addr} {m : Str} {dsp : DSp} {Wd : DWX} {apos pos : Pos} {o e : Expr} {es : List Expr} {to : DTE} {t : DTA}
theorem de_meth {pl : Sem Bool} (c : MetD X.prog X.w X.K.F X.mg X.base k C m dsp) (gd : X.A.guards = some []) (hr : Room j X.A) (hk : k ≤ j) (ho : DE X o to) (ha : DA X (e :: es) t)
    (hst : starEach (e :: es) X.env = (false, eval e X.env) :: starEach es X.env := by rfl) (hpl : (backTo pos (starEach es X.env)).any (·.1) = false := by rfl)
    (ht : eval (.Call (.Attribute o m apos) (e :: es) [] pos) X.env = (do
      let ov ← eval o X.env
      standAt apos.atName
      let (f, first) ← holding [ov] (getMethod ov m pl)
      callWith pos f first (backTo pos (starEach (e :: es) X.env)) (backToKw pos (keywordEach [] X.env))) := by rfl) : DE X (.Call (.Attribute o m apos) (e :: es) [] pos) (dMeth C m dsp WNo to t) := by
  obtain ⟨f, fd, ps, F, hc, hm, bd⟩ := c.ex
  obtain ⟨to0, o1, o2⟩ := ho
  obtain ⟨t0, a1, a2⟩ := ha
  exact ⟨_, pe_methV (pl := pl) (E := WE fun _ _ _ _ => False) o1 hc hm F gd (hr.mono hk) bd (fun σ pins H s e s' I z => pass0 pins σ H s e s' I z) a1 hst hpl ht, LE.meth o2 a2 fun _ _ _ _ _ _ _ _ _ _ _ w => w⟩
theorem de_meth0 {pl : Sem Bool} (c : MetD X.prog X.w X.K.F X.mg X.base k C m dsp) (gd : X.A.guards = some []) (hr : Room j X.A) (hk : k ≤ j) (ho : DE X o to)
    (ht : eval (.Call (.Attribute o m apos) [] [] pos) X.env = (do
      let ov ← eval o X.env
      standAt apos.atName
      let (f, first) ← holding [ov] (getMethod ov m pl)
      callWith pos f first (backTo pos (starEach [] X.env)) (backToKw pos (keywordEach [] X.env))) := by rfl) : DE X (.Call (.Attribute o m apos) [] [] pos) (dMeth C m dsp WNo to dNil) := by
  obtain ⟨f, fd, ps, F, hc, hm, bd⟩ := c.ex
  obtain ⟨to0, o1, o2⟩ := ho
  exact ⟨_, pe_methV0 (pl := pl) (E := WE fun _ _ _ _ => False) o1 hc hm F gd (hr.mono hk) bd (fun σ pins H s e s' I z => pass0 pins σ H s e s' I z) ht, LE.meth o2 LA.nil fun _ _ _ _ _ _ _ _ _ _ _ w => w⟩
end
/-! ### fields -/
def fldOf (R : Rs) (d : D) (C : Addr) (f : Str) (v : D) : Prop := match d with
  | .ins C' ns ds => C' = C ∧ (ns.zip ds).lookup f = some v
  | .ref a => ∃ dx fs, R a = some (.ins C dx fs) ∧ fs.lookup f = some v
  | _ => False
theorem lookup_dv {K : PySem.W.Frag} {G : Hp} {f : Str} {v : D} : ∀ {ns : List Str} {ds : List D} {xs : List V}, DVs K G ds xs → (ns.zip ds).lookup f = some v → ∃ x, (ns.zip xs).lookup f = some x ∧ DV K G v x
  | [], _, _, _, h => by cases h
  | _ :: _, [], _, _, h => by cases h
  | n :: ns, d :: ds, _, .cons (v := x) (vs := xs) h1 h2, h => by
    rw [List.zip_cons_cons, List.lookup_cons] at h ⊢
    cases e : (f == n) with
    | true => rw [e] at h; cases h; exact ⟨x, rfl, h1⟩
    | false => rw [e] at h; exact lookup_dv h2 h
theorem zip_self {α β : Type} (l : List (α × β)) : (l.map (·.1)).zip (l.map (·.2)) = l := by
  induction l with
  | nil => rfl
  | cons a l ih => simp [ih]
section
variable {K : KF} {G : Hp} {R : Rs} {H : Hp}
theorem fld_dv {d v : D} {x : V} {C : Addr} {f : Str} (h : fldOf R d C f v) (rh : RepH K G R H) (dv : DV K G d x) : ∃ a dx fs y, x = .ref a ∧ H a = some (.ins C dx fs) ∧ fs.lookup f = some y ∧ DV K G v y := by
  cases dv with
  | ins h1 h2 h3 =>
    obtain ⟨rfl, hm⟩ := h
    obtain ⟨y, e1, e2⟩ := lookup_dv h3 hm
    exact ⟨_, _, _, y, rfl, rh.g _ _ h1, e1, e2⟩
  | ref a =>
    obtain ⟨dx, fs, e, hm⟩ := h
    obtain ⟨_, o, h2, vs, rfl, h3⟩ := rh.r a _ e
    rw [← zip_self fs] at hm
    obtain ⟨y, e1, e2⟩ := lookup_dv h3 hm
    exact ⟨_, _, _, y, rfl, h2, e1, e2⟩
  | _ => exact h.elim
end
def dFld (C : Addr) (f : Str) (to : DTE) : DTE := fun s R Q => to s R fun d R1 => ∃ v, fldOf R1 d C f v ∧ Q v R1
theorem de_fld {X : CxF} {o : Expr} {to : DTE} {C : Addr} {f : Str} {pos : Pos} (hc : Cls X.K C) (hn : NoAttr X.K C f) (ho : DE X o to) (hb : attributeBase o f X.env (eval o X.env) = eval o X.env := by rfl) : DE X (.Attribute o f pos) (dFld C f to) := by
  obtain ⟨t0, a1, a2⟩ := ho
  refine ⟨_, pe_fld a1 hb, fun G sd s R H Qd Q sv rh q k => a2 G sd s R H _ _ sv rh q fun G1 R1 H1 d x e1 rh1 dv1 ⟨v, hf, q1⟩ => ?_⟩
  obtain ⟨a, dx, fs, y, rfl, h1, h2, h3⟩ := fld_dv hf rh1 dv1
  exact ⟨a, C, dx, fs, y, rfl, h1, hc, hn, h2, k G1 R1 H1 v y e1 rh1 h3 q1⟩
/-! ### a field stored -/
def putD (f : Str) (v : D) : List (Str × D) → List (Str × D)
  | [] => [(f, v)]
  | (g, x) :: r => if g = f then (g, v) :: r else (g, x) :: putD f v r
theorem putD_dv {K : PySem.W.Frag} {G : Hp} {f : Str} {d : D} {x : V} (h : DV K G d x) : ∀ {fs : List (Str × D)} {vs : List V}, DVs K G (fs.map (·.2)) vs → ∃ ws, putF f x ((fs.map (·.1)).zip vs) = ((putD f d fs).map (·.1)).zip ws ∧ DVs K G ((putD f d fs).map (·.2)) ws
  | [], _, .nil => ⟨[x], rfl, .cons h .nil⟩
  | (g, y) :: fs, _, .cons (v := v) (vs := vs) h1 h2 => by
    show ∃ ws, putF f x ((g, v) :: (fs.map (·.1)).zip vs) = _ ∧ _
    unfold putF putD
    by_cases e : g = f
    · rw [if_pos e, if_pos e]; exact ⟨x :: vs, rfl, .cons h h2⟩
    · rw [if_neg e, if_neg e]
      obtain ⟨ws, e1, e2⟩ := putD_dv h h2
      exact ⟨v :: ws, by rw [e1]; rfl, .cons h1 e2⟩
theorem zip_len {ns : List Str} {xs : List V} : (ns.zip xs).length ≤ ns.length := by rw [List.length_zip]; omega
/-- self.f = e where self may change -/
def dSetF (C : Addr) (f : Str) (to te : DTE) : DTS := fun D s R => te s R fun v R1 => to s R1 fun d R2 => ∃ a dx fs, d = .ref a ∧ R2 a = some (.ins C dx fs) ∧ fs.length < 1000 ∧ D.nx s (put R2 a (.ins C dx (putD f v fs)))
theorem ds_setF {X : CxF} {o value : Expr} {to te : DTE} {C : Addr} {f : Str} {pos pos' : Pos} (hc : Cls X.K C) (hn : NoAttr X.K C f) (ho : DE X o to) (he : DE X value te) (hs : swapsWith value (some (.Attribute o f pos')) pos.line X.env = pure false := by rfl) : DS X (.Assign [.Attribute o f pos'] value pos) (dSetF C f to te) := by
  obtain ⟨t0, a1, a2⟩ := ho
  obtain ⟨t1, b1, b2⟩ := he
  refine ⟨_, ps_fld a1 b1 hs, fun G sd s R H Ed E sv rh q k => b2 G sd s R H _ _ sv rh q fun G1 R1 H1 v y e1 rh1 dvy q1 => a2 G1 sd s R1 H1 _ _ (sv.st e1) rh1 q1 fun G2 R2 H2 d x e2 rh2 dvx ⟨a, dx, fs, hd, hR, hl, q2⟩ => ?_⟩
  subst hd
  cases dvx
  obtain ⟨_, u, h2, vs, rfl, h3⟩ := rh2.r a _ hR
  obtain ⟨ws, e3, e4⟩ := putD_dv (f := f) (dvy.st e2) h3
  obtain ⟨S, rh3⟩ := rh2.chg (p := a) (o := .ins C dx (putF f y ((fs.map (·.1)).zip vs))) (ro := .ins C dx (putD f v fs)) hR ⟨ws, by rw [e3], e4⟩
  refine ⟨a, C, dx, _, rfl, h2, hc, hn, Nat.lt_of_le_of_lt zip_len (by rw [List.length_map]; exact hl), ?_⟩
  exact k.nx _ sd s _ _ (e1.trans (e2.trans S)) (((sv.st e1).st e2).st S) rh3 q2
/-! ### an instance that changes no more -/
theorem RepH.freeze {K : KF} {G : Hp} {R : Rs} {H : Hp} {a : Addr} {ro : RO} {o : HO} (h : RepH K G R H) (hR : R a = some ro) (hH : H a = some o) : Stp G R H (upd G a o) (fun b => if b = a then none else R b) H ∧ RepH K (upd G a o) (fun b => if b = a then none else R b) H := by
  obtain ⟨g0, _⟩ := h.r a ro hR
  have s1 : Same G (upd G a o) := fun b u q => by rw [upd_ne (ne_of_none q g0)]; exact q
  have S : Stp G R H (upd G a o) (fun b => if b = a then none else R b) H := .mk0 s1 fun b u q1 q2 q3 => by
    have hb : b ≠ a := by intro z; subst z; rw [q2] at hR; cases hR
    exact ⟨q1, by simp [hb, q2], by rw [upd_ne hb]; exact q3⟩
  refine ⟨S, fun b u q => ?_, fun b r q => ?_, K.Φ.st S h.φ, K.F.B.st S h.b⟩
  · by_cases hb : b = a
    · subst hb; rw [upd_same] at q; cases q; exact hH
    · rw [upd_ne hb] at q; exact h.g b u q
  · by_cases hb : b = a
    · simp [hb] at q
    · simp only [if_neg hb] at q
      obtain ⟨h1, u, h2, h3⟩ := h.r b r q
      exact ⟨by rw [upd_ne hb]; exact h1, u, h2, h3.mono s1⟩
end DL
end
section
set_option Elab.async false
set_option maxRecDepth 100000
set_option linter.all false
set_option autoImplicit false
/-! DLD: new instances over plain data -/
namespace DL
open PySem PySem.Spec PyProof.Rows L2
variable [TabCtx]
theorem gd_make {A : Around} (gd : A.guards = some []) (C : Addr) (us : List Value) : (A.under (.builtin "type.__call__" ⟨.ref C :: us, []⟩)).guards = some [] := by
  first
    | exact gd
    | (simp [Around.under, gd, Code.guards, Code.isGuard]; done)
    | (simp [Around.under, gd, Code.guards, Code.isGuard]; decide)
section
variable {X : Cx} {CX : CXT} {k : Nat} {f C : Addr} {fd : FuncData} {ps : List Str} {sp : Sp} {E : L2.St → XK} {x m : Str} {p pos : Pos} {e : Expr} {es : List Expr} {t : TA}
theorem goMake {pins : List (Addr × Obj)} {σ : L2.St} {H : Hp} {s : Shared} {Q : VK} {us : List Value} {vs : List V} (M : Mk X.K C f) (F : FnG X.prog X.w X.K X.mg X.base CX k f fd ps sp) (gd : X.A.guards = some []) (hr : Room (k + 1) X.A) (hb : Binds X.K fd ps [])
    (hx : PassesAt CX X σ (E σ)) (I : Inv X pins σ H s) (r : Vals vs us)
    (h : ∀ x dx, H x = none → H dx = none → dx ≠ x → sp (.ref x :: vs) (upd (upd H dx (.own x)) x (.ins C dx [])) (fun v H2 => v = .non ∧ Q (.ref x) H2) (E σ)) :
    wpAny (model X.prog X.w) X.A (call (.ref C) us) (EP X pins σ Q) X.xe s := by
  have hq := h (s.heap.objs.size + 1) s.heap.objs.size (I.hok.fresh (Nat.le_succ _)) (I.hok.fresh (Nat.le_refl _)) (Nat.ne_of_lt (Nat.lt_succ_self _))
  have I2 := Inv.made (C := C) I
  have r2 : Vals (V.ref (s.heap.objs.size + 1) :: vs) (Value.ref (s.heap.objs.size + 1) :: us) := .cons rfl r
  have n := r2.length.symm.trans (F.len _ _ _ _ hq)
  have b := hb { s with heap := (s.heap.push PySem.W.emptyDict).push (PySem.W.instObj C s.heap.objs.size) } (Value.ref (s.heap.objs.size + 1) :: us) I2.kIn (by rw [List.append_nil]; exact n)
  rw [List.append_nil] at b
  apply wpAny_call
  refine make_map (f := f) I.kIn M.makes M.init (beq_iff_eq.mp M.fn) (codeAny_mono (F.go _ (gd_make gd C us) (hr.make C us []) X.stack _ _ (I2.env0.make C us []) ⟨Value.ref (s.heap.objs.size + 1) :: us, []⟩ _ _ _ (E σ) b r2 hq) ?_)
  rintro (er | fl) s' z
  · exact hx pins _ _ er s' I2 z
  · cases fl with
    | ret u =>
      obtain ⟨v, H', I3, rv, ev, q3⟩ := I2.after z
      subst ev
      exact ⟨rv, V.ref (s.heap.objs.size + 1), H', I3, rfl, q3⟩
    | next => exact False.elim z
    | brk => exact False.elim z
    | cont => exact False.elim z
def tMakeV (C : Addr) (sp : Sp) (E : L2.St → XK) (t : TA) : TE := fun σ H Q => t σ H fun vs H1 => ∀ x dx, H1 x = none → H1 dx = none → dx ≠ x → sp (.ref x :: vs) (upd (upd H1 dx (.own x)) x (.ins C dx [])) (fun v H2 => v = .non ∧ Q (.ref x) H2) (E σ)
theorem pe_makeV (M : Mk X.K C f) (F : FnG X.prog X.w X.K X.mg X.base CX k f fd ps sp) (gd : X.A.guards = some []) (hr : Room (k + 1) X.A) (hg : Gl X x) (hm : X.mg x = some (.ref C)) (hb : Binds X.K fd ps []) (hx : ∀ σ, PassesAt CX X σ (E σ))
    (ha : PA X (e :: es) t) (hdb : (x == ("__debug__" : Str)) = false := by decide) (he : starEach (e :: es) X.env = (false, eval e X.env) :: starEach es X.env := by rfl) (hpl : (backTo pos (starEach es X.env)).any (·.1) = false := by rfl) :
    PE X (.Call (.Name x p) (e :: es) [] pos) (tMakeV C sp E t) :=
  ⟨fun pins s σ H Q I h => wpAny_Call_Name_kw (ld_glob I hg hm (PySem.W.callWith_K (h₀ := X.base) I.ok.mod.kin M.kp
    (thn (ha.run pos pins s σ H _ I h) fun us s1 ⟨vs, H1, I1, r, q⟩ => ⟨I1.kIn, goMake M F gd hr hb (hx σ) I1 r q⟩) he hpl) hdb)⟩
end
/-! ### C(..) over plain data -/
def lose (R : Rs) (a : Addr) : Rs := fun b => if b = a then none else R b
/-- a class by its name and its __init__: that lets no exception out; that may raise -/
structure MakD (P : Program) (w : World) (K : KB) (mg : Str → Option Value) (base : Heap) (k : Nat) (x : Str) (C : Addr) (dsp : DSp) : Prop where
  ex : ∃ (f : Addr) (fd : FuncData) (ps : List Str), FnG P w K mg base CX0 k f fd ps (spOf K dsp) ∧ Mk K C f ∧ mg x = some (.ref C) ∧ Binds K fd ps []
structure MakDX (P : Program) (w : World) (K : KB) (mg : Str → Option Value) (base : Heap) (k : Nat) (x : Str) (C : Addr) (dsp : DSp) : Prop where
  ex : ∃ (f : Addr) (fd : FuncData) (ps : List Str), FnG P w K mg base (L2.CX P w) k f fd ps (spOf K dsp) ∧ Mk K C f ∧ mg x = some (.ref C) ∧ Binds K fd ps []
/-- the new instance changes no more -/
def dNewF (C : Addr) (dsp : DSp) (Wd : DWX) (t : DTA) : DTE := fun s R Q => t s R fun ds R1 => ∀ x dx, R1 x = none →
  dsp (.ref x :: ds) (put R1 x (.ins C dx [])) (fun d R2 => d = .non ∧ ∃ dx' fs, R2 x = some (.ins C dx' fs) ∧ Q (.ins C (fs.map (·.1)) (fs.map (·.2))) (lose R2 x)) (fun cls fs R' => Wd cls fs s R')
/-- it may change -/
def dNew (C : Addr) (dsp : DSp) (Wd : DWX) (t : DTA) : DTE := fun s R Q => t s R fun ds R1 => ∀ x dx, R1 x = none →
  dsp (.ref x :: ds) (put R1 x (.ins C dx [])) (fun d R2 => d = .non ∧ Q (.ref x) R2) (fun cls fs R' => Wd cls fs s R')
theorem LE.newT {K : KF} {C : Addr} {dsp : DSp} {W : WX} {Wd : DWX} {t : DTA} {t0 : TA} {G : Hp} {sd : DSt} {s : L2.St} {R : Rs} {H : Hp} {Qn : Addr → DK} {Q : VK} (h : LA K t0 t) (lw : LWX K W Wd) (sv : SV K G sd s) (rh : RepH K G R H)
    (q : t sd R fun ds R1 => ∀ x dx, R1 x = none → dsp (.ref x :: ds) (put R1 x (.ins C dx [])) (fun d R2 => d = .non ∧ Qn x (.ref x) R2) (fun cls fs R' => Wd cls fs sd R'))
    (k : ∀ G' R' H' x, Stp G R H G' R' H' → RepH K G' R' H' → Qn x (.ref x) R' → Q (.ref x) H') : tMakeV C (spOf K.F dsp) (WE W) t0 s H Q :=
  h G sd s R H _ _ sv rh q fun G1 R1 H1 ds vs e1 rh1 dv1 q1 => fun x dx hx hd hne => by
    have S1 : Stp G1 R1 H1 G1 R1 (upd H1 dx (.own x)) := (Stp.refl _ _ _).wr hd
    have rh2 := rh1.hide (o := .own x) (rh1.free hd) (rh1.gfree hd) (K.Φ.st S1 rh1.φ) (K.F.B.st S1 rh1.b)
    have hx2 : upd H1 dx (.own x) x = none := by rw [upd_ne (Ne.symm hne)]; exact hx
    obtain ⟨S2, rh3⟩ := rh2.new (p := x) (o := .ins C dx []) (ro := .ins C dx []) hx2 ⟨[], rfl, .nil⟩
    refine ⟨G1, .ref x :: ds, _, _, _, .cons (.ref x) dv1, rh3.toAll, q1 x dx (rh1.free hx), fun G' R' H' d v e rh' dv ⟨hd', q2⟩ => ?_, fun G' R' H' cls od fs e rh' ex w => ?_⟩
    · subst hd'
      cases dv
      exact ⟨rfl, k G' R' H' x (e1.trans (S1.trans (S2.trans e))) (rh'.ofAll (K.Φ.st (S1.trans (S2.trans e)) rh1.φ)) q2⟩
    · exact lw G' R' H' cls od fs sd s (((sv.st e1).st (S1.trans S2)).st e) (rh'.ofAll (K.Φ.st (S1.trans (S2.trans e)) rh1.φ)) ex w
theorem LE.new {K : KF} {C : Addr} {dsp : DSp} {W : WX} {Wd : DWX} {t : DTA} {t0 : TA} (h : LA K t0 t) (lw : LWX K W Wd) : LE K (tMakeV C (spOf K.F dsp) (WE W) t0) (dNew C dsp Wd t) := fun G sd s R H Qd Q sv rh q k =>
  LE.newT (Qn := fun _ => Qd) h lw sv rh q fun G' R' H' x e rh' q' => k G' R' H' _ _ e rh' (.ref x) q'
section
variable {X : CxF} {k j : Nat} {x : Str} {C : Addr} {dsp : DSp} {Wd : DWX} {p pos : Pos} {e : Expr} {es : List Expr} {t : DTA}
end
end DL
end
section
set_option Elab.async false
set_option maxRecDepth 100000
set_option linter.all false
set_option autoImplicit false
/-! DLH: dicts over plain data -/
namespace DL
open PySem PySem.Spec PyProof.Rows L2
variable [TabCtx]

/-! ### tables of pairs -/
section
variable {κ : Type} [DecidableEq κ]
def valD (kvs : List (κ × D)) (k : κ) : Option D := (kvs.find? fun kv => decide (kv.1 = k)).map (·.2)
def putKD (kvs : List (κ × D)) (k : κ) (v : D) : List (κ × D) :=
  if kvs.any (fun kv => decide (kv.1 = k)) then kvs.map fun kv => if kv.1 = k then (kv.1, v) else kv else kvs ++ [(k, v)]
theorem valD_nil {k : κ} : valD ([] : List (κ × D)) k = none := rfl
theorem valD_cons {p : κ × D} {r : List (κ × D)} {k : κ} : valD (p :: r) k = if p.1 = k then some p.2 else valD r k := by
  unfold valD
  rw [List.find?_cons]
  by_cases e : p.1 = k
  · simp [e]
  · simp [e]
theorem val_dv {K : PySem.W.Frag} {G : Hp} {k : κ} : ∀ {kvs : List (κ × D)} {vs : List V}, DVs K G (kvs.map (·.2)) vs →
    match valD kvs k with
    | some d => ∃ v, valV ((kvs.map (·.1)).zip vs) k = some v ∧ DV K G d v
    | none => valV ((kvs.map (·.1)).zip vs) k = none
  | [], _, _ => valV_nil
  | p :: r, _, .cons (v := v) (vs := vs) h t => by
    rw [valD_cons]
    show match (if p.1 = k then some p.2 else valD r k) with
      | some d => ∃ x, valV ((p.1, v) :: (r.map (·.1)).zip vs) k = some x ∧ DV K G d x
      | none => valV ((p.1, v) :: (r.map (·.1)).zip vs) k = none
    by_cases e : p.1 = k
    · rw [if_pos e, valV_pos (p := (p.1, v)) e]
      exact ⟨v, rfl, h⟩
    · rw [if_neg e, valV_neg (p := (p.1, v)) e]
      exact val_dv t
theorem putKD_new {kvs : List (κ × D)} {k : κ} (v : D) (h : valD kvs k = none) : putKD kvs k v = kvs ++ [(k, v)] := by
  unfold putKD
  have : kvs.any (fun kv => decide (kv.1 = k)) = false := by
    induction kvs with
    | nil => rfl
    | cons p r ih =>
      rw [valD_cons] at h
      by_cases e : p.1 = k
      · rw [if_pos e] at h; cases h
      · rw [if_neg e] at h
        rw [List.any_cons, ih h]
        simp [e]
  rw [this]
  rfl
theorem any_zip {k : κ} : ∀ {kvs : List (κ × D)} {vs : List V}, (kvs.map (·.2)).length = vs.length → (((kvs.map (·.1)).zip vs).any fun kv => decide (kv.1 = k)) = kvs.any fun kv => decide (kv.1 = k)
  | [], _, _ => rfl
  | p :: r, [], h => by simp at h
  | p :: r, v :: vs, h => by
    show (((p.1, v) :: (r.map (·.1)).zip vs).any fun kv => decide (kv.1 = k)) = _
    rw [List.any_cons, List.any_cons, any_zip (by simpa using h)]
theorem repl_dv {K : PySem.W.Frag} {G : Hp} {k : κ} {d : D} {x : V} (hd : DV K G d x) : ∀ {kvs : List (κ × D)} {vs : List V}, DVs K G (kvs.map (·.2)) vs →
    ∃ ws, (((kvs.map (·.1)).zip vs).map fun kv => if kv.1 = k then (kv.1, x) else kv) = ((kvs.map fun kv => if kv.1 = k then (kv.1, d) else kv).map (·.1)).zip ws ∧ DVs K G ((kvs.map fun kv => if kv.1 = k then (kv.1, d) else kv).map (·.2)) ws
  | [], _, .nil => ⟨[], rfl, .nil⟩
  | p :: r, _, .cons (v := v) (vs := vs) h t => by
    obtain ⟨ws, e1, e2⟩ := repl_dv hd t
    show ∃ ws, (((p.1, v) :: (r.map (·.1)).zip vs).map fun kv => if kv.1 = k then (kv.1, x) else kv) = _ ∧ _
    rw [List.map_cons, e1]
    by_cases e : p.1 = k
    · refine ⟨x :: ws, ?_, ?_⟩
      · simp [e]
      · simp [e]; exact .cons hd (by simpa using e2)
    · refine ⟨v :: ws, ?_, ?_⟩
      · simp [e]
      · simp [e]; exact .cons h (by simpa using e2)
theorem zip_snoc {α β : Type} : ∀ {l : List α} {m : List β} {a : α} {b : β}, l.length = m.length → (l ++ [a]).zip (m ++ [b]) = l.zip m ++ [(a, b)]
  | [], [], _, _, _ => rfl
  | x :: l, [], _, _, h => by simp at h
  | [], y :: m, _, _, h => by simp at h
  | x :: l, y :: m, a, b, h => by
    show (x, y) :: (l ++ [a]).zip (m ++ [b]) = (x, y) :: (l.zip m ++ [(a, b)])
    rw [zip_snoc (by simpa using h)]
theorem put_dv {K : PySem.W.Frag} {G : Hp} {k : κ} {d : D} {x : V} (hd : DV K G d x) {kvs : List (κ × D)} {vs : List V} (h : DVs K G (kvs.map (·.2)) vs) :
    ∃ ws, putK ((kvs.map (·.1)).zip vs) k x = ((putKD kvs k d).map (·.1)).zip ws ∧ DVs K G ((putKD kvs k d).map (·.2)) ws := by
  unfold putK putKD
  rw [any_zip h.length]
  split
  · exact repl_dv hd h
  · refine ⟨vs ++ [x], ?_, ?_⟩
    · rw [List.map_append]
      exact (zip_snoc (by rw [← h.length, List.length_map, List.length_map])).symm
    · rw [List.map_append]
      exact h.append (.cons hd .nil)
end
def keyOf : D → Option Key
  | .int i => some (.inl i)
  | .str x => some (.inr x)
  | _ => none
def keysOf : List D → Option (List Key)
  | [] => some []
  | d :: ds => match keyOf d, keysOf ds with
    | some k, some ks => some (k :: ks)
    | _, _ => none
theorem key_dv {K : PySem.W.Frag} {G : Hp} {d : D} {v : V} {k : Key} (h : keyOf d = some k) (dv : DV K G d v) : v = kV k := by
  cases dv <;> first | (cases h; rfl) | cases h
/-- the pairs of a dict whose keys are ints and texts; of one whose keys are tuples of these -/
def dkOf (R : Rs) : D → Option (List (Key × D))
  | .dK ks ds => some (ks.zip ds)
  | .ref a => match R a with
    | some (.dK kvs) => some kvs
    | _ => none
  | _ => none
def dtOf (R : Rs) : D → Option (List (List Key × D))
  | .dT ks ds => some (ks.zip ds)
  | .ref a => match R a with
    | some (.dT kvs) => some kvs
    | _ => none
  | _ => none
theorem zip_fst {α β : Type} : ∀ {l : List α} {m : List β}, l.length = m.length → (l.zip m).map (·.1) = l
  | [], [], _ => rfl
  | x :: l, [], h => by simp at h
  | [], y :: m, h => by simp at h
  | x :: l, y :: m, h => by
    show x :: (l.zip m).map (·.1) = x :: l
    rw [zip_fst (by simpa using h)]
theorem zip_snd {α β : Type} : ∀ {l : List α} {m : List β}, l.length = m.length → (l.zip m).map (·.2) = m
  | [], [], _ => rfl
  | x :: l, [], h => by simp at h
  | [], y :: m, h => by simp at h
  | x :: l, y :: m, h => by
    show y :: (l.zip m).map (·.2) = y :: m
    rw [zip_snd (by simpa using h)]
section
variable {K : KF} {G : Hp} {R : Rs} {H : Hp}
theorem dkOf_ref {a : Addr} {kvs : List (Key × D)} (h : dkOf R (.ref a) = some kvs) : R a = some (.dK kvs) := by
  unfold dkOf at h
  cases e : R a with
  | none => simp [e] at h
  | some o => cases o <;> simp [e] at h; subst h; rfl
theorem dk_dv {d : D} {v : V} {kvs : List (Key × D)} (h : dkOf R d = some kvs) (rh : RepH K G R H) (dv : DV K G d v) : ∃ a vs, v = .ref a ∧ H a = some (.dK ((kvs.map (·.1)).zip vs)) ∧ DVs K G (kvs.map (·.2)) vs := by
  cases dv with
  | dK h1 h2 h3 => cases h; exact ⟨_, _, rfl, by rw [zip_fst h2]; exact rh.g _ _ h1, by rw [zip_snd h2]; exact h3⟩
  | ref a =>
    obtain ⟨_, o, h2, vs, rfl, h3⟩ := rh.r a _ (dkOf_ref h)
    exact ⟨_, _, rfl, h2, h3⟩
  | _ => cases h
end

/-! ### d[k], k in d -/
def dGetK (to ti : DTE) : DTE := fun s R Q => to s R fun o R1 => ti s R1 fun i R2 => ∃ kvs k v, dkOf R2 o = some kvs ∧ keyOf i = some k ∧ valD kvs k = some v ∧ Q v R2
def rdInK (neg : Bool) : DR2 := fun x y R Q => ∃ kvs k, keyOf x = some k ∧ dkOf R y = some kvs ∧ Q (.bl (if neg then !(valD kvs k).isSome else (valD kvs k).isSome)) R
/-- the key a tuple that is written there -/
def dGetT (to : DTE) (t : DTA) : DTE := fun s R Q => to s R fun o R1 => t s R1 fun ds R2 => ds.length ≤ sizeLine ∧ ∃ kvs k v, dtOf R2 o = some kvs ∧ keysOf ds = some k ∧ valD kvs k = some v ∧ Q v R2
def dInT (neg : Bool) (t : DTA) (to : DTE) : DTE := fun s R Q => t s R fun ds R1 => ds.length ≤ sizeLine ∧ to s R1 fun o R2 => ∃ kvs k, dtOf R2 o = some kvs ∧ keysOf ds = some k ∧ Q (.bl (if neg then !(valD kvs k).isSome else (valD kvs k).isSome)) R2
section
variable {X : CxF} {o i : Expr} {es : List Expr} {to ti : DTE} {t : DTA} {pos p2 : Pos}
theorem de_dgetK (hu : X.A.units + 1 < cLine) (ho : DE X o to) (hi : DE X i ti) (hs : NoSl i := by intro _ _; rfl) : DE X (.Subscript o i pos) (dGetK to ti) := by
  obtain ⟨t0, a1, a2⟩ := ho; obtain ⟨t1, b1, b2⟩ := hi
  refine ⟨_, pe_dget hu a1 b1 hs, fun G sd s R H Qd Q sv rh q k => a2 G sd s R H _ _ sv rh q fun G1 R1 H1 d1 v1 e1 rh1 dv1 q1 => b2 G1 sd s R1 H1 _ _ (sv.st e1) rh1 q1 fun G2 R2 H2 d2 v2 e2 rh2 dv2 q2 => ?_⟩
  obtain ⟨kvs, key, v, h1, h2, h3, q3⟩ := q2
  obtain ⟨a, vs, rfl, ha, dvs⟩ := dk_dv h1 rh2 (dv1.st e2)
  have w := val_dv (k := key) dvs
  rw [h3] at w
  obtain ⟨u, w1, w2⟩ := w
  rw [key_dv h2 dv2]
  exact ⟨a, u, rfl, by have := DGet.k (k := key) ha; rw [w1] at this; exact this, k G2 R2 H2 v u (e1.trans e2) rh2 w2 q3⟩
end

/-! ### d[k] = v; {} -/
def rdSetK : DTSet := fun o i v R Q => ∃ l kvs k, o = .ref l ∧ keyOf i = some k ∧ R l = some (.dK kvs) ∧ kvs.length < 1000 ∧ Q (put R l (.dK (putKD kvs k v)))
section
variable {X : CxF} {o i : Expr} {es : List Expr} {to ti : DTE} {t : DTA} {pos p2 : Pos}
theorem dset_dk (hu : X.A.units + 1 < cLine) : DSet X rdSetK := by
  refine ⟨fun o i v H Q => ∃ a H', o = .ref a ∧ DPut H a i v H' ∧ Q H', fun pins s σ H o i v ov iv u Q I ro ri rv h => ?_, fun G R H o i v od idx vd Qd Q rh dvo dvi dvv q k => ?_⟩
  · obtain ⟨a, H', eo, g, q⟩ := h
    subst eo
    obtain rfl : ov = Value.ref a := ro
    exact d_setItem hu I g ri rv fun s4 I4 => ⟨H', I4, q⟩
  · obtain ⟨l, kvs, key, rfl, hk, hR, hl, q⟩ := q
    cases dvo
    obtain ⟨_, u, h2, vs, rfl, h3⟩ := rh.r l _ hR
    obtain ⟨ws, e1, e2⟩ := put_dv (k := key) dvv h3
    rw [key_dv hk dvi]
    obtain ⟨S, rh3⟩ := rh.chg (p := l) (o := .dK (putK ((kvs.map (·.1)).zip vs) key v)) (ro := .dK (putKD kvs key vd)) hR ⟨ws, by rw [e1], e2⟩
    exact ⟨l, _, rfl, DPut.k h2 (Nat.lt_of_le_of_lt (by rw [List.length_zip, List.length_map]; exact Nat.min_le_left _ _) (Nat.lt_trans hl (by decide))), k _ _ _ S rh3 q⟩
def dNewK : DTE := fun _ R Q => ∀ p, R p = none → Q (.ref p) (put R p (.dK []))
/-! ### len(d) -/
end
end DL
end
section
set_option Elab.async false
set_option maxRecDepth 100000
set_option linter.all false
/-! DLK: an own exception class over KeyError: its objects are made by LookupError's __new__ -/
namespace PySem.F
end PySem.F
namespace PySem.LX
open PySem PySem.W PySem.Calls PyProof.Rows PySem.HandSPX
/-- what an own class has among its classes -/
structure Among (bm : List Value) (B : String) : Prop where
  b : bm.contains (.type B) = true
  a : bm.contains (.type "AttributeError") = false
  n : bm.contains (.type "NameError") = false
section
variable {prog : Program} {w : World} {A : Around} {E : Value → Shared → Prop} {R : Result → Shared → Prop} {h : Heap} {g : Array GenState} {d : Drawn} {t : Nat} {os : OsState}
variable {nm q : Str} {C N : Addr} {bs bm bmB : List Value} {hdct : Bool} {sn : List Str} {sub : List Value} {ab : Bool} {col : Option Bool} {dd : Option Addr} {k0 k1 k2 k3 k5 : Option Value} {B newId initId : String}
theorem Among.has (Y : Among bm B) : (Value.ref C :: bm).contains (.type B) = true := by rw [List.contains_cons, Y.b, Bool.or_true]
theorem Among.noN (Y : Among bm B) : (Value.ref C :: bm).contains (.type "NameError") = false := by rw [List.contains_cons, Y.n, Bool.or_false]; rfl
end
end PySem.LX
end
section
set_option Elab.async false
set_option maxRecDepth 100000
set_option linter.all false
set_option autoImplicit false
/-! DLU: a dict comprehension of two clauses, its keys tuples that are written there -/
namespace L2
open PySem PySem.Spec PyProof.Rows

section
variable {prog : Program} {w : World} {A : Around} {R : Result → Shared → Prop} {s : Shared} {kx vx a0 b0 a1 b1 : Expr} {c0 c1 : List Expr} {scope : Scope} {pos : Pos} {it : Value} {D : Addr} {env : Env}
abbrev dc2 (kx vx a0 b0 : Expr) (c0 : List Expr) (a1 b1 : Expr) (c1 : List Expr) (scope : Scope) (pos : Pos) : Expr := .DictComp kx vx [⟨a0, b0, c0, 0⟩, ⟨a1, b1, c1, 0⟩] scope pos
abbrev tests (cs : List Expr) (env : Env) : Sem Bool := forIn cs true fun c r => if r = true then do let ok ← isTrue c env (eval c env); pure (ForInStep.yield ok) else pure (ForInStep.yield r)
abbrev nte (prog : Program) (w : World) (A : Around) (env : Env) (R : Result → Shared → Prop) : Value → Shared → Prop := notedBy (model prog w) A env fun e s' => R (.error e) s'
end
section
variable {X : Cx}
/-- {(..): v for tg in iter if .. for tg1 in iter1 if ..}; vs: the block's names; vs1: those of the second target -/
def tDc2 (wi : TI) (g : TG) (tt : TT) (wi1 : TI) (g1 : TG) (tt1 : TT) (tk tv : TE) (vs vs1 : List Nat) : TE := fun σ H Q => wi σ H fun J H1 => ∀ D, H1 D = none → ∃ W : Nat → Nat → Hp → Prop, (∃ m, W 0 m (upd H1 D (.dT []))) ∧ ∀ i m H, W i m H →
  (J.stop i H ∧ Q (.ref D) H) ∨ (J.go i H ∧ ∃ Nx : Hp → Prop, (∀ H', Nx H' → ∃ m', m' < m ∧ W (i + 1) m' H') ∧ ∀ x H', J.yld i H x H' → g x (wipe σ vs) H' fun σ2 H2 => wipe σ2 vs = wipe σ vs ∧ tt σ2 H2 fun b H3 =>
    if b = true then wi1 σ2 H3 fun J1 H4 => ∃ W1 : Nat → Nat → Hp → Prop, (∃ m, W1 0 m H4) ∧ ∀ j k H, W1 j k H →
      (J1.stop j H ∧ Nx H) ∨ (J1.go j H ∧ ∃ Nx1 : Hp → Prop, (∀ H', Nx1 H' → ∃ k', k' < k ∧ W1 (j + 1) k' H') ∧ ∀ x H', J1.yld j H x H' → g1 x (wipe σ2 vs1) H' fun σ3 H5 => wipe σ3 vs1 = wipe σ2 vs1 ∧ tt1 σ3 H5 fun b H6 =>
        if b = true then tk σ3 H6 fun y H7 => tv σ3 H7 fun z H8 => ∃ kvs key p, y = .ref p ∧ H8 p = some (.tup (key.map kV)) ∧ H8 D = some (.dT kvs) ∧ kvs.length < sizeLine ∧ Nx1 (upd H8 D (.dT (putK kvs key z))) else Nx1 H6)
    else Nx H3)
abbrev AllB (X : Cx) (scope : Scope) (P : Cx → Prop) : Prop := ∀ (s : Shared) (H : Hp) (C : Addr) (cl : List (Str × Addr)) (fp : List Addr), P (X.blk s H scope (compEnvC scope cl C X.env) fp)
end
end L2
end
section
set_option Elab.async false
set_option maxRecDepth 100000
set_option linter.all false
set_option autoImplicit false
/-! DLV: dict comprehensions over plain data -/
namespace DL
open PySem PySem.Spec PyProof.Rows L2
variable [TabCtx]

theorem wipe_wipe {s : L2.St} (vs : List Nat) : wipe (wipe s vs) vs = wipe s vs := by
  have : ∀ us : List Nat, (∀ i ∈ us, i ∈ vs) → wipe (wipe s us) vs = wipe s vs := by
    intro us
    induction us with
    | nil => intro _; rfl
    | cons u us ih =>
      intro hu
      show wipe ((wipe s us).set u none) vs = _
      rw [wipe_set (hu u (by simp)), ih fun i hi => hu i (by simp [hi])]
  exact this vs fun _ h => h
/-! ### one clause, the keys ints and texts -/
def dDcF (wd : DTI) (g : DTG) (tt : DTT) (tk tv : DTE) (vs : List Nat) : DTE := fun s R Q => wd s R fun xs ok R1 => xs.length ≤ 1000 ∧ ∃ Pv : Nat → List (Key × D) → Rs → Prop, Pv 0 [] R1 ∧ (∀ i acc R, i ≤ xs.length → Pv i acc R → ok R) ∧
  (∀ (i : Nat) x acc R, xs[i]? = some x → acc.length ≤ i → Pv i acc R → g x (dwipe s vs) R fun s2 R2 => tt s2 R2 fun b R3 => if b = true then tk s2 R3 fun y R4 => tv s2 R4 fun z R5 => ∃ k, keyOf y = some k ∧ Pv (i + 1) (putKD acc k z) R5 else Pv (i + 1) acc R3) ∧
  ∀ acc R, acc.length ≤ xs.length → Pv xs.length acc R → Q (.dK (acc.map (·.1)) (acc.map (·.2))) R
section
variable {X : CxF} {kx vx tg iter : Expr} {ifs : List Expr} {scope : Scope} {own : List (Str × Nat)} {pos : Pos} {wd : DTI} {g : DTG} {tt : DTT} {tk tv : DTE}
abbrev AllD (X : CxF) (scope : Scope) (P : CxF → Prop) : Prop := ∀ (s : Shared) (H : Hp) (C : Addr) (cl : List (Str × Addr)) (fp : List Addr), P (X.blk s H scope (compEnvC scope cl C X.env) fp)
end

/-! ### two clauses, the key a tuple that is written there -/
def dDc2F (wd : DTI) (g : DTG) (tt : DTT) (wd1 : DTI) (g1 : DTG) (tt1 : DTT) (tk : DTA) (tv : DTE) (vs vs1 : List Nat) : DTE := fun s R Q => wd s R fun xs ok R1 => ∃ Pv : Nat → List (List Key × D) → Rs → Prop, Pv 0 [] R1 ∧ (∀ i acc R, i ≤ xs.length → Pv i acc R → ok R) ∧
  (∀ (i : Nat) x acc R, xs[i]? = some x → Pv i acc R → g x (dwipe s vs) R fun s2 R2 => tt s2 R2 fun b R3 =>
    if b = true then wd1 s2 R3 fun ys ok1 R4 => ∃ Pv1 : Nat → List (List Key × D) → Rs → Prop, Pv1 0 acc R4 ∧ (∀ j acc R, j ≤ ys.length → Pv1 j acc R → ok1 R ∧ acc.length < 1000) ∧
      (∀ (j : Nat) y acc R, ys[j]? = some y → Pv1 j acc R → g1 y (dwipe s2 vs1) R fun s3 R5 => tt1 s3 R5 fun b R6 => if b = true then tk s3 R6 fun ds R7 => ds.length ≤ sizeLine ∧ tv s3 R7 fun z R8 => ∃ k, keysOf ds = some k ∧ Pv1 (j + 1) (putKD acc k z) R8 else Pv1 (j + 1) acc R6) ∧
      ∀ acc R, Pv1 ys.length acc R → Pv (i + 1) acc R
    else Pv (i + 1) acc R3) ∧
  ∀ acc R, Pv xs.length acc R → Q (.dT (acc.map (·.1)) (acc.map (·.2))) R
def cA (K : KF) (td : DTA) : TA := fun s H Q => ∃ G sd R Qd, SV K G sd s ∧ RepH K G R H ∧ td sd R Qd ∧ CBA K G R H Qd Q
theorem LA.c {K : KF} {td : DTA} : LA K (cA K td) td := fun G sd s R H Qd Q sv rh q k => ⟨G, sd, R, Qd, sv, rh, q, k⟩
def cI (K : KF) (wd : DTI) : TI := fun s H Rr => ∃ G sd R Kd, SV K G sd s ∧ RepH K G R H ∧ wd sd R Kd ∧ ∀ G' R' H' J xs ok, Stp G R H G' R' H' → RepH K G' R' H' → Sim K G' J xs ok → Kd xs ok R' → Rr J H'
theorem LI.c {K : KF} {wd : DTI} : LI K (cI K wd) wd := fun G sd s R H Kd Rr sv rh q k => ⟨G, sd, R, Kd, sv, rh, q, k⟩
section
variable {X : CxF} {kx vx tg iter tg1 iter1 : Expr} {es ifs ifs1 : List Expr} {scope : Scope} {own : List (Str × Nat)} {vs1 : List Nat} {pos p2 : Pos} {wd wd1 : DTI} {g g1 : DTG} {tt tt1 : DTT} {tk : DTA} {tv : DTE}
theorem DA.pa {td : DTA} (h : DA X es td) : PA X es (cA X.K td) := by
  obtain ⟨t1, a1, a2⟩ := h
  exact ⟨fun pos pins s σ H Q I ⟨G, sd, R, Qd, sv, rh, q, k⟩ => a1.run pos pins s σ H Q I (a2 G sd σ R H Qd Q sv rh q k)⟩
theorem DI.pi {wd : DTI} (h : DI X tg iter wd) : PI X tg iter (cI X.K wd) := by
  obtain ⟨t1, a1, a2⟩ := h
  exact ⟨fun pins s σ H Q I ⟨G, sd, R, Kd, sv, rh, q, k⟩ => a1.run pins s σ H Q I (a2 G sd σ R H Kd Q sv rh q k)⟩
end
end DL
end
section
set_option Elab.async false
set_option maxRecDepth 100000
set_option linter.all false
set_option autoImplicit false
/-! DLW: enumerate, zip; stars in displays; own in; calls by keywords; more methods of lists -/
namespace PySem
end PySem
namespace L2
open PySem PySem.Spec PyProof.Rows
/-- the tuple at a, each item in a new pair -/
def IteT (K : PySem.W.Frag) (a : Addr) : It :=
  ⟨fun i H => ∃ (xs : List V) (x : V), SqT K H a xs ∧ xs[i]? = some x, fun i H v H' => ∃ T x, v = .ref T ∧ H T = none ∧ H' = upd H T (.tup [.int (i : Nat), x]) ∧ ∀ xs, SqT K H a xs → xs[i]? = some x, fun i H => ∃ xs : List V, SqT K H a xs ∧ xs.length ≤ i⟩
def iEnumT (K : PySem.W.Frag) (ta : TA) : TI := fun σ H R => ta σ H fun vs H1 => ∃ a xs, vs = [.ref a] ∧ SqT K H1 a xs ∧ R (IteT K a) H1
end L2
end
section
set_option Elab.async false
set_option maxRecDepth 100000
set_option linter.all false
set_option autoImplicit false
/-! DLY: what is walked (a list or tuple, enumerate, zip), stars, own in, calls by keywords, over plain data -/
namespace L2
open PySem PySem.Spec PyProof.Rows
section
variable {X : Cx} {tg e : Expr} {te : TE}
def iSeq (K : PySem.W.Frag) (te : TE) : TI := fun σ H R => te σ H fun v H1 => ∃ a, v = .ref a ∧ ((∃ xs, SqL K H1 a xs ∧ R (Itl K a) H1) ∨ ∃ xs, SqT K H1 a xs ∧ R (Itt K a) H1)
def iEnumA (K : PySem.W.Frag) (ta : TA) : TI := fun σ H R => ta σ H fun vs H1 => ∃ a, vs = [.ref a] ∧ ((∃ xs, SqL K H1 a xs ∧ R (Ite K a) H1) ∨ ∃ xs, SqT K H1 a xs ∧ R (IteT K a) H1)
end
end L2
namespace DL
open PySem PySem.Spec PyProof.Rows L2
variable [TabCtx]
/-! ### what is walked -/
def enumD (xs : List D) : List D := xs.mapIdx fun i x => .tup [.int (i : Nat), x]
def dIEnum (te : DTE) : DTI := fun s R Kd => te s R fun d R1 => ∃ xs, seqOf R1 d = some xs ∧ Kd (enumD xs) (fun R' => seqOf R' d = some xs) R1
def zipD (xs ys : List D) : List D := List.zipWith (fun x y => .tup [x, y]) xs ys
def dIZip (ta tb : DTE) : DTI := fun s R Kd => ta s R fun d R1 => tb s R1 fun e R2 => ∃ xs ys, lstOf R2 d = some xs ∧ lstOf R2 e = some ys ∧ Kd (zipD xs ys) (fun R' => lstOf R' d = some xs ∧ lstOf R' e = some ys) R2
section
variable {X : CxF} {tg e e2 : Expr} {te ta tb : DTE} {pos p tpos : Pos} {elts : List Expr} {kk : Nat}
/-! ### stars in displays and calls -/
def dStar (te : DTE) (t : DTA) : DTA := fun s R Q => te s R fun d R1 => ∃ xs, seqOf R1 d = some xs ∧ t s R1 fun ys R2 => Q (xs ++ ys) R2
/-! ### continue -/
def dCont : DTS := fun D s R => D.ct s R
def dBrk : DTS := fun D s R => D.bk s R
end
/-! ### x or y by truth -/
def truD (R : Rs) (d : D) (b : Bool) : Prop := match d with
  | .non => b = false
  | .bl c => b = c
  | .int i => b = (i != 0)
  | .str x => x.length ≤ sizeLine ∧ b = ((x.length : Int) != 0)
  | d => ∃ xs, seqOf R d = some xs ∧ b = !xs.isEmpty
def dOrT (ta tb : DTE) : DTE := fun s R Q => ta s R fun x R1 => ∃ b, truD R1 x b ∧ if b = true then Q x R1 else tb s R1 Q
section
variable {X : CxF} {a b : Expr} {rest : List Expr} {ta tb : DTE} {pos : Pos}
end
end DL
end
section
set_option Elab.async false
set_option maxRecDepth 100000
set_option linter.all false
set_option autoImplicit false
/-! DLZ: own in; calls by keywords; class constants; more methods of lists -/
namespace DL
open PySem PySem.Spec PyProof.Rows L2
variable [TabCtx]
/-! ### x in o by an own __contains__ -/
section
variable {X : Cx} {CX : CXT} {k : Nat} {f C : Addr} {fd : FuncData} {ps : List Str} {sp : Sp}
def rInC (C : Addr) (sp : Sp) (neg : Bool) : R2 := fun x y H Q => ∃ a dx fs, y = .ref a ∧ H a = some (.ins C dx fs) ∧ sp [y, x] H (fun v H2 => ∃ b, v = .bl b ∧ Q (.bl (if neg then !b else b)) H2) (fun _ _ _ => False)
end
def rdInC (C : Addr) (dsp : DSp) (neg : Bool) : DR2 := fun x y R Q => insAt R y C "__contains__" ∧ dsp [y, x] R (fun d R2 => ∃ b, d = .bl b ∧ Q (.bl (if neg then !b else b)) R2) Ed0
section
variable {X : CxF} {C : Addr} {k j : Nat} {dsp : DSp}
end
/-! ### calls by keywords -/
section
variable {X : Cx} {CX : CXT} {k n : Nat} {f : Addr} {fd : FuncData} {ps ks : List Str} {sp : Sp} {E : L2.St → XK} {x : Str} {p pos : Pos} {e : Expr} {es : List Expr} {kws : List Keyword} {t tk : TA} {g : List Value → List Value → List Value} {gV : List V → List V → List V}
def tCallK (n m : Nat) (sp : Sp) (gV : List V → List V → List V) (E : L2.St → XK) (t tk : TA) : TE := fun σ H Q => t σ H fun vs H1 => tk σ H1 fun zs H2 => vs.length = n ∧ zs.length = m ∧ sp (gV vs zs) H2 Q (E σ)
end
/-- a def by its name, called with n values and the keywords ks; gD puts all values in the parameters' order, the defaults among them -/
structure CalK (P : Program) (w : World) (K : KB) (mg : Str → Option Value) (base : Heap) (k : Nat) (x : Str) (n : Nat) (ks : List Str) (gD : List D → List D → List D) (dsp : DSp) : Prop where
  ex : ∃ (f : Addr) (fd : FuncData) (ps : List Str) (g : List Value → List Value → List Value) (gV : List V → List V → List V), FnG P w K mg base (L2.CX P w) k f fd ps (spOf K dsp) ∧ mg x = some (.ref f) ∧ PySem.W.keepIn K (.ref f) = true ∧ KBn K fd ps n ks g gV ∧
    ∀ G ds vs es us, DVs K G ds vs → DVs K G es us → ds.length = n → es.length = ks.length → DVs K G (gD ds es) (gV vs us)
def dCallK (n m : Nat) (gD : List D → List D → List D) (dsp : DSp) (Wd : DWX) (t tk : DTA) : DTE := fun s R Q => t s R fun ds R1 => tk s R1 fun es R2 => ds.length = n ∧ es.length = m ∧ dsp (gD ds es) R2 Q (fun cls fs R' => Wd cls fs s R')
def DKw (X : CxF) (kws : List Keyword) (t : DTA) : Prop := ∃ te, PK X kws te ∧ LA X.K te t
section
variable {X : CxF} {k j n : Nat} {x : Str} {ks : List Str} {gD : List D → List D → List D} {dsp : DSp} {Wd : DWX} {p pos kpos : Pos} {e : Expr} {es : List Expr} {kws : List Keyword} {te : DTE} {t tk : DTA} {nm : Option Str}
end
/-! ### C.f, a constant of a class -/
def dCVal (v : D) (te : DTE) (C : Addr) : DTE := fun s R Q => te s R fun d R1 => d = .ref C ∧ Q v R1
/-! ### methods of lists -/
section
variable {X : CxF}
theorem LRM.chg {K : KF} {r : V → List V → Hp → VK → Prop} {rd : D → List D → Rs → DK → Prop} (h : ∀ G R H x xs d ds Qd Q, RepH K G R H → DV K G d x → DVs K G ds xs → rd d ds R Qd → CB K G R H Qd Q → r x xs H Q) : LRM K r rd := h
end
/-! ### isinstance(x, (T, ..)) of built-in classes -/
def kitBs (S : String) : List String → Option Bool
  | [] => some false
  | c :: cs => match kitB S c with
    | some true => some true
    | some false => kitBs S cs
    | none => none
def rIsiS (K : PySem.W.Frag) : List V → Hp → VK → Prop := fun xs H Q => ∃ (x : V) (tp : Addr) (cs : List String) (t : Value) (b : Bool), xs = [x, .ref tp] ∧ SqT K H tp (cs.map V.ty) ∧ TyX K H x t ∧ PySem.W.kitAny K t (cs.map Value.type) = some b ∧ Q (.bl b) H
end DL
end
section
set_option Elab.async false
set_option maxRecDepth 100000
set_option linter.all false
set_option autoImplicit false
/-! DLQ: data with lists that may change within; dict(pairs), displays of dicts, get; defs with defaults; C() -/
namespace DL
open PySem PySem.Spec PyProof.Rows L2
variable [TabCtx]
/-! ### data as it may be read now -/
mutual
def D.pyR (R : Rs) : D → Option PyData
  | .non => some .none
  | .bl b => some (.bool b)
  | .int i => some (.int i)
  | .str x => some (.str x)
  | .tup xs => (D.pyRs R xs).map .tuple
  | .lst xs => (D.pyRs R xs).map .list
  | .rls xs => (D.pyRs R xs).map .list
  | .ref l => match R l with
    | some (.lst ds) => if D.plains ds = true then some (.list (D.pys ds)) else none
    | _ => none
  | _ => none
def D.pyRs (R : Rs) : List D → Option (List PyData)
  | [] => some []
  | x :: xs => match D.pyR R x, D.pyRs R xs with
    | some p, some ps => some (p :: ps)
    | _, _ => none
end
section
variable {K : KF} {G : Hp} {R : Rs} {H : Hp}
mutual
theorem pyR_dp (rh : RepH K G R H) : ∀ {d : D} {v : V} {p : PyData}, DV K G d v → D.pyR R d = some p → Dp K H v p
  | _, _, _, .non, h => by cases h; exact .non
  | _, _, _, .bl b, h => by cases h; exact .bl b
  | _, _, _, .int i, h => by cases h; exact .int i
  | _, _, _, .str x, h => by cases h; exact .str x
  | _, _, _, .ty _, h => by cases h
  | _, _, _, .tup (ds := ds) h1 h2, h => by
    unfold D.pyR at h
    cases e : D.pyRs R ds with
    | none => rw [e] at h; cases h
    | some ps => rw [e] at h; cases h; exact .tup (SqT.same rh.g h1) (pyRs_dp rh h2 e)
  | _, _, _, .lst (ds := ds) h1 h2, h => by
    unfold D.pyR at h
    cases e : D.pyRs R ds with
    | none => rw [e] at h; cases h
    | some ps => rw [e] at h; cases h; exact .lst (.inl (.inl (rh.g _ _ h1))) (pyRs_dp rh h2 e)
  | _, _, _, .rls (ds := ds) h1 h2, h => by
    unfold D.pyR at h
    cases e : D.pyRs R ds with
    | none => rw [e] at h; cases h
    | some ps => rw [e] at h; cases h; exact .lst (SqL.same rh.g h1) (pyRs_dp rh h2 e)
  | _, _, _, .ref l, h => by
    unfold D.pyR at h
    cases e : R l with
    | none => simp [e] at h
    | some o =>
      cases o with
      | lst ds =>
        simp only [e] at h
        by_cases z : D.plains ds = true
        · rw [if_pos z] at h
          cases h
          obtain ⟨vs, h1, h2⟩ := rh.lst e
          exact .lst (.inl (.inl h1)) (DpAll.same rh.g (h2.dp z))
        · rw [if_neg z] at h; cases h
      | _ => simp [e] at h
  | _, _, _, .ins _ _ _, h => by cases h
  | _, _, _, .dK _ _ _, h => by cases h
  | _, _, _, .dT _ _ _, h => by cases h
  | _, _, _, .lam _ _, h => by cases h
theorem pyRs_dp (rh : RepH K G R H) : ∀ {ds : List D} {vs : List V} {ps : List PyData}, DVs K G ds vs → D.pyRs R ds = some ps → DpAll K H vs ps
  | _, _, _, .nil, h => by cases h; exact .nil
  | _, _, _, .cons (d := d) (ds := ds) a b, h => by
    unfold D.pyRs at h
    cases e1 : D.pyR R d with
    | none => rw [e1] at h; cases h
    | some p =>
      cases e2 : D.pyRs R ds with
      | none => rw [e1, e2] at h; cases h
      | some ps => rw [e1, e2] at h; cases h; exact .cons (pyR_dp rh a e1) (pyRs_dp rh b e2)
end
end
mutual
theorem pyR_plain {R : Rs} : ∀ d : D, d.plain = true → D.pyR R d = some d.py
  | .non, _ => rfl
  | .bl _, _ => rfl
  | .int _, _ => rfl
  | .str _, _ => rfl
  | .ty _, h => by simp [D.plain] at h
  | .ref _, h => by simp [D.plain] at h
  | .tup xs, h => by unfold D.pyR; rw [pyRs_plain xs (by simpa [D.plain] using h)]; rfl
  | .lst xs, h => by unfold D.pyR; rw [pyRs_plain xs (by simpa [D.plain] using h)]; rfl
  | .rls xs, h => by unfold D.pyR; rw [pyRs_plain xs (by simpa [D.plain] using h)]; rfl
  | .ins _ _ _, h => by simp [D.plain] at h
  | .dK _ _, h => by simp [D.plain] at h
  | .dT _ _, h => by simp [D.plain] at h
  | .lam _, h => by simp [D.plain] at h
theorem pyRs_plain {R : Rs} : ∀ ds : List D, D.plains ds = true → D.pyRs R ds = some (D.pys ds)
  | [], _ => rfl
  | d :: ds, h => by
    rw [D.plains, Bool.and_eq_true] at h
    unfold D.pyRs
    rw [pyR_plain d h.1, pyRs_plain ds h.2]
    rfl
end
def rdEqR (neg : Bool) : DR2 := fun x y R Q => ∃ p q, x.pyR R = some p ∧ y.pyR R = some q ∧ SeqAt.shaped p = true ∧ SeqAt.shaped q = true ∧ Q (.bl (if neg then !PyData.eqv p q else PyData.eqv p q)) R
section
variable {X : CxF}
end
/-! ### a pair whose first part is a list that was made: told as one that never changes -/
theorem CB.frz2 {K : KF} {G : Hp} {R : Rs} {H : Hp} {Qd : DK} {Q : VK} (h : CB K G R H Qd Q) : CB K G R H (fun d R' => ∃ l ds o, d = .tup [.ref l, o] ∧ R' l = some (.lst ds) ∧ Qd (.tup [.lst ds, o]) (lose R' l)) Q := fun G' R' H' d v e rh dv ⟨l, ds, o, ed, hl, q⟩ => by
  subst ed
  obtain ⟨vs, h1, h2⟩ := rh.lst hl
  obtain ⟨S, rh2⟩ := rh.freeze hl h1
  cases dv with
  | tup t1 t2 =>
    cases t2 with
    | cons d1 r1 =>
      cases d1
      cases r1 with
      | cons d2 r2 =>
        cases r2
        exact h _ _ H' _ _ (e.trans S) rh2 (.tup (SqT.same S.g t1) (.cons (.lst upd_same (h2.st S)) (.cons (d2.st S) .nil))) q
def frz2 (dsp : DSp) : DSp := fun ds R Q E => dsp ds R (fun d R' => ∃ l xs o, d = .tup [.ref l, o] ∧ R' l = some (.lst xs) ∧ Q (.tup [.lst xs, o]) (lose R' l)) E
theorem FnG.frz2 {P : Program} {w : World} {K : KB} {mg : Str → Option Value} {base : Heap} {CX : CXT} {k : Nat} {f : Addr} {fd : FuncData} {ps : List Str} {dsp : DSp} (F : FnG P w K mg base CX k f fd ps (spOf K dsp)) : FnG P w K mg base CX k f fd ps (spOf K (frz2 dsp)) :=
  F.imp fun vs H Q E ⟨G, ds, R, Qd, Ed, dv, rh, q, cb, cx⟩ => ⟨G, ds, R, _, Ed, dv, rh, q, cb.frz2, cx⟩
/-! ### dict(pairs) -/
def mergeKD (acc more : List (Key × D)) : List (Key × D) := more.foldl (fun a kv => putKD a kv.1 kv.2) acc
theorem merge_dv {K : PySem.W.Frag} {G : Hp} : ∀ {more acc : List (Key × D)} {us vs : List V}, DVs K G (acc.map (·.2)) us → DVs K G (more.map (·.2)) vs →
    ∃ ws, mergeK ((acc.map (·.1)).zip us) ((more.map (·.1)).zip vs) = ((mergeKD acc more).map (·.1)).zip ws ∧ DVs K G ((mergeKD acc more).map (·.2)) ws
  | [], acc, us, _, h, .nil => ⟨us, rfl, h⟩
  | p :: more, acc, us, _, h, .cons (v := v) (vs := vs) h1 h2 => by
    obtain ⟨ws, e1, e2⟩ := put_dv (k := p.1) h1 h
    obtain ⟨zs, e3, e4⟩ := merge_dv e2 h2
    refine ⟨zs, ?_, e4⟩
    show mergeK (putK ((acc.map (·.1)).zip us) p.1 v) ((more.map (·.1)).zip vs) = _
    rw [e1, e3]
    rfl
theorem valD_none {κ : Type} [DecidableEq κ] {acc : List (κ × D)} {k : κ} (h : k ∉ acc.map (·.1)) : valD acc k = none := by
  induction acc with
  | nil => rfl
  | cons p r ih =>
    rw [valD_cons]
    simp only [List.map_cons, List.mem_cons, not_or] at h
    rw [if_neg (Ne.symm h.1), ih h.2]
theorem mergeKD_nodup : ∀ (more acc : List (Key × D)), ((acc ++ more).map (·.1)).Nodup → mergeKD acc more = acc ++ more
  | [], acc, _ => by rw [List.append_nil]; rfl
  | p :: more, acc, h => by
    show mergeKD (putKD acc p.1 p.2) more = _
    have hp : p.1 ∉ acc.map (·.1) := by
      rw [List.map_append, List.nodup_append] at h
      intro z
      exact h.2.2 _ z p.1 (by simp) rfl
    rw [putKD_new _ (valD_none hp), mergeKD_nodup more (acc ++ [(p.1, p.2)]) (by simpa using h)]
    simp
def keyD : Key → D
  | .inl i => .int i
  | .inr x => .str x
theorem keyD_of (k : Key) : keyOf (keyD k) = some k := by cases k <;> rfl
/-! ### displays of dicts -/
def dPairs : List (DTE × DTE) → DSt → Rs → (List (D × D) → Rs → Prop) → Prop
  | [], _, R, Q => Q [] R
  | (tk, tv) :: r, s, R, Q => tk s R fun x R1 => tv s R1 fun y R2 => dPairs r s R2 fun ps R3 => Q ((x, y) :: ps) R3
inductive DPs (X : CxF) (pos : Pos) : List (Option Expr) → List Expr → List (DTE × DTE) → Prop where
  | nil : DPs X pos [] [] []
  | cons {k v : Expr} {ks : List (Option Expr)} {vs : List Expr} {tk tv : DTE} {trs : List (DTE × DTE)} (hk : DE X k tk) (hv : DE X v tv) (hr : DPs X pos ks vs trs) : DPs X pos (some k :: ks) (v :: vs) ((tk, tv) :: trs)
theorem dps_pps {X : CxF} {pos : Pos} {ks : List (Option Expr)} {vs : List Expr} {trs : List (DTE × DTE)} (h : DPs X pos ks vs trs) : ∃ ts, PPs X pos ks vs ts ∧ ∀ G sd s R H (Qd : List (D × D) → Rs → Prop) (Q : List (V × V) → Hp → Prop), SV X.K G sd s → RepH X.K G R H → dPairs trs sd R Qd →
    (∀ G' R' H' ps xs ys, Stp G R H G' R' H' → RepH X.K G' R' H' → DVs X.K G' (ps.map (·.1)) xs → DVs X.K G' (ps.map (·.2)) ys → Qd ps R' → Q (xs.zip ys) H') → tPairs ts s H Q := by
  induction h with
  | nil => exact ⟨[], pps_nil, fun G sd s R H Qd Q sv rh q k => k G R H [] [] [] (Stp.refl _ _ _) rh .nil .nil q⟩
  | cons hk hv hr ih =>
    obtain ⟨tk, a1, a2⟩ := hk
    obtain ⟨tv, b1, b2⟩ := hv
    obtain ⟨ts, c1, c2⟩ := ih
    refine ⟨(tk, tv) :: ts, pps_cons a1 b1 c1, fun G sd s R H Qd Q sv rh q k => a2 G sd s R H _ _ sv rh q fun G1 R1 H1 d1 v1 e1 rh1 dv1 q1 => b2 G1 sd s R1 H1 _ _ (sv.st e1) rh1 q1 fun G2 R2 H2 d2 v2 e2 rh2 dv2 q2 => ?_⟩
    exact c2 G2 sd s R2 H2 _ _ ((sv.st e1).st e2) rh2 q2 fun G3 R3 H3 ps xs ys e3 rh3 dx dy q3 => k G3 R3 H3 ((d1, d2) :: ps) (v1 :: xs) (v2 :: ys) (e1.trans (e2.trans e3)) rh3 (.cons ((dv1.st e2).st e3) dx) (.cons (dv2.st e3) dy) q3
def dDisp (trs : List (DTE × DTE)) : DTE := fun s R Q => dPairs trs s R fun ps R1 => ∃ kvs : List (Key × D), ps = kvs.map (fun p => (keyD p.1, p.2)) ∧ kvs.length ≤ 15 ∧ (kvs.map (·.1)).Nodup ∧ Q (.dK (kvs.map (·.1)) (kvs.map (·.2))) R1
theorem keys_zip {K : PySem.W.Frag} {G : Hp} : ∀ {kvs : List (Key × D)} {xs ys : List V}, DVs K G (kvs.map fun p => keyD p.1) xs → DVs K G (kvs.map (·.2)) ys → xs.zip ys = ((kvs.map (·.1)).zip ys).map fun kv => (kV kv.1, kv.2)
  | [], _, _, .nil, .nil => rfl
  | p :: kvs, _, _, .cons (v := v) h t, .cons (v := u) h' t' => by
    have e := keys_zip t t'
    rw [key_dv (keyD_of p.1) h]
    exact congrArg ((kV p.1, u) :: ·) e
/-! ### d.get(k, x) -/
def dGet2 (td ty tx : DTE) : DTE := fun s R Q => td s R fun o R1 => (∃ l, dkOf R1 o = some l) ∧ ty s R1 fun y R2 => tx s R2 fun z R3 => ∃ kvs k, dkOf R3 o = some kvs ∧ keyOf y = some k ∧ Q ((valD kvs k).getD z) R3
/-! ### a def with defaults -/
section
variable {P : Program} {w : World} {K : KB} {mg : Str → Option Value} {base : Heap}
end
/-! ### C() whose __init__ has defaults for all -/
section
variable {X : Cx} {CX : CXT} {k : Nat} {f C : Addr} {fd : FuncData} {ps : List Str} {sp : Sp} {E : L2.St → XK} {x : Str} {p pos : Pos} {dvs : List V} {ds : List Value}
def tMake0 (C : Addr) (sp : Sp) (E : L2.St → XK) (dvs : List V) : TE := fun σ H Q => ∀ x dx, H x = none → H dx = none → dx ≠ x → sp (.ref x :: dvs) (upd (upd H dx (.own x)) x (.ins C dx [])) (fun v H2 => v = .non ∧ Q (.ref x) H2) (E σ)
end
/-- a class by its name, all of whose __init__'s parameters have defaults dd -/
structure MakDX0 (P : Program) (w : World) (K : KB) (mg : Str → Option Value) (base : Heap) (k : Nat) (x : Str) (C : Addr) (dd : List D) (dsp : DSp) : Prop where
  ex : ∃ (f : Addr) (fd : FuncData) (ps : List Str) (dvs : List V) (ds : List Value), FnG P w K mg base (L2.CX P w) k f fd ps (spOf K dsp) ∧ Mk K C f ∧ mg x = some (.ref C) ∧ Binds K fd ps ds ∧ Vals dvs ds ∧ ∀ G, DVs K G dd dvs
def dNew0F (C : Addr) (dd : List D) (dsp : DSp) (Wd : DWX) : DTE := fun s R Q => ∀ x dx, R x = none →
  dsp (.ref x :: dd) (put R x (.ins C dx [])) (fun d R2 => d = .non ∧ ∃ dx' fs, R2 x = some (.ins C dx' fs) ∧ Q (.ins C (fs.map (·.1)) (fs.map (·.2))) (lose R2 x)) (fun cls fs R' => Wd cls fs s R')
end DL
end
section
set_option Elab.async false
set_option maxRecDepth 100000
set_option linter.all false
set_option autoImplicit false
/-! DLN: x.index(e), x a tuple of texts of the module -/
namespace DL
open PySem PySem.Spec PyProof.Rows L2
variable [TabCtx]
/-- a name of the module that holds a written tuple of texts -/
def GCT (K : PySem.W.Frag) (mg : Str → Option Value) (x : Str) (xs : List Str) : Prop := ∃ (a : Addr) (o : Obj), mg x = some (.ref a) ∧ K.lookup a = some o ∧ o.cls = .type "tuple" ∧ o.dict = none ∧ ∀ H, SqT K H a (xs.map V.str)
def dGIndex (xs : List Str) (t : DTA) : DTE := fun s R Q => t s R fun ds R1 => ∃ y j, ds = [.str y] ∧ xs[j]? = some y ∧ (∀ m, m < j → xs[m]? ≠ some y) ∧ Q (.int (j : Nat)) R1
end DL
end
section
set_option Elab.async false
set_option maxRecDepth 100000
set_option linter.all false
set_option autoImplicit false
/-! DLO: ranges downwards; a def that returns (x, list) told frozen -/
namespace DL
open PySem PySem.Spec PyProof.Rows L2
variable [TabCtx]
/-- range(i, j, -1) -/
def dIRng3 (t : DTA) : DTI := fun s R Kd => t s R fun ds R1 => ∃ i j : Int, ds = [.int i, .int j, .int (-1)] ∧ -(2 ^ 62) ≤ i ∧ i < 2 ^ 62 ∧ -(2 ^ 62) ≤ j ∧ j < 2 ^ 62 ∧ Kd ((List.range (i - j).toNat).map fun k => D.int (i - (k : Nat))) (fun _ => True) R1
theorem CB.frz2b {K : KF} {G : Hp} {R : Rs} {H : Hp} {Qd : DK} {Q : VK} (h : CB K G R H Qd Q) : CB K G R H (fun d R' => ∃ l ds o, d = .tup [o, .ref l] ∧ R' l = some (.lst ds) ∧ Qd (.tup [o, .lst ds]) (lose R' l)) Q := fun G' R' H' d v e rh dv ⟨l, ds, o, ed, hl, q⟩ => by
  subst ed
  obtain ⟨vs, h1, h2⟩ := rh.lst hl
  obtain ⟨S, rh2⟩ := rh.freeze hl h1
  cases dv with
  | tup t1 t2 =>
    cases t2 with
    | cons d1 r1 =>
      cases r1 with
      | cons d2 r2 =>
        cases d2
        cases r2
        exact h _ _ H' _ _ (e.trans S) rh2 (.tup (SqT.same S.g t1) (.cons (d1.st S) (.cons (.lst upd_same (h2.st S)) .nil))) q
/-- a def that returns (x, new list): told frozen -/
def frz2b (dsp : DSp) : DSp := fun ds R Q E => dsp ds R (fun d R' => ∃ l xs o, d = .tup [o, .ref l] ∧ R' l = some (.lst xs) ∧ Q (.tup [o, .lst xs]) (lose R' l)) E
theorem FnG.frz2b {P : Program} {w : World} {K : KB} {mg : Str → Option Value} {base : Heap} {CX : CXT} {k : Nat} {f : Addr} {fd : FuncData} {ps : List Str} {dsp : DSp} (F : FnG P w K mg base CX k f fd ps (spOf K dsp)) : FnG P w K mg base CX k f fd ps (spOf K (frz2b dsp)) :=
  F.imp fun vs H Q E ⟨G, ds, R, Qd, Ed, dv, rh, q, cb, cx⟩ => ⟨G, ds, R, _, Ed, dv, rh, q, cb.frz2b, cx⟩
end DL
end
section
set_option Elab.async false
set_option maxRecDepth 100000
set_option linter.all false
set_option autoImplicit false
/-! DLM: what a def returns, told frozen (lists at any depth) -/
namespace DL
open PySem PySem.Spec PyProof.Rows L2
variable [TabCtx]
mutual
/-- d' is d with some of its lists, which stand in R, told as ones that change no more -/
inductive Fz : D → Rs → D → Rs → Prop
  | same (d : D) (R : Rs) : Fz d R d R
  | ref {l : Addr} {ds ds' : List D} {R R' : Rs} : Fzs ds R ds' R' → R l = some (.lst ds) → R' l = some (.lst ds) → Fz (.ref l) R (.lst ds') (lose R' l)
  | tup {ds ds' : List D} {R R' : Rs} : Fzs ds R ds' R' → Fz (.tup ds) R (.tup ds') R'
  | lst {ds ds' : List D} {R R' : Rs} : Fzs ds R ds' R' → Fz (.lst ds) R (.lst ds') R'
  | dK {ks : List Key} {ds ds' : List D} {R R' : Rs} : Fzs ds R ds' R' → Fz (.dK ks ds) R (.dK ks ds') R'
inductive Fzs : List D → Rs → List D → Rs → Prop
  | nil (R : Rs) : Fzs [] R [] R
  | cons {d d' : D} {ds ds' : List D} {R R1 R2 : Rs} : Fz d R d' R1 → Fzs ds R1 ds' R2 → Fzs (d :: ds) R (d' :: ds') R2
end
theorem Fzs.len : ∀ {ds ds' : List D} {R R' : Rs}, Fzs ds R ds' R' → ds.length = ds'.length
  | _, _, _, _, .nil _ => rfl
  | _, _, _, _, .cons _ h => congrArg Nat.succ h.len
section
variable {K : KF} {H : Hp}
mutual
theorem Fz.dv : ∀ {d d' : D} {R R' : Rs}, Fz d R d' R' → ∀ {G : Hp} {v : V}, RepH K G R H → DV K G d v → ∃ G', Stp G R H G' R' H ∧ RepH K G' R' H ∧ DV K G' d' v
  | _, _, _, _, .same d R, G, v, rh, dv => ⟨G, Stp.refl _ _ _, rh, dv⟩
  | _, _, _, _, .ref (l := l) (ds := ds) f e e', G, v, rh, dv => by
    cases dv
    obtain ⟨vs, h1, h2⟩ := rh.lst e
    obtain ⟨G1, S1, rh1, dv1⟩ := Fzs.dv f rh h2
    obtain ⟨S2, rh2⟩ := rh1.freeze e' h1
    exact ⟨_, S1.trans S2, rh2, .lst upd_same (dv1.st S2)⟩
  | _, _, _, _, .tup f, G, v, rh, dv => by
    cases dv with
    | tup t1 t2 =>
      obtain ⟨G1, S1, rh1, dv1⟩ := Fzs.dv f rh t2
      exact ⟨G1, S1, rh1, .tup (SqT.same S1.g t1) dv1⟩
  | _, _, _, _, .lst f, G, v, rh, dv => by
    cases dv with
    | lst t1 t2 =>
      obtain ⟨G1, S1, rh1, dv1⟩ := Fzs.dv f rh t2
      exact ⟨G1, S1, rh1, .lst (S1.g _ _ t1) dv1⟩
  | _, _, _, _, .dK f, G, v, rh, dv => by
    cases dv with
    | dK t1 t2 t3 =>
      obtain ⟨G1, S1, rh1, dv1⟩ := Fzs.dv f rh t3
      exact ⟨G1, S1, rh1, .dK (S1.g _ _ t1) (t2.trans f.len) dv1⟩
theorem Fzs.dv : ∀ {ds ds' : List D} {R R' : Rs}, Fzs ds R ds' R' → ∀ {G : Hp} {vs : List V}, RepH K G R H → DVs K G ds vs → ∃ G', Stp G R H G' R' H ∧ RepH K G' R' H ∧ DVs K G' ds' vs
  | _, _, _, _, .nil R, G, vs, rh, dv => by
    cases dv
    exact ⟨G, Stp.refl _ _ _, rh, .nil⟩
  | _, _, _, _, .cons a b, G, vs, rh, dv => by
    cases dv with
    | cons d1 d2 =>
      obtain ⟨G1, S1, rh1, dv1⟩ := Fz.dv a rh d1
      obtain ⟨G2, S2, rh2, dv2⟩ := Fzs.dv b rh1 (d2.st S1)
      exact ⟨G2, S1.trans S2, rh2, .cons (dv1.st S2) dv2⟩
end
end
theorem CB.frz {K : KF} {G : Hp} {R : Rs} {H : Hp} {Qd : DK} {Q : VK} (h : CB K G R H Qd Q) : CB K G R H (fun d R' => ∃ d' R'', Fz d R' d' R'' ∧ Qd d' R'') Q := fun G' R' H' d v e rh dv ⟨d', R'', f, q⟩ => by
  obtain ⟨G1, S, rh1, dv1⟩ := f.dv rh dv
  exact h _ _ H' _ _ (e.trans S) rh1 dv1 q
/-- what a def returns, told frozen -/
def frz (dsp : DSp) : DSp := fun ds R Q E => dsp ds R (fun d R' => ∃ d' R'', Fz d R' d' R'' ∧ Q d' R'') E
theorem FnG.frz {P : Program} {w : World} {K : KB} {mg : Str → Option Value} {base : Heap} {CX : CXT} {k : Nat} {f : Addr} {fd : FuncData} {ps : List Str} {dsp : DSp} (F : FnG P w K mg base CX k f fd ps (spOf K dsp)) : FnG P w K mg base CX k f fd ps (spOf K (frz dsp)) :=
  F.imp fun vs H Q E ⟨G, ds, R, Qd, Ed, dv, rh, q, cb, cx⟩ => ⟨G, ds, R, _, Ed, dv, rh, q, cb.frz, cx⟩
theorem Fzs.same : ∀ (ds : List D) (R : Rs), Fzs ds R ds R
  | [], R => .nil R
  | d :: ds, R => .cons (.same d R) (Fzs.same ds R)
end DL
end
section
set_option Elab.async false
set_option maxRecDepth 100000
set_option linter.all false
set_option autoImplicit false
/-! DLP: == and len by own methods -/
namespace DL
open PySem PySem.Spec PyProof.Rows L2
variable [TabCtx]
/-! ### x == y by an own __eq__ -/
section
variable {X : Cx} {CX : CXT} {k : Nat} {f C : Addr} {fd : FuncData} {ps : List Str} {sp : Sp}
def rEqC (C : Addr) (sp : Sp) : R2 := fun x y H Q => ∃ a dx fs b dy gs, x = .ref a ∧ H a = some (.ins C dx fs) ∧ y = .ref b ∧ H b = some (.ins C dy gs) ∧ sp [x, y] H (fun v H2 => ∃ b, v = .bl b ∧ Q (.bl b) H2) (fun _ _ _ => False)
end
def rdEqC (C : Addr) (dsp : DSp) : DR2 := fun x y R Q => insAt R x C "__eq__" ∧ insAt R y C "__eq__" ∧ dsp [x, y] R (fun d R2 => ∃ b, d = .bl b ∧ Q (.bl b) R2) Ed0
section
variable {X : CxF} {C : Addr} {k j : Nat} {dsp : DSp}
end
/-! ### len(x) by an own __len__ -/
section
variable {X : Cx} {k : Nat} {f C : Addr} {fd : FuncData} {ps : List Str} {sp : Sp}
def rLenC (C : Addr) (sp : Sp) : List V → Hp → VK → Prop := fun xs H Q => ∃ a dx fs, xs = [.ref a] ∧ H a = some (.ins C dx fs) ∧ sp xs H (fun v H2 => ∃ n : Nat, v = .int n ∧ n < 2 ^ 62 ∧ Q (.int n) H2) (fun _ _ _ => False)
end
def rdLenC (C : Addr) (dsp : DSp) : D → Rs → DK → Prop := fun d R Q => insAt R d C "__len__" ∧ dsp [d] R (fun v R2 => ∃ n : Nat, v = .int n ∧ n < 2 ^ 62 ∧ Q (.int n) R2) Ed0
section
variable {X : CxF} {C : Addr} {k j : Nat} {dsp : DSp}
end
/-! ### a method with a rest: def m(self, *rest) -/
/-- what a def with a rest promises, told of all its arguments -/
structure FnSt (P : Program) (w : World) (K : PySem.W.Frag) (mg : Str → Option Value) (base : Heap) (CX : CXT) (k : Nat) (f : Addr) (sp : Sp) : Prop where
  go : ∀ (A : Around), A.guards = some [] → Room k A → ∀ (outer : List Env) (s : Shared) (H : Hp), Env0 P w K mg base A outer s H →
    ∀ (us : List Value) (vs : List V) (Q : VK) (E : XK), Vals vs us → sp vs H Q E → codeAny (model P w) A (.call (.ref f) ⟨us, []⟩) (CR CX outer P w H s Q E) s
def starD (n : Nat) (dsp : DSp) : DSp := fun ds R Q E => ∃ ws rest, ds = ws ++ rest ∧ ws.length = n ∧ rest.length ≤ sizeLine ∧ dsp (ws ++ [.tup rest]) R Q E
theorem dvs_split {K : PySem.W.Frag} {G : Hp} : ∀ {ws rest : List D} {vs : List V}, DVs K G (ws ++ rest) vs → ∃ v1 v2, vs = v1 ++ v2 ∧ DVs K G ws v1 ∧ DVs K G rest v2
  | [], _, vs, h => ⟨[], vs, rfl, .nil, h⟩
  | w :: ws, rest, vs, h => by
    cases h with
    | cons a b =>
      obtain ⟨v1, v2, e, h1, h2⟩ := dvs_split b
      subst e
      exact ⟨_, v2, rfl, .cons a h1, h2⟩
section
variable {P : Program} {w : World} {K : KB} {mg : Str → Option Value} {base : Heap}
theorem okXS {x qual pv : Str} {st : Stmt} {f : Addr} {fd : FuncData} {N ps : List Str} {k : Nat} {dsp : DSp} (F : Fun K x qual st f fd) (S : FnScope N (ps ++ [pv]) (defScope st))
    (hb : ∀ (kV doc pm : Value) (an : Option Addr) (cdv ct : Value) (us rest : List Value), us.length = ps.length → bindArgs (PySem.W.fnOf x qual (defArgs st) (defBody st) (defScope st) .none kV doc pm an cdv ct) ⟨us ++ rest, []⟩ = (newTuple rest >>= fun t => pure (ps.zip us ++ [(pv, t)])))
    (hbody : ∀ {Φ : Phi} (cdv : Value) (A : Around) (outer : List Env) (s : Shared) (H : Hp) (E : XK) (Ed : DXK), A.guards = some [] → Room k (A.deeper (envOfC qual (defScope st) s.heap.objs.size f cdv)) →
      TakesD ⟨cxOf (L2.CX P w) P w K mg base N qual (defScope st) f cdv A outer s H E, Φ, K.B⟩ (fun cls fs _ R => FinX Ed cls fs R) →
      ∃ t, DSs ⟨cxOf (L2.CX P w) P w K mg base N qual (defScope st) f cdv A outer s H E, Φ, K.B⟩ (defBody st) t ∧ ∀ ds R Qd, dsp ds R Qd Ed → t { nx := fun _ R' => Fin Qd .non R', rt := Fin Qd } (dstart N ds) R) : FnSt P w K mg base (L2.CX P w) (k + 1) f (spOf K (starD ps.length dsp)) := by
  obtain ⟨oc, od, kV, doc, pm, an, cdv, ct, osl, rfl, lk, cd⟩ := F.ex
  refine ⟨fun A gd hr outer s H e0 us vs Q E r hsp => ?_⟩
  obtain ⟨G, ds, R, Qd, Ed, dv, rh, ⟨ws, rest, eds, hl, hz, q⟩, cb, cx⟩ := hsp
  subst eds
  obtain ⟨vw, vr, ev, dw, dr⟩ := dvs_split dv
  subst ev
  obtain ⟨u1, u2, eu, r1, r2⟩ := StX.vals_split r
  subst eu
  have hn : H s.heap.objs.size = Option.none := e0.hok.fresh (Nat.le_refl _)
  have hl0 : vw.length = ps.length := by rw [← dw.length]; exact hl
  have hl1 : u1.length = ps.length := by rw [← r1.length]; exact hl0
  have hzv : vr.length ≤ sizeLine := by rw [← dr.length]; exact hz
  have hl2 : u2.length ≤ sizeLine := by rw [← r2.length]; exact hzv
  refine StX.run_bnd lk cd S hr e0 (G := fun xs H2 => ∃ p, H p = Option.none ∧ xs = vw ++ [V.ref p] ∧ H2 = upd H p (.tup vr)) (fun A' Ex Q' h => ?_) fun s2 H2 xs ⟨p, hp, ex, eH⟩ hr' => ?_
  · rw [hb kV doc pm an cdv ct u1 u2 hl1]
    refine wpAny_bind (wpAny_newTuple (wpAny_pure ?_) hl2)
    have new : ObjOk P w (upd H s.heap.objs.size (.tup vr)) (s.heap.push ({ cls := .type "tuple", data := .seq u2.toArray } : Obj)) s.heap.objs.size (.tup vr) := ⟨hzv, u2, r2, ⟨_, Heap.get?_push_size _ rfl, rfl, _, rfl⟩⟩
    have un := StX.un_laid (fs := frs outer) (s := s) (o := ({ cls := .type "tuple", data := .seq u2.toArray } : Obj)) (u := .tup vr) hn
    have z := h _ _ (vw ++ [V.ref s.heap.objs.size]) (u1 ++ [Value.ref s.heap.objs.size]) (StX.env0_laid e0 new) un rfl (fun e s' => StX.cxUp outer s H _ _ E e s' un (fun b o q => Heap.get?_push_of_some _ q) rfl) (r1.append (.cons rfl .nil))
      (by rw [List.length_append, List.length_append, hl0] <;> rfl) ⟨_, hn, rfl, rfl⟩
    rw [List.zip_append hl1.symm] at z
    exact z
  · subst ex eH
    obtain ⟨s1, rh1⟩ := rh.imm (o := .tup vr) hp
    have dv1 := (dw.st s1).append (DVs.cons (.tup (.inl (.inl upd_same)) (dr.st s1)) .nil)
    have cb1 := cb.st s1
    have cx1 := cx.st s1
    have tk : TakesD ⟨cxOf (L2.CX P w) P w K mg base N qual (defScope st) f cdv A outer s2 (upd H p (.tup vr)) E, Phi.of (upd G p (.tup vr)) R (upd H p (.tup vr)), K.B⟩ (fun cls fs _ R => FinX Ed cls fs R) :=
      ⟨fun cls d _ H => E cls d H, takes_of rfl rfl rfl rfl, fun G' R' H' cls od fs sd σ sv rh' ex ⟨R2, s2, q2⟩ => cx1 G' R2 H' cls od fs (Stp.drop rh'.φ s2) (rh'.sub0 s2).toAll (ex.drop s2) q2⟩
    obtain ⟨t, ⟨t0, a1, a2⟩, hh⟩ := hbody cdv A outer s2 (upd H p (.tup vr)) E Ed gd hr' tk
    have cb' := (cb1.fin).ofAll (Φ := Phi.of (upd G p (.tup vr)) R (upd H p (.tup vr)))
    exact ⟨t0, a1, a2 _ _ _ R _ _ _ (SV.start dv1) (rh1.ofAll (Stp.refl _ R _)) (hh _ R Qd q) ⟨fun G' sd s R' H' e sv rh' q => cb' G' R' H' _ _ e rh' .non q, fun G' R' H' d v e rh' dv' q => cb' G' R' H' d v e rh' dv' q, fun _ _ _ _ _ _ _ _ q => q.elim, fun _ _ _ _ _ _ _ _ q => q.elim⟩⟩
end
section
variable {X : Cx} {CX : CXT} {k : Nat} {f C : Addr} {sp : Sp} {E : L2.St → XK} {x m : Str} {p pos apos : Pos} {e o : Expr} {es : List Expr} {ta : TE} {t : TA}
theorem goSt {pins : List (Addr × Obj)} {σ : L2.St} {H : Hp} {s : Shared} {Q : VK} {us : List Value} {vs : List V} (F : FnSt X.prog X.w X.K X.mg X.base CX k f sp) (hgd : X.A.guards = some []) (room : Room k X.A) (ps' : PassesAt CX X σ (E σ))
    (I : Inv X pins σ H s) (rv : Vals vs us) (q : sp vs H Q (E σ)) : wpAny (model X.prog X.w) X.A (call (.ref f) us) (EP X pins σ Q) X.xe s := by
  apply wpAny_call
  apply codeAny_mono (F.go X.A hgd room X.stack s H I.env0 us vs Q (E σ) rv q)
  rintro (er | fl) s' z
  · exact ps' pins H s er s' I z
  · cases fl <;> first | exact False.elim z | exact I.after z
end
/-- a method with a rest, by its name, that may raise -/
structure MetS (P : Program) (w : World) (K : KB) (mg : Str → Option Value) (base : Heap) (k : Nat) (C : Addr) (m : Str) (dsp : DSp) : Prop where
  ex : ∃ f : Addr, FnSt P w K mg base (L2.CX P w) k f (spOf K dsp) ∧ Cls K C ∧ Meth K C m f
section
variable {X : CxF} {k j : Nat} {C : Addr} {m : Str} {dsp : DSp} {Wd : DWX} {apos pos : Pos} {o e : Expr} {es : List Expr} {to : DTE} {t : DTA}
end
/-! ### repr of bigger data -/
section
variable {h w : Nat} {d : D} {R : Rs} {Q : DK}
end
/-! ### isinstance of an own class -/
structure OwnC (K : PySem.W.Frag) (C : Addr) : Prop where
  cl : Cls K C
  ha : PySem.W.findIn K (.ref C) "__class__" = some (some (.builtin "object.__class__"))
  hn : PySem.W.specialIn K (.builtin "object.__class__") "__get__" = some (some (.builtin "getset_descriptor.__get__"))
  htk : PySem.W.takesIn K (.builtin "object.__class__") = some true
  hm : PySem.W.mroIn K C (.type "object") = some true
  ko : PySem.W.kitOne K (.ref C) (.ref C) = some true
end DL
end
section
set_option Elab.async false
set_option maxRecDepth 100000
set_option linter.all false
set_option autoImplicit false
/-! DLJb: str(x) by an own __str__ -/
namespace DL
open PySem PySem.Spec PyProof.Rows L2
variable [TabCtx]
section
variable {X : Cx} {k : Nat} {f C : Addr} {fd : FuncData} {ps : List Str} {sp : Sp}
def rStrC (C : Addr) (sp : Sp) : List V → Hp → VK → Prop := fun xs H Q => ∃ a dx fs, xs = [.ref a] ∧ H a = some (.ins C dx fs) ∧ sp xs H (fun v H2 => ∃ t : Str, v = .str t ∧ Q (.str t) H2) (fun _ _ _ => False)
end
def rdStrC (C : Addr) (dsp : DSp) : D → Rs → DK → Prop := fun d R Q => insAt R d C "__str__" ∧ dsp [d] R (fun v R2 => ∃ t : Str, v = .str t ∧ Q (.str t) R2) Ed0
section
variable {X : CxF} {C : Addr} {k j : Nat} {dsp : DSp}
end
/-! ### xs += ys, xs a local name -/
section
variable {X : CxF} {i : Nat} {x : Str} {e : Expr} {te : DTE} {pos pos' : Pos}
def dAugX (i : Nat) (te : DTE) : DTS := fun D s R => ∃ l, s[i]? = some (some (.ref l)) ∧ te s R fun y R1 => ∃ xs zs, y = .lst zs ∧ R1 l = some (.lst xs) ∧ xs.length + zs.length ≤ sizeLine ∧ D.nx s (put R1 l (.lst (xs ++ zs)))
end
end DL
end
section
set_option Elab.async false
set_option maxRecDepth 100000
set_option maxHeartbeats 4000000
set_option linter.all false
set_option autoImplicit false
/-! DLJc: split, partition, a, b, *c = list, classmethods, a class held by a local name -/
namespace DL
open PySem PySem.Spec PyProof.Rows L2
variable [TabCtx]
/-! ### texts -/
section
variable {X : CxF}
end
/-! ### in: an int in a tuple or list of ints -/
theorem DVs.intsV {K : PySem.W.Frag} {G : Hp} : ∀ {ks : List Int} {vs : List V}, DVs K G (ks.map D.int) vs → vs = ks.map V.int
  | [], _, h => by cases h; rfl
  | k :: ks, _, h => by
    cases h with
    | cons a b =>
      cases a
      rw [DVs.intsV b]
      rfl
theorem inV_int (a : Int) (xs : List Int) : inV (.int a) (xs.map V.int) = decide (a ∈ xs) := by
  unfold inV
  induction xs with
  | nil => rfl
  | cons x xs ih =>
    rw [List.map_cons, List.any_cons, ih]
    by_cases h : x = a
    · subst h; simp [eqV]
    · have h2 : ¬ a = x := fun e => h e.symm
      simp [eqV, h, h2]
theorem flat_ints (xs : List Int) : (xs.map V.int).all flatV = true := by
  induction xs with
  | nil => rfl
  | cons x xs ih => rw [List.map_cons, List.all_cons, ih]; rfl
def rdInI (neg : Bool) : DR2 := fun x y R Q => ∃ (a : Int) (xs : List Int), x = .int a ∧ seqOf R y = some (xs.map D.int) ∧ Q (.bl (if neg then !decide (a ∈ xs) else decide (a ∈ xs))) R
theorem od_inI {X : CxF} : OpD X (compareOp .In) (rdInI false) := ⟨_, op_in_seq, fun G R H x y xd yd Qd Q rh dx dy ⟨a, xs, hx, hy, q⟩ k => by
  subst hx; cases dx
  obtain ⟨p, vs, rfl, hs, d2⟩ := seq_dv hy rh dy
  rw [d2.intsV] at hs
  exact ⟨p, _, rfl, hs, rfl, flat_ints xs, by rw [inV_int]; exact k G R H _ _ (Stp.refl _ _ _) rh (.bl _) q⟩⟩
/-! ### a, b, *c = a list -/
section
variable {P : Program} {w : World} {A : Around} {E : Value → Shared → Prop} {s : Shared}
end
def gStarL (K : PySem.W.Frag) (n : Nat) (t : TGs) : TG := fun v σ H Q => ∃ a xs ys, v = .ref a ∧ SqL K H a (xs ++ ys) ∧ xs.length = n ∧ n + ys.length ≤ 16000 ∧ ∀ p, H p = none → t (xs ++ [.ref p]) σ (upd H p (.lst ys)) Q
section
variable {X : CxF} {es : List Expr} {pos : Pos} {k n : Nat}
def dgStarL (n : Nat) (t : DTGs) : DTG := fun d s R Q => ∃ xs ys, d = .lst (xs ++ ys) ∧ xs.length = n ∧ n + ys.length ≤ 16000 ∧ t (xs ++ [.lst ys]) s R Q
end
/-! ### C(..), the class held by a local name -/
section
variable {X : Cx} {CX : CXT} {C f : Addr} {fd : FuncData} {ps : List Str} {k i : Nat} {sp : Sp} {E : L2.St → XK} {x : Str} {p pos : Pos} {e : Expr} {es : List Expr} {t : TA}
def tMakeL (i : Nat) (C : Addr) (sp : Sp) (E : L2.St → XK) (t : TA) : TE := fun σ H Q => σ[i]? = some (some (V.ref C)) ∧ tMakeV C sp E t σ H Q
end
def dNewL (i : Nat) (C : Addr) (dsp : DSp) (Wd : DWX) (t : DTA) : DTE := fun s R Q => s[i]? = some (some (.ref C)) ∧ dNewF C dsp Wd t s R Q
section
variable {X : CxF} {k j : Nat} {x y : Str} {C : Addr} {dsp : DSp} {Wd : DWX} {p pos : Pos} {e : Expr} {es : List Expr} {t : DTA}
end
/-! ### C.m(..), m a classmethod -/
section
variable {X : Cx} {CX : CXT} {E : L2.St → XK} {k : Nat} {C p g : Addr} {mc : Value} {fd : FuncData} {ps : List Str} {sp : Sp} {o e : Expr} {es : List Expr} {m : Str} {pos apos : Pos} {ta : TE} {t : TA} {pl : Sem Bool}
def tCMethG (C : Addr) (sp : Sp) (E : L2.St → XK) (ta : TE) (t : TA) : TE := fun σ H Q => ta σ H fun x H1 => x = .ref C ∧ t σ H1 fun vs H2 => sp (.ref C :: vs) H2 Q (E σ)
end
structure CMetX (P : Program) (w : World) (K : KB) (mg : Str → Option Value) (base : Heap) (k : Nat) (C : Addr) (m : Str) (dsp : DSp) : Prop where
  ex : ∃ (p g : Addr) (mc : Value) (fd : FuncData) (ps : List Str), FnG P w K mg base (L2.CX P w) k g fd ps (spOf K dsp) ∧ ClX.CRead K C mc ∧ ClX.CMet K C mc m p g ∧ Binds K fd ps []
def dCMeth (C : Addr) (dsp : DSp) (Wd : DWX) (to : DTE) (t : DTA) : DTE := fun s R Q => to s R fun x R1 => x = .ref C ∧ t s R1 fun ds R2 => dsp (.ref C :: ds) R2 Q (fun cls fs R' => Wd cls fs s R')
section
variable {X : CxF} {Wd : DWX} {k j : Nat} {C : Addr} {dsp : DSp} {o e : Expr} {es : List Expr} {m : Str} {pos apos : Pos} {to : DTE} {t : DTA} {pl : Sem Bool}
end
/-! ### C.m(x=..), m a classmethod, keywords alone -/
section
variable {X : Cx} {CX : CXT} {E : L2.St → XK} {k : Nat} {C p g : Addr} {mc : Value} {fd : FuncData} {ps ks : List Str} {sp : Sp} {o : Expr} {kws : List Keyword} {m : Str} {pos apos : Pos} {ta : TE} {tk : TA} {pl : Sem Bool} {gu : List Value → List Value → List Value} {gV : List V → List V → List V}
def tCMethK (C : Addr) (m : Nat) (sp : Sp) (gV : List V → List V → List V) (E : L2.St → XK) (ta : TE) (tk : TA) : TE := fun σ H Q => ta σ H fun x H1 => x = .ref C ∧ tk σ H1 fun zs H2 => zs.length = m ∧ sp (gV [.ref C] zs) H2 Q (E σ)
end
structure CMetK (P : Program) (w : World) (K : KB) (mg : Str → Option Value) (base : Heap) (k : Nat) (C : Addr) (m : Str) (ks : List Str) (dsp : DSp) : Prop where
  ex : ∃ (p g : Addr) (mc : Value) (fd : FuncData) (ps : List Str) (gu : List Value → List Value → List Value), FnG P w K mg base (L2.CX P w) k g fd ps (spOf K dsp) ∧ ClX.CRead K C mc ∧ ClX.CMet K C mc m p g ∧ KBn K fd ps 1 ks gu (fun vs zs => vs ++ zs)
def dCMethK (C : Addr) (n : Nat) (dsp : DSp) (Wd : DWX) (to : DTE) (t : DTA) : DTE := fun s R Q => to s R fun x R1 => x = .ref C ∧ t s R1 fun ds R2 => ds.length = n ∧ dsp (.ref C :: ds) R2 Q (fun cls fs R' => Wd cls fs s R')
section
variable {X : CxF} {Wd : DWX} {k j : Nat} {C : Addr} {dsp : DSp} {o : Expr} {kws : List Keyword} {ks : List Str} {m : Str} {pos apos : Pos} {to : DTE} {t : DTA} {pl : Sem Bool}
end
end DL
end
section
set_option Elab.async false
set_option maxRecDepth 100000
set_option maxHeartbeats 4000000
set_option linter.all false
set_option autoImplicit false
/-! DLJd: lambdas that capture -/
namespace DL
open PySem PySem.Spec PyProof.Rows L2 LamX NdefX
variable [TabCtx]
theorem SV.app {K : PySem.W.Frag} {G : Hp} {a b : DSt} {s t : L2.St} (h1 : SV K G a s) (h2 : SV K G b t) : SV K G (a ++ b) (s ++ t) := by
  refine ⟨by rw [List.length_append, List.length_append, h1.len, h2.len], fun i d q => ?_⟩
  by_cases hi : i < a.length
  · rw [List.getElem?_append_left hi] at q
    rw [List.getElem?_append_left (by rw [← h1.len]; exact hi)]
    exact h1.at' i d q
  · rw [List.getElem?_append_right (by omega)] at q
    rw [List.getElem?_append_right (by rw [← h1.len]; omega), ← h1.len]
    exact h2.at' _ d q
/-- the names' values at a lambda's entry -/
def dstartF (N : List Str) (ds : List D) (cs : DSt) : DSt := ds.map some ++ (cs ++ List.replicate (N.length - ds.length - cs.length) none)
/-- what is told of captured names beside the arguments -/
abbrev CSp := DSt → DSp
def spLam (K : KB) (dsp : CSp) (ws : List (Option V)) : Sp := fun vs H Q E => ∃ G ds cs R Qd Ed, DVs K G ds vs ∧ SV K G cs ws ∧ RepH ⟨K, .all⟩ G R H ∧ dsp cs ds R Qd Ed ∧ CB ⟨K, .all⟩ G R H Qd Q ∧ CBX ⟨K, .all⟩ G R H Ed E
structure LamC (P : Program) (w : World) (K : KB) (mg : Str → Option Value) (base : Heap) (k : Nat) (L : Lam) (fr : List Str) (dsp : CSp) : Prop where
  ex : ∃ ps, LOk P w K mg base (L2.CX P w) k L ps fr (spLam K dsp)
section
variable {P : Program} {w : World} {K : KB} {mg : Str → Option Value} {base : Heap}
end
end DL
end
section
set_option Elab.async false
set_option maxRecDepth 100000
set_option maxHeartbeats 4000000
set_option linter.all false
set_option autoImplicit false
/-! DLJe: a def that is handed a lambda which captures; the lambda's call there; a try that keeps what is told -/
namespace DL
open PySem PySem.Spec PyProof.Rows L2 LamX NdefX
variable [TabCtx]
/-! ### a def's promise, the captured cells told at its entry -/
structure FnL (P : Program) (w : World) (K : PySem.W.Frag) (mg : Str → Option Value) (base : Heap) (CX : CXT) (k : Nat) (f : Addr) (fd : FuncData) (ps : List Str) (cl : List (Str × Addr)) (fr : List Str) (sp : List (Option V) → Sp) : Prop where
  len : ∀ ws vs H Q E, sp ws vs H Q E → vs.length = ps.length
  go : ∀ (A : Around), A.guards = some [] → Room k A → ∀ (outer : List Env) (s : Shared) (H : Hp), Env0 P w K mg base A outer s H →
    ∀ (args : Args) (us : List Value) (vs : List V) (ws : List (Option V)) (Q : VK) (E : XK), BindsTo s fd args (ps.zip us) → Vals vs us → CellsAt cl fr ws s.heap H → sp ws vs H Q E → codeAny (model P w) A (.call (.ref f) args) (CR CX outer P w H s Q E) s
section
variable {CX : CXT} {P : Program} {w : World} {K : PySem.W.Frag} {mg : Str → Option Value} {base : Heap} {cl : List (Str × Addr)} {fr : List Str}
theorem FnL.mono {j k : Nat} {f : Addr} {fd : FuncData} {ps : List Str} {sp : List (Option V) → Sp} (F : FnL P w K mg base CX j f fd ps cl fr sp) (h : j ≤ k) : FnL P w K mg base CX k f fd ps cl fr sp :=
  ⟨F.len, fun A g r => F.go A g (r.mono h)⟩
end
section
variable {P : Program} {w : World} {K : KB} {mg : Str → Option Value} {base : Heap} {cl : List (Str × Addr)} {fr : List Str}
/-- what the def's body may lean on: the cells hold still what they held, the captured data are known -/
structure Capt (X : CxF) (cl : List (Str × Addr)) (fr : List Str) (cs : DSt) : Prop where
  ex : X.X.ex = []
  at' : ∃ ws, CellsAt cl fr ws X.X.s_0.heap X.X.H_0 ∧ ∀ G R H, X.Φ.p G R H → SV X.X.K G cs ws
end

/-! ### the lambda's call by the name that holds it -/
def tCallC (i : Nat) (L : Lam) (sp : Sp) (E : L2.St → XK) (t : TA) : TE := fun σ H Q => ∃ f c, σ[i]? = some (some (.ref f)) ∧ H f = some (LamO f L c) ∧ t σ H fun vs H1 => H1 f = some (LamO f L c) ∧ H1 c = some (CodeO c L.qual) ∧ sp vs H1 Q (E σ)
section
variable {X : Cx} {CX : CXT} {ps fr : List Str} {ws : List (Option V)} {i j k : Nat} {x : Str} {L : Lam} {sp : List (Option V) → Sp} {E : L2.St → XK} {p pos : Pos} {e : Expr} {es : List Expr} {t : TA}
end
/-- x(..), x holds the lambda L; cs: what it captured -/
def dCallC (i : Nat) (L : Lam) (cs : DSt) (dsp : CSp) (Wd : DWX) (t : DTA) : DTE := fun s R Q => s[i]? = some (some (.lam L)) ∧ t s R fun ds R1 => dsp cs ds R1 Q (fun cls fs R' => Wd cls fs s R')
section
variable {X : CxF} {i j k : Nat} {x : Str} {L : Lam} {fr : List Str} {cs : DSt} {dsp : CSp} {Wd : DWX} {p pos : Pos} {e : Expr} {es : List Expr} {t : DTA}
end

/-! ### the def that makes the lambda and hands it on -/
def tCallGL (js : List Nat) (sp : List (Option V) → Sp) (E : L2.St → XK) (t : TA) : TE := fun σ H Q => t σ H fun vs H1 => sp (js.map (slotAt σ)) vs H1 Q (E σ)
section
variable {X : Cx} {CX : CXT} {k : Nat} {f : Addr} {fd : FuncData} {ps fr : List Str} {js : List Nat} {cl : List (Str × Addr)} {sp : List (Option V) → Sp} {E : L2.St → XK} {x : Str} {p pos : Pos} {e : Expr} {es : List Expr} {t : TA}
end
def slotD (s : DSt) (j : Nat) : Option D := match s[j]? with
  | some o => o
  | none => none
theorem SV.slots {K : PySem.W.Frag} {G : Hp} {sd : DSt} {s : L2.St} (h : SV K G sd s) (js : List Nat) : SV K G (js.map (slotD sd)) (js.map (slotAt s)) := by
  refine ⟨by rw [List.length_map, List.length_map], fun i d q => ?_⟩
  rw [List.getElem?_map] at q
  cases e : js[i]? with
  | none => rw [e] at q; cases q
  | some j =>
    rw [e] at q
    have q : slotD sd j = some d := Option.some.inj q
    unfold slotD at q
    cases e2 : sd[j]? with
    | none => rw [e2] at q; cases q
    | some o =>
      rw [e2] at q
      have q : o = some d := q
      subst q
      obtain ⟨v, h1, h2⟩ := h.at' j d e2
      exact ⟨v, by rw [List.getElem?_map, e]; exact congrArg some (slotAt_of h1), h2⟩
def dCallGL (js : List Nat) (dsp : CSp) (Wd : DWX) (t : DTA) : DTE := fun s R Q => t s R fun ds R1 => dsp (js.map (slotD s)) ds R1 Q (fun cls fs R' => Wd cls fs s R')
/-- a def by its name that is handed a lambda -/
structure CalL (P : Program) (w : World) (K : KB) (mg : Str → Option Value) (base : Heap) (k : Nat) (x : Str) (cl : List (Str × Addr)) (fr : List Str) (dsp : CSp) : Prop where
  ex : ∃ (f : Addr) (fd : FuncData) (ps : List Str), FnL P w K mg base (L2.CX P w) k f fd ps cl fr (spLam K dsp) ∧ mg x = some (.ref f) ∧ PySem.W.keepIn K (.ref f) = true ∧ Binds K fd ps []
section
variable {X : CxF} {k j : Nat} {x : Str} {fr : List Str} {js : List Nat} {cl : List (Str × Addr)} {dsp : CSp} {Wd : DWX} {p pos : Pos} {e : Expr} {es : List Expr} {t : DTA}
end

/-! ### a try whose body still knows what was told -/
def cTbK (F : KB) (Ψ : Phi) (tbd : DWX → DTS) (W : WX) : L2.TS := fun E s H => ∃ (Φ' : Phi) (Wd : DWX) (G : Hp) (sd : DSt) (R : Rs) (Ed : DEnds), (∀ G R H, Φ'.p G R H → Ψ.p G R H) ∧ LWX ⟨F, Φ'⟩ W Wd ∧ SV F G sd s ∧ RepH ⟨F, Φ'⟩ G R H ∧ tbd Wd Ed sd R ∧ EB ⟨F, Φ'⟩ G R H Ed E
section
variable {X : CxF} {x n : Str} {c : Value} {i : Nat} {body suite : List Stmt} {b₀ : Stmt} {np pos pos' : Pos} {tbd : DWX → DTS} {tsd : Addr → Value → List (Str × D) → DTS} {Wout : DWX}
end
theorem Capt.tr {X : CxF} {cl : List (Str × Addr)} {fr : List Str} {cs : DSt} {Φ' : Phi} {pn : List (Addr × Obj)} {xe : Value → Shared → Prop} (c : Capt X cl fr cs) (h : ∀ G R H, Φ'.p G R H → X.Φ.p G R H) : Capt ⟨X.X.tr pn xe, Φ', X.B⟩ cl fr cs :=
  ⟨c.ex, let ⟨ws, a, b⟩ := c.at'; ⟨ws, a, fun G R H z => b G R H (h G R H z)⟩⟩
end DL
namespace DL
open PySem
/-! ### a lambda by its place in the text -/
def stNone : Stmt := .Pass ⟨0, 0, 0, 0⟩
def sAt (i : Nat) (l : List Stmt) : Stmt := l.getD i stNone
def sVal : Stmt → Expr
  | .Assign _ e _ => e
  | .Return (some e) _ => e
  | .Expr e _ => e
  | .If c _ _ _ => c
  | _ => exNone
def sBody : Stmt → List Stmt
  | .For _ _ b _ _ => b
  | .If _ b _ _ => b
  | .While _ b _ _ => b
  | _ => []
def eElt (i : Nat) : Expr → Expr
  | .List es _ => es.getD i exNone
  | .Tuple es _ _ => es.getD i exNone
  | .BoolOp _ es _ => es.getD i exNone
  | .Compare a _ _ _ => a
  | .UnaryOp _ a _ => a
  | .BinOp a _ b _ => if i = 0 then a else b
  | .Attribute a _ _ => a
  | _ => exNone
def eCmp (i : Nat) : Expr → Expr
  | .Compare _ _ es _ => es.getD i exNone
  | _ => exNone
def lamC (q : Str) (e : Expr) (cl : List (Str × Addr)) : Lam := match e with
  | .Lambda ps b sc _ => ⟨q, ps, b, sc, cl⟩
  | _ => ⟨q, { posonlyargs := [], args := [], vararg := none, kwonlyargs := [], kw_defaults := [], kwarg := none, defaults := [] }, exNone, { kind := .function, names := [], isGenerator := false, isCoroutine := false, more := [] }, cl⟩
def lamSc : Expr → Scope
  | .Lambda _ _ sc _ => sc
  | _ => { kind := .function, names := [], isGenerator := false, isCoroutine := false, more := [] }
def lamB : Expr → Expr
  | .Lambda _ b _ _ => b
  | _ => exNone
end DL
end
section
set_option Elab.async false
set_option maxRecDepth 100000
set_option maxHeartbeats 4000000
set_option linter.all false
set_option autoImplicit false
/-! DLJf: repr by an own __repr__; x == y and x != y by an own __eq__, y of any kind; isinstance of other kinds -/
namespace PySem.W
open PySem PySem.Spec PySem.Calls PyProof.Rows Builtin
section
variable {prog : Program} {w : World} {A : Around} {E : Value → Shared → Prop} {s : Shared} {K : Frag} {x C f : Addr} {ox : Obj} {od : Option Obj} {name : Str} {h₀ : Heap} {L : Addr} {m : Str → Option Value} {b tb : Value}
end
end PySem.W
namespace DL
open PySem PySem.Spec PyProof.Rows L2
variable [TabCtx]
open PySem.W in
/-! ### comparison by an own __eq__, the other value of any kind -/
def YT (K : PySem.W.Frag) (C : Addr) (y : V) (H : Hp) : Prop := (∃ b dy gs, y = .ref b ∧ H b = some (.ins C dy gs)) ∨ ∃ S, tyV K S y H ∧ PySem.W.notFirst K C (.type S) = true
section
variable {X : Cx} {k : Nat} {f C : Addr} {fd : FuncData} {ps : List Str} {sp : Sp}
def rEqO (K : PySem.W.Frag) (C : Addr) (neg : Bool) (sp : Sp) : R2 := fun x y H Q => ∃ a dx fs, x = .ref a ∧ H a = some (.ins C dx fs) ∧ YT K C y H ∧ sp [x, y] H (fun v H2 => ∃ b, v = .bl b ∧ Q (.bl (if neg then !b else b)) H2) (fun _ _ _ => False)
end
/-- may the other value be compared: one of the class too, or of a built-in kind -/
def ytD (K : PySem.W.Frag) (C : Addr) (y : D) (R : Rs) : Prop := insAt R y C "__eq__" ∨ ∃ S, TyD S y R ∧ PySem.W.notFirst K C (.type S) = true
def rdEqO (K : PySem.W.Frag) (C : Addr) (neg : Bool) (dsp : DSp) : DR2 := fun x y R Q => insAt R x C "__eq__" ∧ ytD K C y R ∧ dsp [x, y] R (fun d R2 => ∃ b, d = .bl b ∧ Q (.bl (if neg then !b else b)) R2) Ed0
/-- != is the default one -/
structure NeC (K : PySem.W.Frag) (C : Addr) : Prop where
  ne : PySem.W.findIn K (.ref C) "__ne__" = some (some (.builtin "object.__ne__"))
  mo : PySem.W.mroIn K C (.type "object") = some true
section
variable {X : CxF} {C : Addr} {k j : Nat} {dsp : DSp}
end
/-! ### repr(x) by an own __repr__ -/
section
variable {X : Cx} {k : Nat} {f C : Addr} {fd : FuncData} {ps : List Str} {sp : Sp}
end
def rdReprC (C : Addr) (dsp : DSp) : D → Rs → DK → Prop := fun d R Q => insAt R d C "__repr__" ∧ dsp [d] R (fun v R2 => ∃ t : Str, v = .str t ∧ Q (.str t) R2) Ed0
section
variable {X : CxF} {C : Addr} {k j : Nat} {dsp : DSp}
end
/-! ### isinstance: one of the class, or of a built-in kind -/
theorem CallR.or {X : Cx} {f : Value} {r1 r2 : List V → Hp → VK → Prop} (a : CallR X f r1) (b : CallR X f r2) : CallR X f (fun xs H Q => r1 xs H Q ∨ r2 xs H Q) := by
  intro pins s σ H xs us Q I r h
  rcases h with h | h
  · exact a pins s σ H xs us Q I r h
  · exact b pins s σ H xs us Q I r h
def rdIsiO (K : PySem.W.Frag) (C : Addr) : List D → Rs → DK → Prop := fun ds R Q => ∃ d, ds = [d, .ref C] ∧ ((insAt R d C "" ∧ Q (.bl true) R) ∨ ∃ S b, d.tyName R = some S ∧ PySem.W.kitOne K (.type S) (.ref C) = some b ∧ Q (.bl b) R)
end DL
end
section
set_option Elab.async false
set_option maxRecDepth 100000
set_option maxHeartbeats 2000000
set_option linter.all false
set_option autoImplicit false
/-! DLJg: exceptions as values -/
namespace PySem.LX
open PySem PySem.W PySem.Calls PyProof.Rows PySem.HandSPX
section
variable {prog : Program} {w : World} {A : Around} {E : Value → Shared → Prop} {R : Result → Shared → Prop} {h : Heap} {g : Array GenState} {d : Drawn} {t : Nat} {os : OsState}
variable {nm q : Str} {C N : Addr} {bs bm bmB : List Value} {hdct : Bool} {sn : List Str} {sub : List Value} {ab : Bool} {col : Option Bool} {dd : Option Addr} {k0 k1 k2 k3 k5 : Option Value} {B newId initId : String} {kw : List (Str × Value)}
end
end PySem.LX
end
section
set_option Elab.async false
set_option maxRecDepth 100000
set_option linter.all false
set_option autoImplicit false
/-! DLJh: exceptions as values -/
namespace L2
open PySem PySem.Spec PyProof.Rows
/-- an exception object at a, its class, its dict -/
def ExH (cls : Value) (d : Option Addr) (a : Addr) : HO := .ext fun h => ∃ (oe : Obj) (vs : Array Value), h.get? a = some oe ∧ Zc cls d oe ∧ oe.data = .fields vs
section
variable {X : Cx} {pins : List (Addr × Obj)} {σ : L2.St} {H : Hp} {s s' : Shared}
theorem Inv.as (J : Inv X pins σ H s) (hh : s'.heap = s.heap) (os : s'.os = s.os) (ag : AllBare s'.gens) : Inv X pins σ H s' := by
  obtain ⟨h', g', d', t', o'⟩ := s'
  obtain ⟨h, g, d, t, o⟩ := s
  simp only at hh os
  subst hh os
  exact ⟨J.ok, J.os, ag, J.base, J.loc, J.cell, J.free, J.freeC, J.pin, J.hok, J.len⟩
end
section
variable {X : Cx} {e : Expr} {te : TE} {t : L2.St → Hp → XK → Prop} {C : Addr} {cn f : Str} {pos : Pos}
def tMkV (t : L2.St → Hp → XK → Prop) : TE := fun σ H Q => t σ H fun cls d H1 => ∀ a, H1 a = none → Q (.ref a) (upd H1 a (ExH cls d a))
/-- v.f, v an exception -/
def tXV (C : Addr) (f : Str) (te : TE) : TE := fun σ H Q => te σ H fun x H1 => ∃ (a dd : Addr) (v : V), x = .ref a ∧ H1 a = some (ExH (.ref C) (some dd) a) ∧ H1 dd = some (.xd [(f, v)]) ∧ Q v H1
end
end L2
namespace DL
open PySem PySem.Spec PyProof.Rows L2
variable [TabCtx]
/-! ### isinstance -/
def rIsV (K : PySem.W.Frag) : List V → Hp → VK → Prop := fun xs H Q => ∃ (C a : Addr) (d : Option Addr) (c : V) (b : Bool), xs = [.ref a, c] ∧ ExcK K C ∧ H a = some (ExH (.ref C) d a) ∧ Q (.bl b) H ∧ (d = none ∨ ∃ dd fs, d = some dd ∧ H dd = some (.xd fs)) ∧
  ((∃ cv, (∀ u, RelV c u → u = cv) ∧ PySem.W.kitOne K (.ref C) cv = some b) ∨ ∃ tp vs us, c = .ref tp ∧ SqT K H tp vs ∧ (∀ ws, Vals vs ws → ws = us) ∧ PySem.W.kitAny K (.ref C) us = some b)
/-- an exception of class C without fields, and one whose field f is v -/
def ExN (R : Rs) (C : Addr) (a : Addr) : Prop := R a = some (.raw (ExH (.ref C) none a))
def ExA (R : Rs) (C : Addr) (f : Str) (v : D) (a : Addr) : Prop := ∃ d, R a = some (.raw (ExH (.ref C) (some d) a)) ∧ R d = some (.xd [(f, v)])
def ExE (R : Rs) (C : Addr) (a : Addr) : Prop := ExN R C a ∨ ∃ f v, ExA R C f v a
def Up (R R' : Rs) : Prop := ∀ a ro, R a = some ro → R' a = some ro
theorem Up.refl (R : Rs) : Up R R := fun _ _ h => h
theorem Up.trans {R R1 R2 : Rs} (a : Up R R1) (b : Up R1 R2) : Up R R2 := fun x ro h => b x ro (a x ro h)
theorem Up.new {R : Rs} {p : Addr} {u : RO} (hp : R p = none) : Up R (put R p u) := fun a ro e => by
  rw [put_ne (fun z => by rw [z, hp] at e; cases e)]; exact e
def rdIsV (K : PySem.W.Frag) : List D → Rs → DK → Prop := fun ds R Q => ∃ C a c b, ds = [.ref a, c] ∧ ExcK K C ∧ ExE R C a ∧ ((∃ u, ClsD c u ∧ PySem.W.kitOne K (.ref C) u = some b) ∨ ∃ cs us, c = .tup cs ∧ Paired ClsD cs us ∧ PySem.W.kitAny K (.ref C) us = some b) ∧ Q (.bl b) R
/-! ### e.f -/
def dXV (C : Addr) (f : Str) (t : DTE) : DTE := fun s R Q => t s R fun x R1 => ∃ a v, x = .ref a ∧ ExA R1 C f v a ∧ Q v R1
/-! ### X(e), X(f=e), X() -/
def dMkV (C : Addr) (f : Str) (t : DTA) : DTE := fun s R Q => t s R fun ds R1 => ∃ v, ds = [v] ∧ ∀ a R2, ExA R2 C f v a → Up R1 R2 → R1 a = none → Q (.ref a) R2
section
variable {X : CxF} {C : Addr} {cn f : Str} {a : Expr} {te : DTE} {t : DTA} {p pos kpos : Pos} {k : Nat}
end
end DL
end
section
set_option Elab.async false
set_option maxRecDepth 100000
set_option linter.all false
set_option autoImplicit false
/-! DLJi: exceptions made by the names of their fields, or of nothing; list.count of truths -/
namespace PySem.LX
open PySem PySem.W
/-- an own exception class that takes its field by name -/
structure LowK (K : Frag) (f : Str) (C : Addr) : Prop where
  made : ∀ (prog : Program) (w : World) (A : Around) (R : Result → Shared → Prop) (s : Shared) (v : Value), K.In s.heap → s.heap.NoLimit → A.depth + 1 < recursionLimit →
    (∀ h' tk e d, OwnMade s.heap h' e C d f v → R (.ok (.ret (.ref e))) { s with heap := h', toks := tk }) → codeAny (model prog w) A (.call (.ref C) ⟨[], [(f, v)]⟩) R s
end PySem.LX
namespace L2
open PySem PySem.Spec PyProof.Rows
section
variable {X : Cx} {C : Addr} {cn f : Str}
def rCntB (K : PySem.W.Frag) : V → List V → Hp → VK → Prop := fun x xs H Q => ∃ (p : Addr) (bs : List Bool) (k : Bool), x = .ref p ∧ xs = [.bl k] ∧ SqL K H p (bs.map V.bl) ∧ Q (.int (bs.count k : Nat)) H
end
end L2
namespace DL
open PySem PySem.Spec PyProof.Rows L2
variable [TabCtx]
end DL
namespace DL
open PySem PySem.Spec PyProof.Rows L2
variable [TabCtx]
section
variable {X : CxF} {C : Addr} {cn f : Str} {a : Expr} {te : DTE} {t : DTA} {p pos kpos : Pos} {k : Nat}
/-- an own exception class without fields -/
structure Ex0 (K : PySem.W.Frag) (mg : Str → Option Value) (cn : Str) (C : Addr) : Prop where
  ex : ∃ (bmB : List Value) (B newId initId : String), ExcBaseFacts B newId initId bmB ∧ PySem.W.excIn K C bmB newId = true
  gC : mg cn = some (.ref C)
  kC : PySem.W.keepIn K (.ref C) = true
def dMkV0 (C : Addr) : DTE := fun _ R Q => ∀ a R2, ExN R2 C a → Up R R2 → R a = none → Q (.ref a) R2
end
end DL
end
section
set_option Elab.async false
set_option maxRecDepth 100000
set_option maxHeartbeats 2000000
set_option linter.all false
set_option autoImplicit false
/-! DLK5: properties; methods called by keywords -/
namespace L2
open PySem PySem.Spec PyProof.Rows DL
section
variable {X : Cx} {CX : CXT} {k : Nat} {C p g a dx : Addr} {fs : List (Str × V)} {f : Str} {fd : FuncData} {ps : List Str} {sp : Sp} {E : XK} {e : Expr} {pos : Pos} {ta : TE}
end
section
variable [TabCtx] {X : Cx} {CX : CXT} {k n : Nat} {f C : Addr} {fd : FuncData} {ps ks : List Str} {sp : Sp} {E : L2.St → XK} {x m : Str} {p pos apos : Pos} {e o : Expr} {es : List Expr} {kws : List Keyword} {ta : TE} {t tk : TA} {g : List Value → List Value → List Value} {gV : List V → List V → List V}
/-- o.m(e, .., k=..) -/
def tMethK (C : Addr) (m : Str) (n l : Nat) (sp : Sp) (gV : List V → List V → List V) (E : L2.St → XK) (ta : TE) (t tk : TA) : TE := fun σ H Q => ta σ H fun x H1 => ∃ a dx fs, x = .ref a ∧ H1 a = some (.ins C dx fs) ∧ fs.lookup m = none ∧ t σ H1 fun vs H2 => tk σ H2 fun zs H3 => vs.length + 1 = n ∧ zs.length = l ∧ sp (gV (x :: vs) zs) H3 Q (E σ)
end
end L2
namespace DL
open PySem PySem.Spec PyProof.Rows L2
variable [TabCtx]
/-- d is an instance of the class at C -/
def insX (R : Rs) (d : D) (C : Addr) : Prop := match d with
  | .ins C' _ _ => C' = C
  | .ref a => ∃ dx fs, R a = some (.ins C dx fs)
  | _ => False
structure PropD (P : Program) (w : World) (K : KB) (mg : Str → Option Value) (base : Heap) (k : Nat) (C : Addr) (f : Str) (dsp : DSp) : Prop where
  ex : ∃ (p g : Addr) (fd : FuncData) (ps : List Str), FnG P w K mg base CX0 k g fd ps (spOf K dsp) ∧ Cls K C ∧ PropOf K C f p g ∧ Binds K fd ps []
/-- d.f, a property -/
def dProp (C : Addr) (dsp : DSp) (to : DTE) : DTE := fun s R Q => to s R fun d R1 => insX R1 d C ∧ dsp [d] R1 Q Ed0
/-- a method by its name, called with n values (the instance among them) and the keywords ks; gD puts all in the parameters' order -/
structure MetK (P : Program) (w : World) (K : KB) (mg : Str → Option Value) (base : Heap) (k : Nat) (C : Addr) (m : Str) (n : Nat) (ks : List Str) (gD : List D → List D → List D) (dsp : DSp) : Prop where
  ex : ∃ (f : Addr) (fd : FuncData) (ps : List Str) (g : List Value → List Value → List Value) (gV : List V → List V → List V), FnG P w K mg base (L2.CX P w) k f fd ps (spOf K dsp) ∧ Cls K C ∧ Meth K C m f ∧ KBn K fd ps n ks g gV ∧
    ∀ G ds vs es us, DVs K G ds vs → DVs K G es us → ds.length = n → es.length = ks.length → DVs K G (gD ds es) (gV vs us)
def dMethK (C : Addr) (m : Str) (n l : Nat) (gD : List D → List D → List D) (dsp : DSp) (Wd : DWX) (to : DTE) (t tk : DTA) : DTE := fun s R Q => to s R fun d R1 => insAt R1 d C m ∧ t s R1 fun ds R2 => tk s R2 fun es R3 => ds.length + 1 = n ∧ es.length = l ∧ dsp (gD (d :: ds) es) R3 Q (fun cls fs R' => Wd cls fs s R')
end DL
end
section
set_option Elab.async false
set_option maxRecDepth 100000
set_option maxHeartbeats 2000000
set_option linter.all false
set_option autoImplicit false
/-! DLK6: *a, b = a list -/
namespace DL
open PySem PySem.Spec PyProof.Rows L2
section
variable {P : Program} {w : World} {A : Around} {E : Value → Shared → Prop} {s : Shared}
end
def gStarF (K : PySem.W.Frag) (n : Nat) (t : TGs) : TG := fun v σ H Q => ∃ a xs ys, v = .ref a ∧ SqL K H a (xs ++ ys) ∧ ys.length = n ∧ xs.length + n ≤ 16000 ∧ ∀ p, H p = none → t (.ref p :: ys) σ (upd H p (.lst xs)) Q
section
variable [TabCtx] {X : CxF} {es : List Expr} {pos : Pos} {k n : Nat}
def dgStarF (n : Nat) (t : DTGs) : DTG := fun d s R Q => ∃ xs ys, d = .lst (xs ++ ys) ∧ ys.length = n ∧ xs.length + n ≤ 16000 ∧ t (.lst xs :: ys) s R Q
end
end DL
end
section
set_option Elab.async false
set_option maxRecDepth 100000
set_option maxHeartbeats 2000000
set_option linter.all false
set_option autoImplicit false
/-! DLK7: an attribute as one of several targets -/
namespace DL
open PySem PySem.Spec PyProof.Rows L2
def gFld (K : PySem.W.Frag) (to : TE) (f : Str) : TG := fun v σ H Q => to σ H fun x H1 => ∃ a C dx fs, x = .ref a ∧ H1 a = some (.ins C dx fs) ∧ Cls K C ∧ NoAttr K C f ∧ fs.length < 1000 ∧ Q σ (upd H1 a (.ins C dx (putF f v fs)))
section
variable [TabCtx] {X : CxF} {o : Expr} {f : Str} {pos : Pos}
theorem pg_fld {to : TE} (ho : PE X o to) : PG X (.Attribute o f pos) (gFld X.K to f) := by
  refine ⟨fun pins s σ H v u Q I r h => ?_⟩
  rw [assign_Attribute]
  refine wpAny_bind (wpAny_holding (thn (ho.run pins s σ H _ I h) fun ov s1 ⟨x, H1, I1, r1, a, C, dx, fs, ex, ea, c, n, l, q⟩ => ?_))
  subst ex
  obtain rfl : ov = Value.ref a := r1
  refine wpAny_bind (wpAny_standAt (wpAny_bind (wpAny_holding (setattr_ok I1 ea c n l r fun s3 I3 => ?_))))
  exact wpAny_release ⟨σ, _, I3, q⟩
def dgFld (C : Addr) (f : Str) (to : DTE) : DTG := fun v s R Q => to s R fun d R1 => ∃ a dx fs, d = .ref a ∧ R1 a = some (.ins C dx fs) ∧ fs.length < 1000 ∧ Q s (put R1 a (.ins C dx (putD f v fs)))
theorem dg_fld {to : DTE} {C : Addr} (hc : Cls X.K C) (hn : NoAttr X.K C f) (ho : DE X o to) : DG X (.Attribute o f pos) (dgFld C f to) := by
  obtain ⟨t0, a1, a2⟩ := ho
  refine ⟨_, pg_fld a1, fun G sd s R H v y Qd Q sv rh dv q kk => ?_⟩
  refine a2 G sd s R H _ _ sv rh q fun G1 R1 H1 d x e1 rh1 dvx ⟨a, dx, fs, hd, hR, hl, q2⟩ => ?_
  subst hd
  cases dvx
  obtain ⟨_, u, h2, vs, rfl, h3⟩ := rh1.r a _ hR
  obtain ⟨ws, e3, e4⟩ := putD_dv (f := f) (dv.st e1) h3
  obtain ⟨S, rh3⟩ := rh1.chg (p := a) (o := .ins C dx (putF f y ((fs.map (·.1)).zip vs))) (ro := .ins C dx (putD f v fs)) hR ⟨ws, by rw [e3], e4⟩
  refine ⟨a, C, dx, _, rfl, h2, hc, hn, Nat.lt_of_le_of_lt zip_len (by rw [List.length_map]; exact hl), ?_⟩
  exact kk _ _ _ _ _ (e1.trans S) ((sv.st e1).st S) rh3 q2
end
end DL
end
section
set_option Elab.async false
set_option maxRecDepth 100000
set_option maxHeartbeats 2000000
set_option linter.all false
set_option autoImplicit false
/-! DLK8: sorted(xs, key=a lambda that gives whole numbers) -/
namespace DL
open PySem PySem.Spec PyProof.Rows L2
/-! ### the plain law: a stable sort by whole numbers is one list -/
def insK {α : Type} (p : Int × α) : List (Int × α) → List (Int × α)
  | [] => [p]
  | q :: r => if p.1 ≤ q.1 then p :: q :: r else q :: insK p r
def isrt {α : Type} : List (Int × α) → List (Int × α)
  | [] => []
  | p :: r => insK p (isrt r)
section
variable {α β : Type}
inductive PRel (R : α → β → Prop) : List (Int × α) → List (Int × β) → Prop
  | nil : PRel R [] []
  | cons (k : Int) {x y l m} : R x y → PRel R l m → PRel R ((k, x) :: l) ((k, y) :: m)
theorem PRel.ins {R : α → β → Prop} {k : Int} {x : α} {y : β} (r : R x y) : ∀ {l m}, PRel R l m → PRel R (insK (k, x) l) (insK (k, y) m)
  | _, _, .nil => .cons k r .nil
  | _, _, .cons j r2 h => by
    unfold insK
    by_cases z : k ≤ j
    · rw [if_pos z, if_pos z]; exact .cons k r (.cons j r2 h)
    · rw [if_neg z, if_neg z]; exact .cons j r2 (h.ins r)
end
theorem PRel.dvs {K : PySem.W.Frag} {G : Hp} : ∀ {l : List (Int × D)} {m : List (Int × V)}, PRel (DV K G) l m → DVs K G (l.map (·.2)) (m.map (·.2))
  | _, _, .nil => .nil
  | _, _, .cons k r h => .cons r h.dvs
/-! ### the end of the sort -/
section
variable {prog : Program} {w : World} {A : Around} {E : Value → Shared → Prop} {s : Shared} {a kS : Addr} {vs : List Value} {kz : List Int} {keys : Array Value} {e e1 : Nat} {P : PySem.Fin → Shared → Prop}
end
/-! ### the keys are asked for, one by one -/
section
variable [TabCtx] {X : Cx} {pins : List (Addr × Obj)} {σ : L2.St} {H : Hp} {s : Shared} {ps : List Str} {k : Nat} {L : Lam} {sp : Sp} {P : Hp → Prop} {vs : List Value} {xs : List V} {kz : List Int} {f c a : Addr} {Q : PySem.Fin → Shared → Prop} {E : Value → Shared → Prop}
def rSortedFn (K : PySem.W.Frag) (L : Lam) (sp : Sp) : List V → List V → Hp → VK → Prop := fun vs zs H Q => ∃ (l f c : Addr) (xs : List V) (kz : List Int) (P : Hp → Prop), vs = [.ref l] ∧ zs = [.ref f] ∧ SqL K H l xs ∧ kz.length = xs.length ∧ P H ∧
  (∀ H', P H' → H' f = some (LamO f L c) ∧ H' c = some (LamX.CodeO c L.qual)) ∧ (∀ (i : Nat) (x : V) (m : Int), xs[i]? = some x → kz[i]? = some m → ∀ H', P H' → sp [x] H' (fun u H2 => u = .int m ∧ P H2) (fun _ _ _ => False)) ∧
  ∀ (p : Addr) (H' : Hp), P H' → H' p = none → Q (.ref p) (upd H' p (.lst ((isrt (kz.zip xs)).map (·.2))))
end
section
variable [TabCtx] {X : CxF} {k j : Nat} {L : Lam} {dsp : DSp} {e : Expr} {kx : Expr} {kpos p pos : Pos} {t tk : DTA}
def dSortKey (L : Lam) (dsp : DSp) (t tk : DTA) : DTE := fun s R Q => t s R fun ds R1 => tk s R1 fun es R2 => ∃ (xs : List D) (kz : List Int), ds = [.lst xs] ∧ es = [.lam L] ∧ kz.length = xs.length ∧
  (∀ (i : Nat) (x : D) (m : Int), xs[i]? = some x → kz[i]? = some m → dsp [x] R2 (fun v R3 => v = .int m ∧ R3 = R2) Ed0) ∧ Q (.lst ((isrt (kz.zip xs)).map (·.2))) R2
end
end DL
end
section
set_option Elab.async false
set_option maxRecDepth 100000
set_option maxHeartbeats 2000000
set_option linter.all false
set_option autoImplicit false
/-! DLK9: new instances that may change; a method that is handed a lambda which captures -/
namespace L2
open PySem PySem.Spec PyProof.Rows DL
section
variable {X : Cx} {CX : CXT} {k n : Nat} {f C : Addr} {fd : FuncData} {ps ks : List Str} {sp : Sp} {E : L2.St → XK} {x : Str} {p pos : Pos} {kws : List Keyword} {t tk : TA} {g : List Value → List Value → List Value} {gV : List V → List V → List V}
def tMakeKV (C : Addr) (m : Nat) (sp : Sp) (gV : List V → List V → List V) (E : L2.St → XK) (tk : TA) : TE := fun σ H Q => tk σ H fun zs H2 => zs.length = m ∧ ∀ x dx, H2 x = none → H2 dx = none → dx ≠ x →
  sp (gV [.ref x] zs) (upd (upd H2 dx (.own x)) x (.ins C dx [])) (fun v H3 => v = .non ∧ Q (.ref x) H3) (E σ)
end
end L2
namespace DL
open PySem PySem.Spec PyProof.Rows L2 NdefX LamX
variable [TabCtx]
/-! ### new instances that may change -/
section
variable {X : CxF} {k j : Nat} {x : Str} {C : Addr} {dsp : DSp} {Wd : DWX} {p pos kpos : Pos} {e : Expr} {es : List Expr} {t tk : DTA} {kws : List Keyword} {ks : List Str} {gD : List D → List D → List D}
theorem de_newR (c : MakDX X.prog X.w X.K.F X.mg X.base k x C dsp) (gd : X.A.guards = some []) (hr : Room j X.A) (hk : k + 1 ≤ j) (tk : TakesD X Wd) (hg : Gl X x) (ha : DA X (e :: es) t) (hdb : (x == ("__debug__" : Str)) = false := by decide)
    (he : starEach (e :: es) X.env = (false, eval e X.env) :: starEach es X.env := by rfl) (hpl : (backTo pos (starEach es X.env)).any (·.1) = false := by rfl) : DE X (.Call (.Name x p) (e :: es) [] pos) (dNew C dsp Wd t) := by
  obtain ⟨f, fd, ps, F, M, hm, bd⟩ := c.ex
  obtain ⟨W, tk, lw⟩ := tk
  obtain ⟨t0, a1, a2⟩ := ha
  exact ⟨_, pe_makeV M F gd (hr.mono hk) hg hm bd (fun σ => passAt tk σ) a1 hdb he hpl, LE.new a2 lw⟩
def dNew0 (C : Addr) (dd : List D) (dsp : DSp) (Wd : DWX) : DTE := fun s R Q => ∀ x dx, R x = none →
  dsp (.ref x :: dd) (put R x (.ins C dx [])) (fun d R2 => d = .non ∧ Q (.ref x) R2) (fun cls fs R' => Wd cls fs s R')
/-- a class by its name, called by the keywords ks alone -/
structure MakK (P : Program) (w : World) (K : KB) (mg : Str → Option Value) (base : Heap) (k : Nat) (x : Str) (C : Addr) (ks : List Str) (gD : List D → List D → List D) (dsp : DSp) : Prop where
  ex : ∃ (f : Addr) (fd : FuncData) (ps : List Str) (g : List Value → List Value → List Value) (gV : List V → List V → List V), FnG P w K mg base (L2.CX P w) k f fd ps (spOf K dsp) ∧ Mk K C f ∧ mg x = some (.ref C) ∧ KBn K fd ps 1 ks g gV ∧
    ∀ G ds vs es us, DVs K G ds vs → DVs K G es us → ds.length = 1 → es.length = ks.length → DVs K G (gD ds es) (gV vs us)
def dNewKw (C : Addr) (m : Nat) (gD : List D → List D → List D) (dsp : DSp) (Wd : DWX) (tk : DTA) : DTE := fun s R Q => tk s R fun es R1 => es.length = m ∧ ∀ x dx, R1 x = none →
  dsp (gD [.ref x] es) (put R1 x (.ins C dx [])) (fun d R2 => d = .non ∧ Q (.ref x) R2) (fun cls fs R' => Wd cls fs s R')
end
/-! ### a method that is handed a lambda -/
section
variable {X : Cx} {CX : CXT} {k : Nat} {f C : Addr} {fd : FuncData} {ps fr : List Str} {js : List Nat} {cl : List (Str × Addr)} {sp : List (Option V) → Sp} {E : L2.St → XK} {m : Str} {pos apos : Pos} {o e : Expr} {es : List Expr} {ta : TE} {t : TA}
def tMethGL (js : List Nat) (C : Addr) (m : Str) (sp : List (Option V) → Sp) (E : L2.St → XK) (ta : TE) (t : TA) : TE := fun σ H Q => ta σ H fun x H1 => ∃ a dx fs, x = .ref a ∧ H1 a = some (.ins C dx fs) ∧ fs.lookup m = none ∧ t σ H1 fun vs H2 => sp (js.map (slotAt σ)) (x :: vs) H2 Q (E σ)
end
/-- a method by its name that is handed a lambda -/
structure MetL (P : Program) (w : World) (K : KB) (mg : Str → Option Value) (base : Heap) (k : Nat) (C : Addr) (m : Str) (cl : List (Str × Addr)) (fr : List Str) (dsp : CSp) : Prop where
  ex : ∃ (f : Addr) (fd : FuncData) (ps : List Str), FnL P w K mg base (L2.CX P w) k f fd ps cl fr (spLam K dsp) ∧ Cls K C ∧ Meth K C m f ∧ Binds K fd ps []
def dMethGL (js : List Nat) (C : Addr) (m : Str) (dsp : CSp) (Wd : DWX) (to : DTE) (t : DTA) : DTE := fun s R Q => to s R fun d R1 => insAt R1 d C m ∧ t s R1 fun ds R2 => dsp (js.map (slotD s)) (d :: ds) R2 Q (fun cls fs R' => Wd cls fs s R')
section
variable {X : CxF} {k j : Nat} {C : Addr} {m : Str} {fr : List Str} {js : List Nat} {cl : List (Str × Addr)} {dsp : CSp} {Wd : DWX} {apos pos : Pos} {o e : Expr} {es : List Expr} {to : DTE} {t : DTA}
end
end DL
namespace DL
open PySem PySem.Spec PyProof.Rows L2
section
variable [TabCtx] {P : Program} {w : World} {K : KB} {mg : Str → Option Value} {base : Heap}
end
end DL
namespace DL
open PySem
def kwE (i : Nat) : Expr → Expr
  | .Call _ _ kws _ => (kws.map (·.value)).getD i exNone
  | _ => exNone
end DL
end
section
set_option Elab.async false
set_option maxRecDepth 100000
set_option maxHeartbeats 2000000
set_option linter.all false
set_option autoImplicit false
/-! DLK10: several clauses `except X as e`, raise of an own error without fields -/
namespace L2
open PySem PySem.Spec PyProof.Rows
/-- what the clauses wish of an exception of the body, one after the other; slot i is the name's -/
def wManyAs (K : PySem.W.Frag) (i : Nat) (Wout : WX) (D : Ends) : List (Value × (Addr → Value → Option Addr → TS)) → WX
  | [] => Wout
  | (c, ts) :: r => fun cls d σ H => ∃ b, PySem.W.exmOne K cls c = some b ∧ (b = true → ∀ a, H a = none → ts a cls d { nx := fun σ' H' => D.nx (σ'.set i none) H', rt := D.rt, bk := fun σ' H' => D.bk (σ'.set i none) H', ct := fun σ' H' => D.ct (σ'.set i none) H' } (σ.set i (some (.ref a))) H) ∧ (b = false → wManyAs K i Wout D r cls d σ H)
inductive HdsAs (X : Cx) (n : Str) : List ExceptHandler → List (Value × (Addr → Value → Option Addr → TS)) → Prop
  | nil : HdsAs X n [] []
  | cons {x : Str} {c : Value} {ts : Addr → Value → Option Addr → TS} {b₀ : Stmt} {suite : List Stmt} {np pos' : Pos} {hds : List ExceptHandler} {l : List (Value × (Addr → Value → Option Addr → TS))} (hc : Names X x c)
      (hsu : ∀ (a : Addr) (oe : Obj) (cls : Value) (d : Option Addr) (pn : List (Addr × Obj)), Zc cls d oe → (∃ vs, oe.data = .fields vs) → PSs (X.suite a ((a, oe) :: pn)) (b₀ :: suite) (ts a cls d)) (r : HdsAs X n hds l) :
      HdsAs X n (.ExceptHandler (some (.Name x np)) (some n) (b₀ :: suite) pos' :: hds) ((c, ts) :: l)
section
variable {X : Cx} {n : Str} {i : Nat} {body : List Stmt} {h₀ : ExceptHandler} {hds : List ExceptHandler} {l : List (Value × (Addr → Value → Option Addr → TS))} {pos : Pos} {tb : WX → TS} {Wout : WX}
end
section
variable {X : Cx} {C : Addr} {bmB : List Value} {B newId initId : String}
end
end L2
namespace DL
open PySem PySem.Spec PyProof.Rows L2
variable [TabCtx]
/-! ### raise X() -/
structure Rz (K : PySem.W.Frag) (C : Addr) : Prop where
  hs : PySem.W.subIn K (.ref C) (.type "BaseException") = some true
  ty : PySem.W.typeIn K (.ref C) = some (.type "type")
def dRaise0 (C : Addr) (Wd : DWX) : DTS := fun _ s R => Wd (.ref C) [] s R
section
variable {X : CxF} {C : Addr} {cn : Str} {Wd : DWX} {p pos pos2 : Pos}
end
/-! ### try with several clauses -/
abbrev HdL := List (Value × (Addr → Value → List (Str × D) → DTS))
def wManyD (K : PySem.W.Frag) (i : Nat) (Wout : DWX) (D : DEnds) : HdL → DWX
  | [] => Wout
  | (c, ts) :: r => fun cls fs s R => ∃ b, PySem.W.exmOne K cls c = some b ∧ (b = true → ∀ a, R a = none → ts a cls fs { nx := fun s' R' => D.nx (s'.set i none) R', rt := D.rt, bk := fun s' R' => D.bk (s'.set i none) R', ct := fun s' R' => D.ct (s'.set i none) R' } (s.set i (some (.ref a))) R) ∧ (b = false → wManyD K i Wout D r cls fs s R)
inductive HdsD (X : CxF) (n : Str) : List ExceptHandler → HdL → Prop
  | nil : HdsD X n [] []
  | cons {x : Str} {c : Value} {tsd : Addr → Value → List (Str × D) → DTS} {b₀ : Stmt} {suite : List Stmt} {np pos' : Pos} {hds : List ExceptHandler} {l : HdL} (hc : Names X.X x c)
      (hsu : ∀ (Φ' : Phi) (a : Addr) (oe : Obj) (cls : Value) (d : Option Addr) (fs : List (Str × D)) (pn : List (Addr × Obj)), Zc cls d oe → (∃ vs, oe.data = .fields vs) → HasX ⟨X.X.suite a ((a, oe) :: pn), Φ', X.B⟩ d fs → DSs ⟨X.X.suite a ((a, oe) :: pn), Φ', X.B⟩ (b₀ :: suite) (tsd a cls fs)) (r : HdsD X n hds l) :
      HdsD X n (.ExceptHandler (some (.Name x np)) (some n) (b₀ :: suite) pos' :: hds) ((c, tsd) :: l)
abbrev hdL (F : KB) (l : HdL) : List (Value × (Addr → Value → Option Addr → L2.TS)) := l.map fun p => (p.1, cTs F p.2)
theorem HdsD.as {X : CxF} {n : Str} {hds : List ExceptHandler} {l : HdL} (h : HdsD X n hds l) : HdsAs X.X n hds (hdL X.K.F l) := by
  induction h with
  | nil => exact .nil
  | cons hc hsu r ih => exact .cons hc (ts_run hsu) ih
def dTryMany (K : PySem.W.Frag) (i : Nat) (tbd : DWX → DTS) (l : HdL) (Wout : DWX) : DTS := fun D s R => tbd (wManyD K i Wout D l) D s R
section
variable {X : CxF} {n : Str} {i : Nat} {body : List Stmt} {h₀ : ExceptHandler} {hds : List ExceptHandler} {l : HdL} {pos : Pos} {tbd : DWX → DTS} {Wout : DWX}
end
end DL
end
section
set_option Elab.async false
set_option maxRecDepth 100000
set_option linter.all false
set_option autoImplicit false
/-! DLK11: match of a text with texts -/
namespace L2
open PySem PySem.Spec PyProof.Rows
inductive PvsOk : List Pattern → List Str → Prop
  | nil : PvsOk [] []
  | cons {m : Str} {j : Nat} {p pos : Pos} {ps : List Pattern} {ms : List Str} (h : PvsOk ps ms) : PvsOk (.MatchValue (.Constant (.str m) j p) pos :: ps) (m :: ms)
inductive PtOk : Pattern → List Str → Prop
  | val {m : Str} {j : Nat} {p pos : Pos} : PtOk (.MatchValue (.Constant (.str m) j p) pos) [m]
  | or {ps : List Pattern} {ms : List Str} {pos : Pos} (h : PvsOk ps ms) : PtOk (.MatchOr ps pos) ms
section
variable {X : Cx} {pins : List (Addr × Obj)} {σ : St} {H : Hp} {s : Shared} {x : Str} {v : Value} {Q : Option (List (Str × Value)) → Shared → Prop}
theorem mat_val {m : Str} {j : Nat} {p pos : Pos} (I : Inv X pins σ H s) (rv : RelV (.str x) v) (h : ∀ s', Inv X pins σ H s' → if x = m then Q (some []) s' else Q none s') : wpAny (model X.prog X.w) X.A (matchPattern (.MatchValue (.Constant (.str m) j p) pos) X.env v) Q X.xe s := by
  refine wpAny_matchPattern_Value (thn ((pe_str (x := m) (j := j) (pos := p)).run pins s σ H (fun y H1 => y = .str m ∧ H1 = H) I ⟨rfl, rfl⟩) fun u s1 ⟨y, H1, I1, r1, e1, e2⟩ => ?_)
  subst e1
  rw [e2] at I1
  refine thn (op_eq pins s1 σ H (.str x) (.str m) v u (fun z H2 => z = .bl (decide (V.str x = V.str m)) ∧ H2 = H) I1 rv r1 ⟨rfl, rfl, rfl⟩) fun c s2 ⟨z, H2, I2, r2, e3, e4⟩ => ?_
  subst e3
  rw [e4] at I2
  cases r2
  refine wpAny_truthy_bool ?_
  have h2 := h s2 I2
  by_cases e : x = m
  · rw [if_pos e] at h2
    rw [if_pos (decide_eq_true (by rw [e]))]
    exact h2
  · rw [if_neg e] at h2
    rw [if_neg (by simpa using e)]
    exact h2
theorem mat_first : ∀ {ps : List Pattern} {ms : List Str} {s : Shared} {Q : Option (List (Str × Value)) → Shared → Prop}, PvsOk ps ms → Inv X pins σ H s → RelV (.str x) v → (∀ s', Inv X pins σ H s' → if x ∈ ms then Q (some []) s' else Q none s') → wpAny (model X.prog X.w) X.A (matchFirst ps X.env v) Q X.xe s
  | _, _, s, Q, .nil, I, rv, h => wpAny_matchFirst_nil (by have := h s I; simpa using this)
  | _, _, s, Q, .cons (m := m) (ms := ms) hp, I, rv, h => by
    refine wpAny_matchFirst_cons (mat_val I rv fun s1 I1 => ?_)
    by_cases e : x = m
    · rw [if_pos e]
      have := h s1 I1
      rw [if_pos (by rw [e]; simp)] at this
      exact this
    · rw [if_neg e]
      refine mat_first hp I1 rv fun s2 I2 => ?_
      have := h s2 I2
      by_cases e2 : x ∈ ms
      · rw [if_pos e2]
        rw [if_pos (List.mem_cons_of_mem _ e2)] at this
        exact this
      · rw [if_neg e2]
        rw [if_neg (fun z => by
          rcases List.mem_cons.mp z with z | z
          · exact e z
          · exact e2 z)] at this
        exact this
theorem mat_pt {pt : Pattern} {ms : List Str} (hp : PtOk pt ms) (I : Inv X pins σ H s) (rv : RelV (.str x) v) (h : ∀ s', Inv X pins σ H s' → if x ∈ ms then Q (some []) s' else Q none s') : wpAny (model X.prog X.w) X.A (matchPattern pt X.env v) Q X.xe s := by
  cases hp with
  | val =>
    refine mat_val I rv fun s1 I1 => ?_
    have := h s1 I1
    simpa using this
  | or hq =>
    refine wpAny_matchPattern_Or (mat_first hq I rv fun s1 I1 => ?_)
    have h2 := h s1 I1
    by_cases e : x ∈ ms
    · rw [if_pos e] at h2 ⊢
      cases hq with
      | nil => cases e
      | cons _ => exact h2
    · rw [if_neg e] at h2 ⊢
      exact h2
end
def mGo : List (List Str × TS) → Str → TS
  | [], _ => fun D σ H => D.nx σ H
  | (ms, t) :: r, x => fun D σ H => if x ∈ ms then t D σ H else mGo r x D σ H
inductive McOk (X : Cx) : List MatchCase → List (List Str × TS) → Prop
  | nil : McOk X [] []
  | cons {pt : Pattern} {ms : List Str} {body : List Stmt} {t : TS} {cs : List MatchCase} {l : List (List Str × TS)} (hp : PtOk pt ms) (hb : PSs X body t) (r : McOk X cs l) : McOk X (⟨pt, none, body⟩ :: cs) ((ms, t) :: l)
def tMatch (te : TE) (l : List (List Str × TS)) : TS := fun D σ H => te σ H fun v H1 => ∃ x, v = .str x ∧ mGo l x D σ H1
section
variable {X : Cx}
theorem mat_cases {pins : List (Addr × Obj)} {σ : St} {H : Hp} {x : Str} {v : Value} {D : Ends} {cs : List MatchCase} {l : List (List Str × TS)} (hk : McOk X cs l) (rv : RelV (.str x) v) : ∀ (s : Shared) (first : Bool), Inv X pins σ H s → mGo l x D σ H → wpAny (model X.prog X.w) X.A (matchCases cs X.env v first) (SP X pins D) X.xe s := by
  induction hk with
  | nil => intro s first I q; exact wpAny_matchCases_nil ⟨σ, H, I, q⟩
  | @cons pt ms body t cs l hp hb r ih =>
    intro s first I q
    refine wpAny_matchCases_cons (mat_pt hp I rv fun s1 I1 => ?_)
    have q : if x ∈ ms then t D σ H else mGo l x D σ H := q
    by_cases e : x ∈ ms
    · rw [if_pos e] at q ⊢
      exact wpAny_assignInOrder_none (hb.run pins s1 σ H D I1 q)
    · rw [if_neg e] at q ⊢
      exact ih s1 false I1 q
theorem ps_match {e : Expr} {te : TE} {cs : List MatchCase} {l : List (List Str × TS)} {pos : Pos} (he : PE X e te) (hk : McOk X cs l) : PS X (.Match e cs pos) (tMatch te l) := by
  refine ⟨fun pins s σ H D I h => wpAny_Match (thn (he.run pins s σ H _ I h) fun u s1 ⟨v, H1, I1, r1, x, ex, q⟩ => ?_)⟩
  subst ex
  exact mat_cases hk r1 s1 true I1 q
end
end L2
namespace DL
open PySem PySem.Spec PyProof.Rows L2
variable [TabCtx]
def dGoM : List (List Str × DTS) → Str → DTS
  | [], _ => dNext
  | (ms, t) :: r, x => fun D s R => if x ∈ ms then t D s R else dGoM r x D s R
inductive McD (X : CxF) : List MatchCase → List (List Str × DTS) → Prop
  | nil : McD X [] []
  | cons {pt : Pattern} {ms : List Str} {body : List Stmt} {t : DTS} {cs : List MatchCase} {l : List (List Str × DTS)} (hp : PtOk pt ms) (hb : DSs X body t) (r : McD X cs l) : McD X (⟨pt, none, body⟩ :: cs) ((ms, t) :: l)
theorem McD.ok {X : CxF} {cs : List MatchCase} {l : List (List Str × DTS)} (h : McD X cs l) : ∃ l0, McOk X.X cs l0 ∧ ∀ x, LS X.K (mGo l0 x) (dGoM l x) := by
  induction h with
  | nil => exact ⟨[], .nil, fun x G sd s R H Ed E sv rh q k => k.nx G sd s R H (Stp.refl G R H) sv rh q⟩
  | @cons pt ms body t cs l hp hb r ih =>
    obtain ⟨l0, h1, h2⟩ := ih
    obtain ⟨t0, b1, b2⟩ := hb
    refine ⟨(ms, t0) :: l0, .cons hp b1 h1, fun x G sd s R H Ed E sv rh q k => ?_⟩
    have q : if x ∈ ms then t Ed sd R else dGoM l x Ed sd R := q
    show if x ∈ ms then t0 E s H else mGo l0 x E s H
    by_cases e : x ∈ ms
    · rw [if_pos e] at q ⊢
      exact b2 G sd s R H Ed E sv rh q k
    · rw [if_neg e] at q ⊢
      exact h2 x G sd s R H Ed E sv rh q k
def dMatch (te : DTE) (l : List (List Str × DTS)) : DTS := fun D s R => te s R fun d R1 => ∃ x, d = .str x ∧ dGoM l x D s R1
theorem ds_match {X : CxF} {e : Expr} {te : DTE} {cs : List MatchCase} {l : List (List Str × DTS)} {pos : Pos} (he : DE X e te) (hk : McD X cs l) : DS X (.Match e cs pos) (dMatch te l) := by
  obtain ⟨t1, a1, a2⟩ := he
  obtain ⟨l0, h1, h2⟩ := hk.ok
  refine ⟨_, ps_match a1 h1, fun G sd s R H Ed E sv rh q k => a2 G sd s R H _ _ sv rh q fun G1 R1 H1 d v e1 rh1 dv1 q1 => ?_⟩
  obtain ⟨x, rfl, q2⟩ := q1
  cases dv1
  exact ⟨x, rfl, h2 x G1 sd s R1 H1 Ed E (sv.st e1) rh1 q2 (k.st e1)⟩
end DL
end
section
set_option Elab.async false
set_option maxRecDepth 100000
set_option maxHeartbeats 2000000
set_option linter.all false
set_option autoImplicit false
/-! DLK12: list comprehensions with two clauses -/
namespace DL
open PySem PySem.Spec PyProof.Rows L2
variable [TabCtx]
def dLc2F (wd : DTI) (g : DTG) (tt : DTT) (wd1 : DTI) (g1 : DTG) (tt1 : DTT) (te : DTE) (vs vs1 : List Nat) : DTE := fun s R Q => wd s R fun xs ok R1 => ∃ Pv : Nat → List D → Rs → Prop, Pv 0 [] R1 ∧ (∀ i acc R, i ≤ xs.length → Pv i acc R → ok R) ∧
  (∀ (i : Nat) x acc R, xs[i]? = some x → Pv i acc R → g x (dwipe s vs) R fun s2 R2 => tt s2 R2 fun b R3 =>
    if b = true then wd1 s2 R3 fun ys ok1 R4 => ∃ Pv1 : Nat → List D → Rs → Prop, Pv1 0 acc R4 ∧ (∀ j acc R, j ≤ ys.length → Pv1 j acc R → ok1 R ∧ acc.length < 100000) ∧
      (∀ (j : Nat) y acc R, ys[j]? = some y → Pv1 j acc R → g1 y (dwipe s2 vs1) R fun s3 R5 => tt1 s3 R5 fun b R6 => if b = true then te s3 R6 fun z R7 => Pv1 (j + 1) (acc ++ [z]) R7 else Pv1 (j + 1) acc R6) ∧
      ∀ acc R, Pv1 ys.length acc R → Pv (i + 1) acc R
    else Pv (i + 1) acc R3) ∧
  ∀ acc R, Pv xs.length acc R → Q (.lst acc) R
theorem LE.lc2F {K : KF} {vs vs1 : List Nat} {wi wi1 : TI} {g0 g10 : TG} {tt0 tt10 : TT} {te0 : TE} {wd wd1 : DTI} {g g1 : DTG} {tt tt1 : DTT} {te : DTE} (hi : LI K wi wd) (hg : LGw K vs g0 g) (ht : LT K tt0 tt) (hi1 : LI K wi1 wd1) (hg1 : LGw K vs1 g10 g1) (ht1 : LT K tt10 tt1) (he : LE K te0 te) :
    LE K (tLc2 wi g0 tt0 wi1 g10 tt10 te0 vs vs1) (dLc2F wd g tt wd1 g1 tt1 te vs vs1) := fun G sd s R H Qd Q sv rh q k => by
  refine hi G sd s R H _ _ sv rh q fun G1 R1 H1 J xs ok e1 rh1 sim q1 => fun p hp => ?_
  obtain ⟨Pv, p0, pok, step, fin⟩ := q1
  have r1p := rh1.free hp
  have g1p := rh1.gfree hp
  have sv1 := sv.st e1
  refine ⟨fun i m H2 => ∃ G2 R2 acc ys, Stp G1 R1 H1 G2 R2 H2 ∧ RepH K G2 R2 H2 ∧ Hid G2 R2 H2 p (.lst ys) ∧ DVs K G2 acc ys ∧ i ≤ xs.length ∧ m = xs.length - i ∧ Pv i acc R2,
    ⟨_, G1, R1, [], [], (Stp.refl _ _ _).wr hp, rh1.hide r1p g1p (K.Φ.st ((Stp.refl _ _ _).wr hp) rh1.φ) (K.F.B.st ((Stp.refl _ _ _).wr hp) rh1.b), ⟨upd_same, r1p, g1p⟩, .nil, Nat.zero_le _, rfl, p0⟩, ?_⟩
  rintro i m H2 ⟨G2, R2, acc, ys, e2, rh2, hd2, dv2, hi', rfl, p2⟩
  obtain ⟨go, stop⟩ := sim G2 R2 H2 e2.g rh2 (pok i acc R2 hi' p2)
  by_cases hlt : i < xs.length
  · obtain ⟨go1, go2⟩ := go i xs[i] (List.getElem?_eq_getElem hlt)
    refine .inr ⟨go1, fun H3 => ∃ G3 R3 acc ys, Stp G1 R1 H1 G3 R3 H3 ∧ RepH K G3 R3 H3 ∧ Hid G3 R3 H3 p (.lst ys) ∧ DVs K G3 acc ys ∧ Pv (i + 1) acc R3, ?_, fun x H' y => ?_⟩
    · rintro H3 ⟨G3, R3, acc3, ys3, e3, rh3, hd3, dv3, p3⟩
      exact ⟨xs.length - (i + 1), by omega, G3, R3, acc3, ys3, e3, rh3, hd3, dv3, hlt, rfl, p3⟩
    · obtain ⟨G3, e3, rh3, dv3⟩ := go2 x H' y
      have sv3 : SV K G3 (dwipe sd vs) (wipe s vs) := ((sv1.st e2).st e3).wipe vs
      refine hg G3 _ _ R2 H' _ _ _ _ sv3 rh3 dv3 (step i xs[i] acc R2 (List.getElem?_eq_getElem hlt) p2) fun G4 sd4 s4 R4 H4 e4 sv4 rh4 q4 w4 => ?_
      refine ⟨w4.trans (wipe_wipe vs), ?_⟩
      refine ht G4 sd4 s4 R4 H4 _ _ sv4 rh4 q4 fun G5 R5 H5 b e5 rh5 q5 => ?_
      cases b with
      | false =>
        have e25 := e3.trans (e4.trans e5)
        exact ⟨G5, R5, acc, ys, e2.trans e25, rh5, hd2.st e25, dv2.st e25, q5⟩
      | true =>
        refine hi1 G5 sd4 s4 R5 H5 _ _ (sv4.st e5) rh5 q5 fun G6 R6 H6 J1 us ok1 e6 rh6 sim1 q6 => ?_
        obtain ⟨Pv1, p10, pok1, step1, fin1⟩ := q6
        have e26 := e3.trans (e4.trans (e5.trans e6))
        have sv6 := (sv4.st e5).st e6
        refine ⟨fun j m H7 => ∃ G7 R7 acc ys, Stp G1 R1 H1 G7 R7 H7 ∧ Same G6 G7 ∧ RepH K G7 R7 H7 ∧ Hid G7 R7 H7 p (.lst ys) ∧ DVs K G7 acc ys ∧ j ≤ us.length ∧ m = us.length - j ∧ Pv1 j acc R7, ⟨_, G6, R6, acc, ys, e2.trans e26, Same.refl _, rh6, hd2.st e26, dv2.st e26, Nat.zero_le _, rfl, p10⟩, ?_⟩
        rintro j m H7 ⟨G7, R7, acc7, ys7, e7, g67, rh7, hd7, dv7, hj, rfl, p7⟩
        obtain ⟨hok1, hlen⟩ := pok1 j acc7 R7 hj p7
        obtain ⟨goi, stopi⟩ := sim1 G7 R7 H7 g67 rh7 hok1
        by_cases hjt : j < us.length
        · obtain ⟨goi1, goi2⟩ := goi j us[j] (List.getElem?_eq_getElem hjt)
          refine .inr ⟨goi1, fun H8 => ∃ G8 R8 acc ys, Stp G1 R1 H1 G8 R8 H8 ∧ Same G6 G8 ∧ RepH K G8 R8 H8 ∧ Hid G8 R8 H8 p (.lst ys) ∧ DVs K G8 acc ys ∧ Pv1 (j + 1) acc R8, ?_, fun x H' y => ?_⟩
          · rintro H8 ⟨G8, R8, acc8, ys8, e8, g68, rh8, hd8, dv8, p8⟩
            exact ⟨us.length - (j + 1), by omega, G8, R8, acc8, ys8, e8, g68, rh8, hd8, dv8, hjt, rfl, p8⟩
          · obtain ⟨G8, e8, rh8, dv8⟩ := goi2 x H' y
            have sv8 : SV K G8 (dwipe sd4 vs1) (wipe s4 vs1) := ((sv6.mono g67).st e8).wipe vs1
            refine hg1 G8 _ _ R7 H' _ _ _ _ sv8 rh8 dv8 (step1 j us[j] acc7 R7 (List.getElem?_eq_getElem hjt) p7) fun G9 sd9 s9 R9 H9 e9 sv9 rh9 q9 w9 => ?_
            refine ⟨w9.trans (wipe_wipe vs1), ?_⟩
            refine ht1 G9 sd9 s9 R9 H9 _ _ sv9 rh9 q9 fun Ga Ra Ha b ea rha qa => ?_
            cases b with
            | false =>
              have e7a := e8.trans (e9.trans ea)
              exact ⟨Ga, Ra, acc7, ys7, e7.trans e7a, g67.trans e7a.g, rha, hd7.st e7a, dv7.st e7a, qa⟩
            | true =>
              refine he Ga sd9 s9 Ra Ha _ _ (sv9.st ea) rha qa fun Gd Rd_ Hd dz vz ed rhd dvd qd => ?_
              have e7d := e8.trans (e9.trans (ea.trans ed))
              obtain ⟨h1, h2, h3⟩ := hd7.st e7d
              have dv9 := dv7.st e7d
              refine ⟨ys7, h1, ?_, Gd, Rd_, acc7 ++ [dz], ys7 ++ [vz], (e7.trans e7d).wr hp, g67.trans e7d.g, rhd.hide h2 h3 (K.Φ.st ((e7.trans e7d).wr hp) rh1.φ) (K.F.B.st ((e7.trans e7d).wr hp) rh1.b), ⟨upd_same, h2, h3⟩, dv9.append (.cons dvd .nil), qd⟩
              rw [← dv7.length]
              exact Nat.lt_trans hlen (by decide)
        · have e : j = us.length := by omega
          subst e
          exact .inl ⟨stopi _ (Nat.le_refl _), G7, R7, acc7, ys7, e7, rh7, hd7, dv7, fin1 acc7 R7 p7⟩
  · have e : i = xs.length := by omega
    subst e
    refine .inl ⟨stop _ (Nat.le_refl _), ?_⟩
    obtain ⟨s1, rh3⟩ := rh2.tell hd2 (K.Φ.st (e1.trans (e2.tellG hp hd2.2.2)) rh.φ) (K.F.B.st (e1.trans (e2.tellG hp hd2.2.2)) rh.b)
    exact k _ R2 H2 _ _ (e1.trans (e2.tellG hp hd2.2.2)) rh3 (.lst upd_same (dv2.mono s1)) (fin acc R2 p2)
section
variable {X : CxF} {elt tg iter tg1 iter1 : Expr} {ifs ifs1 : List Expr} {scope : Scope} {own : List (Str × Nat)} {vs1 : List Nat} {pos : Pos} {wd wd1 : DTI} {g g1 : DTG} {tt tt1 : DTT} {te : DTE}
theorem de_lc2F (hc : X.calm = true) (hN : X.N.Nodup) (hi : DI X tg iter wd) (ok : BlkOk X.N X.env.scope scope own) (hv : ∀ i ∈ vs1, i ∈ own.map (·.2)) (hg : AllD X scope fun Y => DGw Y (own.map (·.2)) tg g) (ht : AllD X scope fun Y => DTs Y ifs tt)
    (hi1 : AllD X scope fun Y => DI Y tg1 iter1 wd1) (hg1 : AllD X scope fun Y => DGw Y vs1 tg1 g1) (ht1 : AllD X scope fun Y => DTs Y ifs1 tt1) (he : AllD X scope fun Y => DE Y elt te)
    (hs : ∀ x, foldedSetIterable iter X.env x = pure x := by intro _; rfl) (hs1 : ∀ env x, foldedSetIterable iter1 env x = pure x := by intro _ _; rfl) :
    DE X (.ListComp elt [⟨tg, iter, ifs, 0⟩, ⟨tg1, iter1, ifs1, 0⟩] scope pos) (dLc2F wd g tt wd1 g1 tt1 te (own.map (·.2)) vs1) := by
  obtain ⟨wi, i1, i2⟩ := hi
  exact ⟨_, pe_lc2 hc hN i1 ok hv (fun s H C cl fp => (hg s H C cl fp).pg) (fun s H C cl fp => (ht s H C cl fp).pts) (fun s H C cl fp => (hi1 s H C cl fp).pi) (fun s H C cl fp => (hg1 s H C cl fp).pg) (fun s H C cl fp => (ht1 s H C cl fp).pts) (fun s H C cl fp => (he s H C cl fp).pe) hs hs1,
    LE.lc2F i2 LGw.c LT.c LI.c LGw.c LT.c LE.c⟩
end
end DL
end
section
set_option Elab.async false
set_option maxRecDepth 100000
set_option linter.all false
set_option autoImplicit false
/-! DLK13: self.f += a whole number -/
namespace DL
open PySem PySem.Spec PyProof.Rows L2
variable [TabCtx]
def dAugF (C : Addr) (f : Str) (to te : DTE) : DTS := fun D s R => to s R fun d R1 => ∃ (a : Addr) (i : Int), d = .ref a ∧ fldOf R1 (.ref a) C f (.int i) ∧ te s R1 fun y R2 => ∃ j dx fs, y = .int j ∧ R2 a = some (.ins C dx fs) ∧ fs.length < 1000 ∧ D.nx s (put R2 a (.ins C dx (putD f (.int (i + j)) fs)))
end DL
end
section
set_option Elab.async false
set_option maxRecDepth 100000
set_option linter.all false
set_option autoImplicit false
/-! DLK14: a sign not in a text; sum and sorted of whole numbers -/
namespace DL
open PySem PySem.Spec PyProof.Rows L2
variable [TabCtx]
section
variable {X : CxF}
/-- sorted of whole numbers: a new list that never changes -/
theorem cd_sortedI : CallD X (.builtin "sorted") (rd1 fun d R Q => ∃ xs : List Int, lstOf R d = some (xs.map D.int) ∧ xs.length < 64 ∧ ∀ ys : List Int, ys.Perm xs → ys.Pairwise (· ≤ ·) → Q (.lst (ys.map D.int)) R) :=
  ⟨_, cr_sorted, LRA.one fun G R H d v Qd Q rh dv ⟨xs, hx, hl, q⟩ k => by
  obtain ⟨a, vs, rfl, s1, d1⟩ := lst_dv hx rh dv
  rw [d1.ints] at s1
  refine ⟨a, xs, rfl, s1, hl, fun ys p hp hso hn => ?_⟩
  obtain ⟨S1, rh2⟩ := rh.imm (o := .lst (ys.map V.int)) hn
  exact k _ R _ _ _ S1 rh2 (.lst upd_same (DVs.ofInts ys)) (q ys hp hso)⟩
end
end DL
end
section
set_option Elab.async false
set_option maxRecDepth 100000
set_option maxHeartbeats 2000000
set_option linter.all false
set_option autoImplicit false
/-! DLK15: sorted({..}) of whole numbers, the set a comprehension of one or two clauses -/
namespace L2
open PySem PySem.Spec PyProof.Rows
section
variable {prog : Program} {w : World} {A : Around} {R : Result → Shared → Prop} {s : Shared} {ex a0 b0 a1 b1 : Expr} {c0 c1 : List Expr} {scope : Scope} {pos : Pos} {it : Value} {D : Addr} {env : Env}
abbrev sc2 (ex a0 b0 : Expr) (c0 : List Expr) (a1 b1 : Expr) (c1 : List Expr) (scope : Scope) (pos : Pos) : Expr := .SetComp ex [⟨a0, b0, c0, 0⟩, ⟨a1, b1, c1, 0⟩] scope pos
theorem sturn_out : compTurn (sc2 ex a0 b0 c0 a1 b1 c1 scope pos) 0 it (.ref D) env = (do
      standAt b0.pos
      match ← pyNext it with
      | none => pure (.done .next)
      | some v =>
        letOwnedTupleGo a0 it v
        assign a0 env v
        let mut ok := true
        for c in c0 do
          if ok then ok ← isTrue c env (eval c env)
        if ok then
          let x ← eval b1 env
          standAt b1.pos
          let x ← foldedSetIterable b1 env x
          let _ ← runOwn (.compStart (sc2 ex a0 b0 c0 a1 b1 c1 scope pos) 1 (← holding [x] (pyIter x)) (.ref D) env) env
        again (.compLoop (sc2 ex a0 b0 c0 a1 b1 c1 scope pos) 0 it (.ref D) env)) := by rfl
theorem sturn_in : compTurn (sc2 ex a0 b0 c0 a1 b1 c1 scope pos) 1 it (.ref D) env = (do
      standAt b1.pos
      match ← pyNext it with
      | none => pure (.done .next)
      | some v =>
        letOwnedTupleGo a1 it v
        assign a1 env v
        let mut ok := true
        for c in c1 do
          if ok then ok ← isTrue c env (eval c env)
        if ok then
          (do
            let y ← eval ex env
            standAt ex.pos
            let _ ← call (.builtin "set.add") [.ref D, y])
        again (.compLoop (sc2 ex a0 b0 c0 a1 b1 c1 scope pos) 1 it (.ref D) env)) := by rfl
/-- the outer loop -/
theorem sloop_out (hs : ∀ x, foldedSetIterable b1 env x = pure x) (I : Nat → Shared → Prop)
    (turn : ∀ n s, I n s → wpAny (model prog w) A (pyNext it) (fun r s₁ => match r with
      | none => R (.ok .next) s₁
      | some v => wpAny (model prog w) A (letOwnedTupleGo a0 it v) (fun _ s₁' => wpAny (model prog w) A (assign a0 env v) (fun _ s₂ => wpAny (model prog w) A (tests c0 env) (fun ok s₃ =>
            if ok = true then wpAny (model prog w) A (eval b1 env) (fun x s₄ => wpAny (model prog w) A (pyIter x) (fun j s₅ =>
              codeAny (model prog w) A (.compStart (sc2 ex a0 b0 c0 a1 b1 c1 scope pos) 1 j (.ref D) env) (fun r s' => match r with | .ok _ => ∃ m, m < n ∧ I m s' | .error _ => False) s₅) (nte prog w A env R) s₄) (nte prog w A env R) s₃
            else ∃ m, m < n ∧ I m s₃) (nte prog w A env R) s₂) (nte prog w A env R) s₁') (nte prog w A env R) s₁) (nte prog w A env R) s)
    (n : Nat) (h : I n s) : codeAny (model prog w) A (.compLoop (sc2 ex a0 b0 c0 a1 b1 c1 scope pos) 0 it (.ref D) env) R s := by
  refine codeAny_loop rfl I (fun n s hI => ?_) n h
  show wpAny _ A ((compTurn (sc2 ex a0 b0 c0 a1 b1 c1 scope pos) 0 it (.ref D) env).onRaise (fun x => do noteFrame x env; theTreesLotGoes x)) _ _ s
  refine wpAny_noted ?_
  rw [sturn_out]
  refine wpAny_bind (wpAny_standAt (wpAny_bind (wpAny_mono (turn n s hI) (fun r t1 k1 => ?_) fun _ _ z => z)))
  cases r with
  | none => exact wpAny_pure k1
  | some v =>
    refine wpAny_bind (wpAny_mono k1 (fun _ t2 k2 => wpAny_bind (wpAny_mono k2 (fun _ t3 k3 => wpAny_bind (wpAny_mono k3 (fun ok t4 k4 => ?_) fun _ _ z => z)) fun _ _ z => z)) fun _ _ z => z)
    cases ok with
    | false => exact wpAny_pure ⟨rfl, k4⟩
    | true =>
      refine wpAny_bind (wpAny_mono k4 (fun x t5 k5 => ?_) fun _ _ z => z)
      refine wpAny_bind (wpAny_standAt (wpAny_bind (wpAny_of_eq (hs x) (wpAny_bind (wpAny_holding (wpAny_mono k5 (fun j t6 k6 => ?_) fun _ _ z => z))))))
      refine wpAny_bind (wpAny_runOwn ?_)
      rw [Around.mark_none]
      refine codeAny_mono k6 fun r s' hr => ?_
      cases r with
      | error e => exact hr.elim
      | ok f =>
        first
          | exact wpAny_pure ⟨rfl, hr⟩
          | exact wpAny_bind (wpAny_pure (wpAny_pure ⟨rfl, hr⟩))
/-- the inner loop -/
theorem sloop_in (I : Nat → Shared → Prop)
    (turn : ∀ n s, I n s → wpAny (model prog w) A (pyNext it) (fun r s₁ => match r with
      | none => R (.ok .next) s₁
      | some v => wpAny (model prog w) A (letOwnedTupleGo a1 it v) (fun _ s₁' => wpAny (model prog w) A (assign a1 env v) (fun _ s₂ => wpAny (model prog w) A (tests c1 env) (fun ok s₃ =>
            if ok = true then wpAny (model prog w) A (eval ex env) (fun kv s₄ => wpAny (model prog w) A (call (.builtin "set.add") [.ref D, kv]) (fun _ s₆ => ∃ m, m < n ∧ I m s₆) (nte prog w A env R) s₄) (nte prog w A env R) s₃
            else ∃ m, m < n ∧ I m s₃) (nte prog w A env R) s₂) (nte prog w A env R) s₁') (nte prog w A env R) s₁) (nte prog w A env R) s)
    (n : Nat) (h : I n s) : codeAny (model prog w) A (.compLoop (sc2 ex a0 b0 c0 a1 b1 c1 scope pos) 1 it (.ref D) env) R s := by
  refine codeAny_loop rfl I (fun n s hI => ?_) n h
  show wpAny _ A ((compTurn (sc2 ex a0 b0 c0 a1 b1 c1 scope pos) 1 it (.ref D) env).onRaise (fun x => do noteFrame x env; theTreesLotGoes x)) _ _ s
  refine wpAny_noted ?_
  rw [sturn_in]
  refine wpAny_bind (wpAny_standAt (wpAny_bind (wpAny_mono (turn n s hI) (fun r t1 k1 => ?_) fun _ _ z => z)))
  cases r with
  | none => exact wpAny_pure k1
  | some v =>
    refine wpAny_bind (wpAny_mono k1 (fun _ t2 k2 => wpAny_bind (wpAny_mono k2 (fun _ t3 k3 => wpAny_bind (wpAny_mono k3 (fun ok t4 k4 => ?_) fun _ _ z => z)) fun _ _ z => z)) fun _ _ z => z)
    cases ok with
    | false => exact wpAny_pure ⟨rfl, k4⟩
    | true =>
      exact wpAny_bind (wpAny_bind (wpAny_mono k4 (fun kv t5 k5 => wpAny_bind (wpAny_standAt (wpAny_bind (wpAny_mono k5 (fun _ t6 k6 => wpAny_pure (wpAny_pure ⟨rfl, k6⟩)) fun _ _ z => z)))) fun _ _ z => z))
theorem sstart_in (h0 : codeAny (model prog w) A (.compLoop (sc2 ex a0 b0 c0 a1 b1 c1 scope pos) 1 it (.ref D) env) R s)
    (h : wpAny (model prog w) A (pyIter it) (fun j s' => codeAny (model prog w) A (.compLoop (sc2 ex a0 b0 c0 a1 b1 c1 scope pos) 1 j (.ref D) env) R s') (nte prog w A env R) s) :
    codeAny (model prog w) A (.compStart (sc2 ex a0 b0 c0 a1 b1 c1 scope pos) 1 it (.ref D) env) R s := by
  refine codeAny_of_tree ?_
  show wpAny _ _ ((compStart (sc2 ex a0 b0 c0 a1 b1 c1 scope pos) 1 it (.ref D) env).onRaise (fun x => do noteFrame x env; standAt theWindowsPlace)) _ _ s
  refine wpAny_notedAt ?_
  unfold compStart
  show wpAny _ _ (ask >>= _) _ _ s
  refine wpAny_bind (wpAny_askSetting (wpAny_ite ?_))
  split
  · first
      | exact wpAny_pure (And.intro rfl h0)
      | exact wpAny_bind (wpAny_pure (wpAny_pure (And.intro rfl h0)))
  · first
      | exact wpAny_bind (wpAny_rule (wpAny_bind (wpAny_standAt (wpAny_bind (wpAny_mono h (fun j s' z => wpAny_pure (And.intro rfl z)) fun _ _ z => z)))))
      | (refine wpAny_bind (wpAny_rule ?_); show wpAny _ _ (standAt b1.pos >>= _) _ _ s; exact wpAny_bind (wpAny_standAt (wpAny_bind (wpAny_mono h (fun j s' z => wpAny_pure (And.intro rfl z)) fun _ _ z => z))))
end

/-- a new set -/
abbrev objS (w : World) : Obj := { cls := .type "set", dict := none, data := .set #[] 0 (.fresh 0 0 (!w.params.followText "set-order")) }
/-- set.add of a whole number -/
theorem addI_ok {X : Cx} {pins : List (Addr × Obj)} {σ : L2.St} {H : Hp} {s : Shared} {E : Value → Shared → Prop} {D : Addr} {S : Int → Bool} {n : Nat} {y : Int} {tk : Tok} {Q : Value → Shared → Prop} (I : Inv X pins σ H s) (hD : H D = some (SetO X.w D S n)) (hr : n + 1 < scanBound)
    (h : ∀ s', Inv X pins σ (upd H D (SetO X.w D (fun j => S j || decide (j = y)) (if S y = true then n else n + 1))) s' → Q .none s') : wpAny (model X.prog X.w) X.A (call (.builtin "set.add") [.ref D, .int y tk]) Q E s :=
  setR_add (setO_get I hD) hr fun h' sb new => h _ (I.write (e := D) (t' := s.toks + 1) (by rw [hD]; trivial) (.inl rfl) (fun b u hb hu => (sb.2 b hb).trans hu) (let ⟨o, _, _, _, ho, _⟩ := new; ⟨o, ho⟩) (setO_new new))
section
variable {X : Cx}
/-- {y for tg in iter if ..} of whole numbers -/
def tSc1 (w : World) (wi : TI) (g : TG) (tt : TT) (te : TE) (vs : List Nat) : TE := fun σ H Q => wi σ H fun J H1 => ∀ D, H1 D = none → ∃ W : Nat → Nat → Hp → Prop, (∃ m, W 0 m (upd H1 D (SetO w D (fun _ => false) 0))) ∧ ∀ i m H, W i m H →
  (J.stop i H ∧ Q (.ref D) H) ∨ (J.go i H ∧ ∃ Nx : Hp → Prop, (∀ H', Nx H' → ∃ m', m' < m ∧ W (i + 1) m' H') ∧ ∀ x H', J.yld i H x H' → g x (wipe σ vs) H' fun σ2 H2 => wipe σ2 vs = wipe σ vs ∧ tt σ2 H2 fun b H3 =>
    if b = true then te σ2 H3 fun y H4 => ∃ (c : Int) (S : Int → Bool) (n : Nat), y = .int c ∧ H4 D = some (SetO w D S n) ∧ n + 1 < scanBound ∧ Nx (upd H4 D (SetO w D (fun j => S j || decide (j = c)) (if S c = true then n else n + 1))) else Nx H3)
/-- {y for tg in iter if .. for tg1 in iter1 if ..} of whole numbers -/
def tSc2 (w : World) (wi : TI) (g : TG) (tt : TT) (wi1 : TI) (g1 : TG) (tt1 : TT) (te : TE) (vs vs1 : List Nat) : TE := fun σ H Q => wi σ H fun J H1 => ∀ D, H1 D = none → ∃ W : Nat → Nat → Hp → Prop, (∃ m, W 0 m (upd H1 D (SetO w D (fun _ => false) 0))) ∧ ∀ i m H, W i m H →
  (J.stop i H ∧ Q (.ref D) H) ∨ (J.go i H ∧ ∃ Nx : Hp → Prop, (∀ H', Nx H' → ∃ m', m' < m ∧ W (i + 1) m' H') ∧ ∀ x H', J.yld i H x H' → g x (wipe σ vs) H' fun σ2 H2 => wipe σ2 vs = wipe σ vs ∧ tt σ2 H2 fun b H3 =>
    if b = true then wi1 σ2 H3 fun J1 H4 => ∃ W1 : Nat → Nat → Hp → Prop, (∃ m, W1 0 m H4) ∧ ∀ j k H, W1 j k H →
      (J1.stop j H ∧ Nx H) ∨ (J1.go j H ∧ ∃ Nx1 : Hp → Prop, (∀ H', Nx1 H' → ∃ k', k' < k ∧ W1 (j + 1) k' H') ∧ ∀ x H', J1.yld j H x H' → g1 x (wipe σ2 vs1) H' fun σ3 H5 => wipe σ3 vs1 = wipe σ2 vs1 ∧ tt1 σ3 H5 fun b H6 =>
        if b = true then te σ3 H6 fun y H7 => ∃ (c : Int) (S : Int → Bool) (n : Nat), y = .int c ∧ H7 D = some (SetO w D S n) ∧ n + 1 < scanBound ∧ Nx1 (upd H7 D (SetO w D (fun j => S j || decide (j = c)) (if S c = true then n else n + 1))) else Nx1 H6)
    else Nx H3)
theorem sc2_core {pins : List (Addr × Obj)} {s : Shared} {σ : St} {H : Hp} {Q : VK} {ex tg iter tg1 iter1 : Expr} {ifs ifs1 : List Expr} {scope : Scope} {own : List (Str × Nat)} {vs1 : List Nat} {pos pos' : Pos} {wi wi1 : TI} {g g1 : TG} {tt tt1 : TT} {te : TE} {use : Option (Value → Sem Unit)} {Qf : Value → Shared → Prop}
    (hc : X.calm = true) (hN : X.N.Nodup) (I : Inv X pins σ H s) (hi : PI X tg iter wi) (ok : BlkOk X.N X.env.scope scope own) (hv : ∀ i ∈ vs1, i ∈ own.map (·.2))
    (hg : AllB X scope fun Y => PG Y tg g) (ht : AllB X scope fun Y => PTs Y ifs tt) (he : AllB X scope fun Y => PE Y ex te)
    (hs : ∀ x, foldedSetIterable iter X.env x = pure x) (hi1 : AllB X scope fun Y => PI Y tg1 iter1 wi1) (hg1 : AllB X scope fun Y => PG Y tg1 g1) (ht1 : AllB X scope fun Y => PTs Y ifs1 tt1) (hs1 : ∀ env x, foldedSetIterable iter1 env x = pure x)
    (h : tSc2 X.w wi g tt wi1 g1 tt1 te (own.map (·.2)) vs1 σ H Q)
    (hRR : ∀ D C s' m H', Inv X pins σ H' s' → Q (.ref D) H' → s'.heap.Ns C m → FpOk X pins H' C → compPost (model X.prog X.w) X.A X.xe use Qf (.ref D) C (.ok .next) s') :
    wpAny (model X.prog X.w) X.A (comprehension (sc2 ex tg iter ifs tg1 iter1 ifs1 scope pos) scope X.env pos' (newSet (.type "set")) false (eval iter X.env) use) Qf X.xe s := by
  have hfree : ∀ y ∈ scope.names, y.2 = .free → ∃ c, X.env.cells.lookup y.1 = some c := fun y hy e => (ok.free y hy e).elim (fun k => I.ok.has _ (.inl k)) (fun k => I.ok.has _ (.inr k))
  refine wpAny_comprehension_free (use := use) rfl hs (closure_ok hfree) ok.kind (fun y hy e => by rw [ok.uniq y hy, e]) (thn (hi.run pins s σ H _ I h) fun xv s1 hx => thn hx fun itv s2 h2 => ?_)
  obtain ⟨it, fp, tn, J, H2, e, I2, T, st2, f2, q⟩ := h2
  subst e
  refine PpSet.newSet_ok (newEnv_comp ?_)
  generalize hD : s2.heap.objs.size = D
  have hDn : H2 D = none := I2.hok.fresh (Nat.le_of_eq hD)
  obtain ⟨W, ⟨m0, w0⟩, turn⟩ := q D hDn
  generalize hs3 : ({ s2 with heap := s2.heap.push (objS X.w) } : Shared) = s3
  have I3 : Inv X pins σ (upd H2 D (SetO X.w D (fun _ => false) 0)) s3 := by
    rw [← hs3]
    refine I2.laid (t' := s2.toks) (fun b o e => Heap.get?_push_of_some _ e) (Nat.le_of_eq hD) ?_
    rw [← hD]
    exact setO_new (setR_fresh X.w)
  have h3 : s3.heap = s2.heap.push (objS X.w) := by rw [← hs3]
  have sz : ∀ b ∈ fp, b < s2.heap.objs.size := fun b hb => let ⟨o, e, _⟩ := T.obj _ _ st2 b hb; Heap.lt_size e
  have f3 : ∀ b ∈ fp, FpOk X pins (upd H2 D (SetO X.w D (fun _ => false) 0)) b ∧ b < s3.heap.objs.size := fun b hb => by
    have hlt := sz b hb
    refine ⟨⟨?_, (f2 b hb).2⟩, by rw [h3, Heap.size_push]; exact Nat.lt_succ_of_lt hlt⟩
    rw [upd_ne (by rw [← hD]; exact Nat.ne_of_lt hlt)]
    exact (f2 b hb).1
  have st3 : tn 0 s3.heap := T.keep _ _ _ st2 fun b _ o e => by rw [h3]; exact Heap.get?_push_of_some _ e
  have I4 := block_start I3 ok hN f3
  have pg := hg s3 (upd H2 D (SetO X.w D (fun _ => false) 0)) s3.heap.objs.size (cellsFrom (s3.heap.objs.size + 1) scope.names (cloFrom X.env.cells scope.names [])) fp
  have pt := ht s3 (upd H2 D (SetO X.w D (fun _ => false) 0)) s3.heap.objs.size (cellsFrom (s3.heap.objs.size + 1) scope.names (cloFrom X.env.cells scope.names [])) fp
  have pe := he s3 (upd H2 D (SetO X.w D (fun _ => false) 0)) s3.heap.objs.size (cellsFrom (s3.heap.objs.size + 1) scope.names (cloFrom X.env.cells scope.names [])) fp
  have pi1 := hi1 s3 (upd H2 D (SetO X.w D (fun _ => false) 0)) s3.heap.objs.size (cellsFrom (s3.heap.objs.size + 1) scope.names (cloFrom X.env.cells scope.names [])) fp
  have pg1 := hg1 s3 (upd H2 D (SetO X.w D (fun _ => false) 0)) s3.heap.objs.size (cellsFrom (s3.heap.objs.size + 1) scope.names (cloFrom X.env.cells scope.names [])) fp
  have pt1 := ht1 s3 (upd H2 D (SetO X.w D (fun _ => false) 0)) s3.heap.objs.size (cellsFrom (s3.heap.objs.size + 1) scope.names (cloFrom X.env.cells scope.names [])) fp
  show codeAny _ _ (.compStart (sc2 ex tg iter ifs tg1 iter1 ifs1 scope pos) 0 (.ref it) (.ref D) (compEnvC scope (cellsFrom (s3.heap.objs.size + 1) scope.names (cloFrom X.env.cells scope.names [])) s3.heap.objs.size X.env)) (compPost (model X.prog X.w) X.A X.xe use Qf (.ref D) s3.heap.objs.size) { s3 with heap := pushCells (s3.heap.push { cls := .type "dict", data := .dict #[] }) scope.names }
  have nfp : ∀ b ∈ fp, (upd H2 D (SetO X.w D (fun _ => false) 0)) b = none := fun b hb => (f3 b hb).1.1
  generalize hce : compEnvC scope (cellsFrom (s3.heap.objs.size + 1) scope.names (cloFrom X.env.cells scope.names [])) s3.heap.objs.size X.env = ce at I4 pg pt pe pi1 pg1 pt1 ⊢
  have cL : ce.locals = s3.heap.objs.size := by subst hce; rfl
  generalize hH3 : upd H2 D (SetO X.w D (fun _ => false) 0) = H3 at I3 I4 pg pt pe pi1 pg1 pt1 w0 nfp f3
  generalize hs4 : ({ s3 with heap := pushCells (s3.heap.push { cls := .type "dict", data := .dict #[] }) scope.names } : Shared) = s4 at I4 ⊢
  have st4 : tn 0 s4.heap := T.keep _ _ _ st3 fun b _ o e => by rw [← hs4]; exact pushCells_keeps _ _ _ _ (Heap.get?_push_of_some _ e)
  have stat : ∀ {σ' : St} {H' : Hp} {s' : Shared}, Inv (X.blk s3 H3 scope ce fp) [] σ' H' s' → (∀ b ∈ fp, H' b = none) → ∀ b ∈ fp, FpOk (X.blk s3 H3 scope ce fp) [] H' b := fun {σ' H' s'} I' hn b hb =>
    ⟨hn b hb, (I'.ok.exf b hb).1, I'.ok.exfs b hb, .inl hb, fun x c e => (I'.ok.exf b hb).2 x c e, fun p hp => absurd (show p ∈ ([] : List (Addr × Obj)) ++ [] from hp) (by simp)⟩
  have loop : codeAny (model X.prog X.w) X.A (.compLoop (sc2 ex tg iter ifs tg1 iter1 ifs1 scope pos) 0 (.ref it) (.ref D) ce) (compPost (model X.prog X.w) X.A X.xe use Qf (.ref D) s3.heap.objs.size) s4 := by
    refine sloop_out (hs1 ce) (fun n s' => ∃ i H', Inv (X.blk s3 H3 scope ce fp) [] (wipe σ (own.map (·.2))) H' s' ∧ tn i s'.heap ∧ (∀ b ∈ fp, H' b = none) ∧ W i n H') ?_ m0 ⟨0, H3, I4, st4, nfp, w0⟩
    rintro n s5 ⟨i, H5, I5, st5, n5, w5⟩
    rcases turn i n H5 w5 with ⟨stop, qq⟩ | ⟨go, Nx, hNx, step⟩
    · refine thnF (T.done (X.blk s3 H3 scope ce fp) rfl rfl rfl hc i [] s5 _ H5 (fun _ _ => False) I5 (stat I5 n5) st5 stop) fun r s6 ⟨hr, I6⟩ => ?_
      subst hr
      have I7 : Inv X pins σ H5 s6 := I3.call' (ch := fp) I6.os I6.base I6.hok I6.bare fun b hb => ⟨(f3 b hb).1.2.2.2.1, (f3 b hb).1.2.1, (f3 b hb).1.2.2.2.2.1, (f3 b hb).1.2.2.2.2.2⟩
      have nC : H5 s3.heap.objs.size = none := cL ▸ (show H5 ce.locals = none from I6.free)
      obtain ⟨m, hn, _⟩ := I6.loc
      exact hRR D s3.heap.objs.size s6 m H5 I7 qq (cL ▸ (show s6.heap.Ns ce.locals m from hn)) (I3.fpOk (Nat.le_refl _) nC)
    · refine thnF (T.item (X.blk s3 H3 scope ce fp) rfl rfl rfl hc i [] s5 _ H5 (fun _ _ => False) I5 (stat I5 n5) st5 go) fun r s6 ⟨u, hr, h6⟩ => ?_
      subst hr
      refine thnF h6 fun _ s7 ⟨x, H7, I7, r7, y7, st7, n7⟩ => ?_
      have I7' := I7.pinned (stat I7 n7) (T.obj _ _ st7)
      refine thnF (pg.run _ s7 _ H7 x u _ I7' r7 (step x H7 y7)) fun _ s8 ⟨σ8, H8, I8, hw8, q8⟩ => ?_
      refine thnF (pt.run _ s8 σ8 H8 _ I8 q8) fun b s9 ⟨H9, I9, q9⟩ => ?_
      have fin : ∀ {σ9 : St} {s' : Shared} {H' : Hp}, Inv (X.blk s3 H3 scope ce fp) ([] ++ pinsAt fp s7.heap) σ9 H' s' → (wipe σ (own.map (·.2))).length = σ9.length → (∀ (j : Nat) v, (wipe σ (own.map (·.2)))[j]? = some (some v) → σ9[j]? = some (some v)) → Nx H' →
          ∃ m, m < n ∧ ∃ i H', Inv (X.blk s3 H3 scope ce fp) [] (wipe σ (own.map (·.2))) H' s' ∧ tn i s'.heap ∧ (∀ b ∈ fp, H' b = none) ∧ W i m H' := fun {σ9 s' H'} I' hl hk nx => by
        obtain ⟨m', hm, w'⟩ := hNx H' nx
        have pin' : ∀ b ∈ fp, ∀ o, s7.heap.get? b = some o → s'.heap.get? b = some o ∧ H' b = none := fun b hb o e =>
          (fun z => ⟨z.1, z.2.1⟩) (I'.pin (b, o) (List.mem_append_right _ (List.mem_append_right _ (mem_pinsAt hb e))))
        refine ⟨m', hm, i + 1, H', (I'.unpinned (pins := [])).weak hl hk, T.keep _ _ _ st7 fun b hb o e => (pin' b hb o e).1, fun b hb => ?_, w'⟩
        obtain ⟨o, e, _⟩ := T.obj _ _ st7 b hb
        exact (pin' b hb o e).2
      have hl8 : (wipe σ (own.map (·.2))).length = σ8.length := (congrArg List.length hw8.symm).trans (wipe_length _ _)
      have hk8 : ∀ (j : Nat) v, (wipe σ (own.map (·.2)))[j]? = some (some v) → σ8[j]? = some (some v) := fun j v e => (wipe_some (hw8 ▸ e)).1
      have hk9 : ∀ (j : Nat) v, (wipe σ (own.map (·.2)))[j]? = some (some v) → (wipe σ8 vs1)[j]? = some (some v) := fun j v e => by
        obtain ⟨e1, e2⟩ := wipe_some (hw8 ▸ e)
        exact (wipe_out fun z => e2 (hv j z)).trans e1
      cases b with
      | false =>
        simp only [Bool.false_eq_true, if_false] at q9 ⊢
        exact fin I9 hl8 hk8 q9
      | true =>
        simp only [if_true] at q9 ⊢
        refine thnF (pi1.run _ s9 σ8 H9 _ I9 q9) fun xv s10 hx => thnF hx fun itv s11 h11 => ?_
        obtain ⟨it1, fp1, tn1, J1, H11, e1, I11, T1, st11, f11, W1, ⟨m1, w1⟩, turn1⟩ := h11
        subst e1
        have stat1 : ∀ {H' : Hp}, (∀ b ∈ fp1, H' b = none) → ∀ b ∈ fp1, FpOk (X.blk s3 H3 scope ce fp) ([] ++ pinsAt fp s7.heap) H' b := fun hn b hb => ⟨hn b hb, (f11 b hb).2⟩
        have loop1 : codeAny (model X.prog X.w) X.A (.compLoop (sc2 ex tg iter ifs tg1 iter1 ifs1 scope pos) 1 (.ref it1) (.ref D) ce)
            (fun r s' => match r with | .ok _ => ∃ m, m < n ∧ ∃ i H', Inv (X.blk s3 H3 scope ce fp) [] (wipe σ (own.map (·.2))) H' s' ∧ tn i s'.heap ∧ (∀ b ∈ fp, H' b = none) ∧ W i m H' | .error _ => False) s11 := by
          refine sloop_in (fun k s' => ∃ j H', Inv (X.blk s3 H3 scope ce fp) ([] ++ pinsAt fp s7.heap) (wipe σ8 vs1) H' s' ∧ tn1 j s'.heap ∧ (∀ b ∈ fp1, H' b = none) ∧ W1 j k H') ?_ m1 ⟨0, H11, I11.weak (wipe_length _ _) (fun j v e => (wipe_some e).1), st11, fun b hb => (f11 b hb).1, w1⟩
          rintro k s12 ⟨j, H12, I12, st12, n12, w12⟩
          rcases turn1 j k H12 w12 with ⟨stop1, nx1⟩ | ⟨go1, Nx1, hNx1, step1⟩
          · refine thnF (T1.done (X.blk s3 H3 scope ce fp) rfl rfl rfl hc j _ s12 (wipe σ8 vs1) H12 (fun _ _ => False) I12 (stat1 n12) st12 stop1) fun r s13 ⟨hr, I13⟩ => ?_
            subst hr
            exact fin I13 (hl8.trans (wipe_length σ8 vs1).symm) hk9 nx1
          · refine thnF (T1.item (X.blk s3 H3 scope ce fp) rfl rfl rfl hc j _ s12 (wipe σ8 vs1) H12 (fun _ _ => False) I12 (stat1 n12) st12 go1) fun r s13 ⟨u1, hr, h13⟩ => ?_
            subst hr
            refine thnF h13 fun _ s14 ⟨x1, H14, I14, r14, y14, st14, n14⟩ => ?_
            have I14' := I14.pinned (stat1 n14) (T1.obj _ _ st14)
            refine thnF (pg1.run _ s14 (wipe σ8 vs1) H14 x1 u1 _ I14' r14 (step1 x1 H14 y14)) fun _ s15 ⟨σ15, H15, I15, hw15, q15⟩ => ?_
            refine thnF (pt1.run _ s15 σ15 H15 _ I15 q15) fun b1 s16 ⟨H16, I16, q16⟩ => ?_
            have fin1 : ∀ {s' : Shared} {H' : Hp}, Inv (X.blk s3 H3 scope ce fp) (([] ++ pinsAt fp s7.heap) ++ pinsAt fp1 s14.heap) σ15 H' s' → Nx1 H' → ∃ m, m < k ∧ ∃ j H', Inv (X.blk s3 H3 scope ce fp) ([] ++ pinsAt fp s7.heap) (wipe σ8 vs1) H' s' ∧ tn1 j s'.heap ∧ (∀ b ∈ fp1, H' b = none) ∧ W1 j m H' := fun {s' H'} I' nx => by
              obtain ⟨m', hm, w'⟩ := hNx1 H' nx
              have pin' : ∀ b ∈ fp1, ∀ o, s14.heap.get? b = some o → s'.heap.get? b = some o ∧ H' b = none := fun b hb o e =>
                (fun z => ⟨z.1, z.2.1⟩) (I'.pin (b, o) (List.mem_append_right _ (List.mem_append_right _ (mem_pinsAt hb e))))
              refine ⟨m', hm, j + 1, H', I'.unpinned.weak ((congrArg List.length hw15.symm).trans (wipe_length _ _)) (fun j v e => (wipe_some (hw15 ▸ e)).1), T1.keep _ _ _ st14 fun b hb o e => (pin' b hb o e).1, fun b hb => ?_, w'⟩
              obtain ⟨o, e, _⟩ := T1.obj _ _ st14 b hb
              exact (pin' b hb o e).2
            cases b1 with
            | false =>
              simp only [Bool.false_eq_true, if_false] at q16 ⊢
              exact fin1 I16 q16
            | true =>
              simp only [if_true] at q16 ⊢
              refine thnF (pe.run _ s16 σ15 H16 _ I16 q16) fun z2 s18 ⟨yv, H18, I18, r18, c, S, n18, ek, hD18, hz18, nx⟩ => ?_
              subst ek
              obtain ⟨tk, rfl⟩ : ∃ tk, z2 = Value.int c tk := r18
              exact addI_ok (X := X.blk s3 H3 scope ce fp) I18 hD18 hz18 fun s19 I19 => fin1 I19 nx
        exact sstart_in loop1 (T1.self X.A 0 _ _ _ st11 loop1)
  exact PpSet.codeAny_compStart_set loop (T.self X.A 0 _ _ _ st4 loop)
theorem pe_sc2 {ex tg iter tg1 iter1 : Expr} {ifs ifs1 : List Expr} {scope : Scope} {own : List (Str × Nat)} {vs1 : List Nat} {pos : Pos} {wi wi1 : TI} {g g1 : TG} {tt tt1 : TT} {te : TE} (hc : X.calm = true) (hN : X.N.Nodup) (hi : PI X tg iter wi) (ok : BlkOk X.N X.env.scope scope own) (hv : ∀ i ∈ vs1, i ∈ own.map (·.2))
    (hg : AllB X scope fun Y => PG Y tg g) (ht : AllB X scope fun Y => PTs Y ifs tt) (hi1 : AllB X scope fun Y => PI Y tg1 iter1 wi1) (hg1 : AllB X scope fun Y => PG Y tg1 g1) (ht1 : AllB X scope fun Y => PTs Y ifs1 tt1) (he : AllB X scope fun Y => PE Y ex te)
    (hs : ∀ x, foldedSetIterable iter X.env x = pure x := by intro _; rfl) (hs1 : ∀ env x, foldedSetIterable iter1 env x = pure x := by intro _ _; rfl) :
    PE X (.SetComp ex [⟨tg, iter, ifs, 0⟩, ⟨tg1, iter1, ifs1, 0⟩] scope pos) (tSc2 X.w wi g tt wi1 g1 tt1 te (own.map (·.2)) vs1) := by
  refine ⟨fun pins s σ H Q I h => ?_⟩
  rw [PpSet.eval_SetComp]
  refine sc2_core hc hN I hi ok hv hg ht he hs hi1 hg1 ht1 hs1 h fun D C s' m H' I' q hn f => ⟨m, hn, fun h'' sb => ?_⟩
  obtain ⟨f0, f1, f2, f3, f4, f5⟩ := f
  exact ⟨.ref D, H', I'.turned (t' := s'.toks) (fun b o hb e => (sb.2 b hb).trans e) f0 f1 f3 f4 f5, rfl, q⟩
theorem sc1_core {pins : List (Addr × Obj)} {s : Shared} {σ : St} {H : Hp} {Q : VK} {ex tg iter : Expr} {ifs : List Expr} {scope : Scope} {own : List (Str × Nat)} {pos pos' : Pos} {wi : TI} {g : TG} {tt : TT} {te : TE} {use : Option (Value → Sem Unit)} {Qf : Value → Shared → Prop}
    (hc : X.calm = true) (hN : X.N.Nodup) (I : Inv X pins σ H s) (hi : PI X tg iter wi) (ok : BlkOk X.N X.env.scope scope own)
    (hg : AllB X scope fun Y => PG Y tg g) (ht : AllB X scope fun Y => PTs Y ifs tt) (he : AllB X scope fun Y => PE Y ex te)
    (hs : ∀ x, foldedSetIterable iter X.env x = pure x)
    (h : tSc1 X.w wi g tt te (own.map (·.2)) σ H Q)
    (hRR : ∀ D C s' m H', Inv X pins σ H' s' → Q (.ref D) H' → s'.heap.Ns C m → FpOk X pins H' C → compPost (model X.prog X.w) X.A X.xe use Qf (.ref D) C (.ok .next) s') :
    wpAny (model X.prog X.w) X.A (comprehension (.SetComp ex [⟨tg, iter, ifs, 0⟩] scope pos) scope X.env pos' (newSet (.type "set")) false (eval iter X.env) use) Qf X.xe s := by
  have hfree : ∀ y ∈ scope.names, y.2 = .free → ∃ c, X.env.cells.lookup y.1 = some c := fun y hy e => (ok.free y hy e).elim (fun k => I.ok.has _ (.inl k)) (fun k => I.ok.has _ (.inr k))
  refine wpAny_comprehension_free (use := use) rfl hs (closure_ok hfree) ok.kind (fun y hy e => by rw [ok.uniq y hy, e]) (thn (hi.run pins s σ H _ I h) fun xv s1 hx => thn hx fun itv s2 h2 => ?_)
  obtain ⟨it, fp, tn, J, H2, e, I2, T, st2, f2, q⟩ := h2
  subst e
  refine PpSet.newSet_ok (newEnv_comp ?_)
  generalize hD : s2.heap.objs.size = D
  have hDn : H2 D = none := I2.hok.fresh (Nat.le_of_eq hD)
  obtain ⟨W, ⟨m0, w0⟩, turn⟩ := q D hDn
  generalize hs3 : ({ s2 with heap := s2.heap.push (objS X.w) } : Shared) = s3
  have I3 : Inv X pins σ (upd H2 D (SetO X.w D (fun _ => false) 0)) s3 := by
    rw [← hs3]
    refine I2.laid (t' := s2.toks) (fun b o e => Heap.get?_push_of_some _ e) (Nat.le_of_eq hD) ?_
    rw [← hD]
    exact setO_new (setR_fresh X.w)
  have h3 : s3.heap = s2.heap.push (objS X.w) := by rw [← hs3]
  have sz : ∀ b ∈ fp, b < s2.heap.objs.size := fun b hb => let ⟨o, e, _⟩ := T.obj _ _ st2 b hb; Heap.lt_size e
  have f3 : ∀ b ∈ fp, FpOk X pins (upd H2 D (SetO X.w D (fun _ => false) 0)) b ∧ b < s3.heap.objs.size := fun b hb => by
    have hlt := sz b hb
    refine ⟨⟨?_, (f2 b hb).2⟩, by rw [h3, Heap.size_push]; exact Nat.lt_succ_of_lt hlt⟩
    rw [upd_ne (by rw [← hD]; exact Nat.ne_of_lt hlt)]
    exact (f2 b hb).1
  have st3 : tn 0 s3.heap := T.keep _ _ _ st2 fun b _ o e => by rw [h3]; exact Heap.get?_push_of_some _ e
  have I4 := block_start I3 ok hN f3
  have pg := hg s3 (upd H2 D (SetO X.w D (fun _ => false) 0)) s3.heap.objs.size (cellsFrom (s3.heap.objs.size + 1) scope.names (cloFrom X.env.cells scope.names [])) fp
  have pt := ht s3 (upd H2 D (SetO X.w D (fun _ => false) 0)) s3.heap.objs.size (cellsFrom (s3.heap.objs.size + 1) scope.names (cloFrom X.env.cells scope.names [])) fp
  have pe := he s3 (upd H2 D (SetO X.w D (fun _ => false) 0)) s3.heap.objs.size (cellsFrom (s3.heap.objs.size + 1) scope.names (cloFrom X.env.cells scope.names [])) fp
  show codeAny _ _ (.compStart (.SetComp ex [⟨tg, iter, ifs, 0⟩] scope pos) 0 (.ref it) (.ref D) (compEnvC scope (cellsFrom (s3.heap.objs.size + 1) scope.names (cloFrom X.env.cells scope.names [])) s3.heap.objs.size X.env)) (compPost (model X.prog X.w) X.A X.xe use Qf (.ref D) s3.heap.objs.size) { s3 with heap := pushCells (s3.heap.push { cls := .type "dict", data := .dict #[] }) scope.names }
  have nfp : ∀ b ∈ fp, (upd H2 D (SetO X.w D (fun _ => false) 0)) b = none := fun b hb => (f3 b hb).1.1
  generalize hce : compEnvC scope (cellsFrom (s3.heap.objs.size + 1) scope.names (cloFrom X.env.cells scope.names [])) s3.heap.objs.size X.env = ce at I4 pg pt pe ⊢
  have cL : ce.locals = s3.heap.objs.size := by subst hce; rfl
  generalize hH3 : upd H2 D (SetO X.w D (fun _ => false) 0) = H3 at I3 I4 pg pt pe w0 nfp f3
  generalize hs4 : ({ s3 with heap := pushCells (s3.heap.push { cls := .type "dict", data := .dict #[] }) scope.names } : Shared) = s4 at I4 ⊢
  have st4 : tn 0 s4.heap := T.keep _ _ _ st3 fun b _ o e => by rw [← hs4]; exact pushCells_keeps _ _ _ _ (Heap.get?_push_of_some _ e)
  have stat : ∀ {σ' : St} {H' : Hp} {s' : Shared}, Inv (X.blk s3 H3 scope ce fp) [] σ' H' s' → (∀ b ∈ fp, H' b = none) → ∀ b ∈ fp, FpOk (X.blk s3 H3 scope ce fp) [] H' b := fun {σ' H' s'} I' hn b hb =>
    ⟨hn b hb, (I'.ok.exf b hb).1, I'.ok.exfs b hb, .inl hb, fun x c e => (I'.ok.exf b hb).2 x c e, fun p hp => absurd (show p ∈ ([] : List (Addr × Obj)) ++ [] from hp) (by simp)⟩
  have loop : codeAny (model X.prog X.w) X.A (.compLoop (.SetComp ex [⟨tg, iter, ifs, 0⟩] scope pos) 0 (.ref it) (.ref D) ce) (compPost (model X.prog X.w) X.A X.xe use Qf (.ref D) s3.heap.objs.size) s4 := by
    refine PpSet.compLoopS_any (fun n s' => ∃ i H', Inv (X.blk s3 H3 scope ce fp) [] (wipe σ (own.map (·.2))) H' s' ∧ tn i s'.heap ∧ (∀ b ∈ fp, H' b = none) ∧ W i n H') ?_ m0 ⟨0, H3, I4, st4, nfp, w0⟩
    rintro n s5 ⟨i, H5, I5, st5, n5, w5⟩
    rcases turn i n H5 w5 with ⟨stop, qq⟩ | ⟨go, Nx, hNx, step⟩
    · refine thnF (T.done (X.blk s3 H3 scope ce fp) rfl rfl rfl hc i [] s5 _ H5 (fun _ _ => False) I5 (stat I5 n5) st5 stop) fun r s6 ⟨hr, I6⟩ => ?_
      subst hr
      have I7 : Inv X pins σ H5 s6 := I3.call' (ch := fp) I6.os I6.base I6.hok I6.bare fun b hb => ⟨(f3 b hb).1.2.2.2.1, (f3 b hb).1.2.1, (f3 b hb).1.2.2.2.2.1, (f3 b hb).1.2.2.2.2.2⟩
      have nC : H5 s3.heap.objs.size = none := cL ▸ (show H5 ce.locals = none from I6.free)
      obtain ⟨m, hn, _⟩ := I6.loc
      exact hRR D s3.heap.objs.size s6 m H5 I7 qq (cL ▸ (show s6.heap.Ns ce.locals m from hn)) (I3.fpOk (Nat.le_refl _) nC)
    · refine thnF (T.item (X.blk s3 H3 scope ce fp) rfl rfl rfl hc i [] s5 _ H5 (fun _ _ => False) I5 (stat I5 n5) st5 go) fun r s6 ⟨u, hr, h6⟩ => ?_
      subst hr
      refine thnF h6 fun _ s7 ⟨x, H7, I7, r7, y7, st7, n7⟩ => ?_
      have I7' := I7.pinned (stat I7 n7) (T.obj _ _ st7)
      refine thnF (pg.run _ s7 _ H7 x u _ I7' r7 (step x H7 y7)) fun _ s8 ⟨σ8, H8, I8, hw8, q8⟩ => ?_
      refine thnF (pt.run _ s8 σ8 H8 _ I8 q8) fun b s9 ⟨H9, I9, q9⟩ => ?_
      have fin : ∀ {σ9 : St} {s' : Shared} {H' : Hp}, Inv (X.blk s3 H3 scope ce fp) ([] ++ pinsAt fp s7.heap) σ9 H' s' → (wipe σ (own.map (·.2))).length = σ9.length → (∀ (j : Nat) v, (wipe σ (own.map (·.2)))[j]? = some (some v) → σ9[j]? = some (some v)) → Nx H' →
          ∃ m, m < n ∧ ∃ i H', Inv (X.blk s3 H3 scope ce fp) [] (wipe σ (own.map (·.2))) H' s' ∧ tn i s'.heap ∧ (∀ b ∈ fp, H' b = none) ∧ W i m H' := fun {σ9 s' H'} I' hl hk nx => by
        obtain ⟨m', hm, w'⟩ := hNx H' nx
        have pin' : ∀ b ∈ fp, ∀ o, s7.heap.get? b = some o → s'.heap.get? b = some o ∧ H' b = none := fun b hb o e =>
          (fun z => ⟨z.1, z.2.1⟩) (I'.pin (b, o) (List.mem_append_right _ (List.mem_append_right _ (mem_pinsAt hb e))))
        refine ⟨m', hm, i + 1, H', (I'.unpinned (pins := [])).weak hl hk, T.keep _ _ _ st7 fun b hb o e => (pin' b hb o e).1, fun b hb => ?_, w'⟩
        obtain ⟨o, e, _⟩ := T.obj _ _ st7 b hb
        exact (pin' b hb o e).2
      have hl8 : (wipe σ (own.map (·.2))).length = σ8.length := (congrArg List.length hw8.symm).trans (wipe_length _ _)
      have hk8 : ∀ (j : Nat) v, (wipe σ (own.map (·.2)))[j]? = some (some v) → σ8[j]? = some (some v) := fun j v e => (wipe_some (hw8 ▸ e)).1
      cases b with
      | false =>
        simp only [Bool.false_eq_true, if_false] at q9 ⊢
        exact fin I9 hl8 hk8 q9
      | true =>
        simp only [if_true] at q9 ⊢
        refine thnF (pe.run _ s9 σ8 H9 _ I9 q9) fun z2 s18 ⟨yv, H18, I18, r18, c, S, n18, ek, hD18, hz18, nx⟩ => ?_
        subst ek
        obtain ⟨tk, rfl⟩ : ∃ tk, z2 = Value.int c tk := r18
        exact addI_ok (X := X.blk s3 H3 scope ce fp) I18 hD18 hz18 fun s19 I19 => fin I19 hl8 hk8 nx
  exact PpSet.codeAny_compStart_set loop (T.self X.A 0 _ _ _ st4 loop)
theorem pe_sc1 {ex tg iter : Expr} {ifs : List Expr} {scope : Scope} {own : List (Str × Nat)} {pos : Pos} {wi : TI} {g : TG} {tt : TT} {te : TE} (hc : X.calm = true) (hN : X.N.Nodup) (hi : PI X tg iter wi) (ok : BlkOk X.N X.env.scope scope own)
    (hg : AllB X scope fun Y => PG Y tg g) (ht : AllB X scope fun Y => PTs Y ifs tt) (he : AllB X scope fun Y => PE Y ex te) (hs : ∀ x, foldedSetIterable iter X.env x = pure x := by intro _; rfl) :
    PE X (.SetComp ex [⟨tg, iter, ifs, 0⟩] scope pos) (tSc1 X.w wi g tt te (own.map (·.2))) := by
  refine ⟨fun pins s σ H Q I h => ?_⟩
  rw [PpSet.eval_SetComp]
  refine sc1_core hc hN I hi ok hg ht he hs h fun D C s' m H' I' q hn f => ⟨m, hn, fun h'' sb => ?_⟩
  obtain ⟨f0, f1, f2, f3, f4, f5⟩ := f
  exact ⟨.ref D, H', I'.turned (t' := s'.toks) (fun b o hb e => (sb.2 b hb).trans e) f0 f1 f3 f4 f5, rfl, q⟩
end
end L2
namespace DL
open PySem PySem.Spec PyProof.Rows L2
variable [TabCtx]
/-- what a set has when k is put in -/
def insI (acc : List Int) (k : Int) : List Int := if k ∈ acc then acc else acc ++ [k]
theorem insI_mem {acc : List Int} {k j : Int} : j ∈ insI acc k ↔ j ∈ acc ∨ j = k := by
  unfold insI
  split
  · rename_i h
    exact ⟨.inl, fun z => z.elim id fun e => e ▸ h⟩
  · simp
theorem insI_nodup {acc : List Int} {k : Int} (h : acc.Nodup) : (insI acc k).Nodup := by
  unfold insI
  split
  · exact h
  · rename_i hk
    exact List.nodup_append.mpr ⟨h, by simp, fun a ha b hb => by rw [List.mem_singleton.mp hb]; rintro rfl; exact hk ha⟩
def sO (w : World) (p : Addr) (acc : List Int) : HO := SetO w p (fun j => decide (j ∈ acc)) acc.length
theorem sO_nil {w : World} {p : Addr} : SetO w p (fun _ => false) 0 = sO w p [] := by
  unfold sO
  congr 1
theorem sO_ins {w : World} {p : Addr} {acc : List Int} {c : Int} : SetO w p (fun j => decide (j ∈ acc) || decide (j = c)) (if decide (c ∈ acc) = true then acc.length else acc.length + 1) = sO w p (insI acc c) := by
  have e1 : (fun j => decide (j ∈ acc) || decide (j = c)) = fun j => decide (j ∈ insI acc c) := by
    funext j
    rw [← Bool.decide_or]
    exact decide_eq_decide.mpr insI_mem.symm
  have e2 : (if decide (c ∈ acc) = true then acc.length else acc.length + 1) = (insI acc c).length := by
    unfold insI
    by_cases h : c ∈ acc
    · rw [if_pos (decide_eq_true h), if_pos h]
    · rw [if_neg (by simpa using h), if_neg h, List.length_append, List.length_singleton]
  unfold sO
  rw [e1, e2]
/-- sorted({y for x in .. if ..}) of whole numbers -/
def dSortSc1 (wd : DTI) (g : DTG) (tt : DTT) (te : DTE) (vs : List Nat) : DTE := fun s R Q => wd s R fun xs ok R1 => ∃ Pv : Nat → List Int → Rs → Prop, Pv 0 [] R1 ∧ (∀ i acc R, i ≤ xs.length → Pv i acc R → ok R ∧ acc.length < 1000) ∧
  (∀ (i : Nat) x acc R, xs[i]? = some x → Pv i acc R → g x (dwipe s vs) R fun s2 R2 => tt s2 R2 fun b R3 => if b = true then te s2 R3 fun y R4 => ∃ k, y = .int k ∧ Pv (i + 1) (insI acc k) R4 else Pv (i + 1) acc R3) ∧
  ∀ acc R, Pv xs.length acc R → acc.length < 64 ∧ ∀ ns : List Int, ns.Pairwise (· < ·) → (∀ k, k ∈ ns ↔ k ∈ acc) → Q (.lst (ns.map D.int)) R
theorem sorted_end {K : KF} {w : World} {G0 : Hp} {R0 : Rs} {H0 : Hp} {G : Hp} {R : Rs} {H : Hp} {p : Addr} {acc : List Int} {Qd : DK} {Q : VK} (e : Stp G0 R0 H0 G R H) (rh : RepH K G R H) (hd : H p = some (sO w p acc)) (k : CB K G0 R0 H0 Qd Q) (h : acc.length < 64 ∧ ∀ ns : List Int, ns.Pairwise (· < ·) → (∀ k, k ∈ ns ↔ k ∈ acc) → Qd (.lst (ns.map D.int)) R) : rSortedSet w [.ref p] H Q :=
  ⟨p, _, _, rfl, hd, h.1, fun ns a hs hm _ ha => by
    obtain ⟨s1, rh3⟩ := rh.imm (o := .lst (ns.map V.int)) ha
    exact k _ R _ _ _ (e.trans s1) rh3 (.lst upd_same (DVs.ofInts ns)) (h.2 ns hs fun j => by rw [hm j, decide_eq_true_eq])⟩
theorem LE.sortSc1 {K : KF} {w : World} {vs : List Nat} {wi : TI} {g0 : TG} {tt0 : TT} {te0 : TE} {wd : DTI} {g : DTG} {tt : DTT} {te : DTE} (hi : LI K wi wd) (hg : LGw K vs g0 g) (ht : LT K tt0 tt) (he : LE K te0 te) : LE K (tCB (rSortedSet w) (tCons (tSc1 w wi g0 tt0 te0 vs) tNil)) (dSortSc1 wd g tt te vs) := fun G sd s R H Qd Q sv rh q k => by
  refine hi G sd s R H _ _ sv rh q fun G1 R1 H1 J xs ok e1 rh1 sim q1 => fun p hp => ?_
  obtain ⟨Pv, p0, pok, step, fin⟩ := q1
  have r1p := rh1.free hp
  have g1p := rh1.gfree hp
  have sv1 := sv.st e1
  have put : ∀ {G2 R2 H2} (e : Stp G1 R1 H1 G2 R2 H2) (o : HO), RepH K G2 R2 H2 → R2 p = none → G2 p = none → RepH K G2 R2 (upd H2 p o) := fun {G2 R2 H2} e o rh hr hg => rh.hide hr hg (K.Φ.st (e.wr hp) rh1.φ) (K.F.B.st (e.wr hp) rh1.b)
  rw [sO_nil]
  refine ⟨fun i m H2 => ∃ G2 R2 acc, Stp G1 R1 H1 G2 R2 H2 ∧ RepH K G2 R2 H2 ∧ Hid G2 R2 H2 p (sO w p acc) ∧ i ≤ xs.length ∧ m = xs.length - i ∧ Pv i acc R2, ⟨_, G1, R1, [], (Stp.refl _ _ _).wr hp, put (Stp.refl _ _ _) _ rh1 r1p g1p, ⟨upd_same, r1p, g1p⟩, Nat.zero_le _, rfl, p0⟩, ?_⟩
  rintro i m H2 ⟨G2, R2, acc, e2, rh2, hd2, hi', rfl, p2⟩
  obtain ⟨okR, hlen⟩ := pok i acc R2 hi' p2
  obtain ⟨go, stop⟩ := sim G2 R2 H2 e2.g rh2 okR
  by_cases hlt : i < xs.length
  · obtain ⟨go1, go2⟩ := go i xs[i] (List.getElem?_eq_getElem hlt)
    refine .inr ⟨go1, fun H3 => ∃ G3 R3 acc, Stp G1 R1 H1 G3 R3 H3 ∧ RepH K G3 R3 H3 ∧ Hid G3 R3 H3 p (sO w p acc) ∧ Pv (i + 1) acc R3, ?_, fun x H' y => ?_⟩
    · rintro H3 ⟨G3, R3, acc3, e3, rh3, hd3, p3⟩
      exact ⟨xs.length - (i + 1), by omega, G3, R3, acc3, e3, rh3, hd3, hlt, rfl, p3⟩
    · obtain ⟨G3, e3, rh3, dv3⟩ := go2 x H' y
      have sv3 : SV K G3 (dwipe sd vs) (wipe s vs) := ((sv1.st e2).st e3).wipe vs
      refine hg G3 _ _ R2 H' _ _ _ _ sv3 rh3 dv3 (step i xs[i] acc R2 (List.getElem?_eq_getElem hlt) p2) fun G4 sd4 s4 R4 H4 e4 sv4 rh4 q4 w4 => ?_
      refine ⟨w4.trans (wipe_wipe vs), ?_⟩
      refine ht G4 sd4 s4 R4 H4 _ _ sv4 rh4 q4 fun G5 R5 H5 b e5 rh5 q5 => ?_
      cases b with
      | false =>
        have e25 := e3.trans (e4.trans e5)
        exact ⟨G5, R5, acc, e2.trans e25, rh5, hd2.st e25, q5⟩
      | true =>
        refine he G5 sd4 s4 R5 H5 _ _ (sv4.st e5) rh5 q5 fun G6 R6 H6 dk vk e6 rh6 dv6 q6 => ?_
        obtain ⟨c, ec, q7⟩ := q6
        subst ec
        cases dv6
        have e26 := e3.trans (e4.trans (e5.trans e6))
        obtain ⟨h1, h2, h3⟩ := hd2.st e26
        refine ⟨c, _, _, rfl, h1, by unfold scanBound; omega, G6, R6, insI acc c, (e2.trans e26).wr hp, put (e2.trans e26) _ rh6 h2 h3, ⟨?_, h2, h3⟩, q7⟩
        rw [sO_ins]
        exact upd_same
  · have e : i = xs.length := by omega
    subst e
    exact .inl ⟨stop _ (Nat.le_refl _), sorted_end (e1.trans e2) rh2 hd2.1 k (fin acc R2 p2)⟩
/-- sorted({z for x in .. if .. for y in .. if ..}) of whole numbers -/
def dSortSc2 (wd : DTI) (g : DTG) (tt : DTT) (wd1 : DTI) (g1 : DTG) (tt1 : DTT) (te : DTE) (vs vs1 : List Nat) : DTE := fun s R Q => wd s R fun xs ok R1 => ∃ Pv : Nat → List Int → Rs → Prop, Pv 0 [] R1 ∧ (∀ i acc R, i ≤ xs.length → Pv i acc R → ok R) ∧
  (∀ (i : Nat) x acc R, xs[i]? = some x → Pv i acc R → g x (dwipe s vs) R fun s2 R2 => tt s2 R2 fun b R3 =>
    if b = true then wd1 s2 R3 fun ys ok1 R4 => ∃ Pv1 : Nat → List Int → Rs → Prop, Pv1 0 acc R4 ∧ (∀ j acc R, j ≤ ys.length → Pv1 j acc R → ok1 R ∧ acc.length < 1000) ∧
      (∀ (j : Nat) y acc R, ys[j]? = some y → Pv1 j acc R → g1 y (dwipe s2 vs1) R fun s3 R5 => tt1 s3 R5 fun b R6 => if b = true then te s3 R6 fun z R7 => ∃ k, z = .int k ∧ Pv1 (j + 1) (insI acc k) R7 else Pv1 (j + 1) acc R6) ∧
      ∀ acc R, Pv1 ys.length acc R → Pv (i + 1) acc R
    else Pv (i + 1) acc R3) ∧
  ∀ acc R, Pv xs.length acc R → acc.length < 64 ∧ ∀ ns : List Int, ns.Pairwise (· < ·) → (∀ k, k ∈ ns ↔ k ∈ acc) → Q (.lst (ns.map D.int)) R
theorem LE.sortSc2 {K : KF} {w : World} {vs vs1 : List Nat} {wi wi1 : TI} {g0 g10 : TG} {tt0 tt10 : TT} {te0 : TE} {wd wd1 : DTI} {g g1 : DTG} {tt tt1 : DTT} {te : DTE} (hi : LI K wi wd) (hg : LGw K vs g0 g) (ht : LT K tt0 tt) (hi1 : LI K wi1 wd1) (hg1 : LGw K vs1 g10 g1) (ht1 : LT K tt10 tt1) (he : LE K te0 te) :
    LE K (tCB (rSortedSet w) (tCons (tSc2 w wi g0 tt0 wi1 g10 tt10 te0 vs vs1) tNil)) (dSortSc2 wd g tt wd1 g1 tt1 te vs vs1) := fun G sd s R H Qd Q sv rh q k => by
  refine hi G sd s R H _ _ sv rh q fun G1 R1 H1 J xs ok e1 rh1 sim q1 => fun p hp => ?_
  obtain ⟨Pv, p0, pok, step, fin⟩ := q1
  have r1p := rh1.free hp
  have g1p := rh1.gfree hp
  have sv1 := sv.st e1
  have put : ∀ {G2 R2 H2} (e : Stp G1 R1 H1 G2 R2 H2) (o : HO), RepH K G2 R2 H2 → R2 p = none → G2 p = none → RepH K G2 R2 (upd H2 p o) := fun {G2 R2 H2} e o rh hr hg => rh.hide hr hg (K.Φ.st (e.wr hp) rh1.φ) (K.F.B.st (e.wr hp) rh1.b)
  rw [sO_nil]
  refine ⟨fun i m H2 => ∃ G2 R2 acc, Stp G1 R1 H1 G2 R2 H2 ∧ RepH K G2 R2 H2 ∧ Hid G2 R2 H2 p (sO w p acc) ∧ i ≤ xs.length ∧ m = xs.length - i ∧ Pv i acc R2, ⟨_, G1, R1, [], (Stp.refl _ _ _).wr hp, put (Stp.refl _ _ _) _ rh1 r1p g1p, ⟨upd_same, r1p, g1p⟩, Nat.zero_le _, rfl, p0⟩, ?_⟩
  rintro i m H2 ⟨G2, R2, acc, e2, rh2, hd2, hi', rfl, p2⟩
  obtain ⟨go, stop⟩ := sim G2 R2 H2 e2.g rh2 (pok i acc R2 hi' p2)
  by_cases hlt : i < xs.length
  · obtain ⟨go1, go2⟩ := go i xs[i] (List.getElem?_eq_getElem hlt)
    refine .inr ⟨go1, fun H3 => ∃ G3 R3 acc, Stp G1 R1 H1 G3 R3 H3 ∧ RepH K G3 R3 H3 ∧ Hid G3 R3 H3 p (sO w p acc) ∧ Pv (i + 1) acc R3, ?_, fun x H' y => ?_⟩
    · rintro H3 ⟨G3, R3, acc3, e3, rh3, hd3, p3⟩
      exact ⟨xs.length - (i + 1), by omega, G3, R3, acc3, e3, rh3, hd3, hlt, rfl, p3⟩
    · obtain ⟨G3, e3, rh3, dv3⟩ := go2 x H' y
      have sv3 : SV K G3 (dwipe sd vs) (wipe s vs) := ((sv1.st e2).st e3).wipe vs
      refine hg G3 _ _ R2 H' _ _ _ _ sv3 rh3 dv3 (step i xs[i] acc R2 (List.getElem?_eq_getElem hlt) p2) fun G4 sd4 s4 R4 H4 e4 sv4 rh4 q4 w4 => ?_
      refine ⟨w4.trans (wipe_wipe vs), ?_⟩
      refine ht G4 sd4 s4 R4 H4 _ _ sv4 rh4 q4 fun G5 R5 H5 b e5 rh5 q5 => ?_
      cases b with
      | false =>
        have e25 := e3.trans (e4.trans e5)
        exact ⟨G5, R5, acc, e2.trans e25, rh5, hd2.st e25, q5⟩
      | true =>
        refine hi1 G5 sd4 s4 R5 H5 _ _ (sv4.st e5) rh5 q5 fun G6 R6 H6 J1 us ok1 e6 rh6 sim1 q6 => ?_
        obtain ⟨Pv1, p10, pok1, step1, fin1⟩ := q6
        have e26 := e3.trans (e4.trans (e5.trans e6))
        have sv6 := (sv4.st e5).st e6
        refine ⟨fun j m H7 => ∃ G7 R7 acc, Stp G1 R1 H1 G7 R7 H7 ∧ Same G6 G7 ∧ RepH K G7 R7 H7 ∧ Hid G7 R7 H7 p (sO w p acc) ∧ j ≤ us.length ∧ m = us.length - j ∧ Pv1 j acc R7, ⟨_, G6, R6, acc, e2.trans e26, Same.refl _, rh6, hd2.st e26, Nat.zero_le _, rfl, p10⟩, ?_⟩
        rintro j m H7 ⟨G7, R7, acc7, e7, g67, rh7, hd7, hj, rfl, p7⟩
        obtain ⟨hok1, hlen⟩ := pok1 j acc7 R7 hj p7
        obtain ⟨goi, stopi⟩ := sim1 G7 R7 H7 g67 rh7 hok1
        by_cases hjt : j < us.length
        · obtain ⟨goi1, goi2⟩ := goi j us[j] (List.getElem?_eq_getElem hjt)
          refine .inr ⟨goi1, fun H8 => ∃ G8 R8 acc, Stp G1 R1 H1 G8 R8 H8 ∧ Same G6 G8 ∧ RepH K G8 R8 H8 ∧ Hid G8 R8 H8 p (sO w p acc) ∧ Pv1 (j + 1) acc R8, ?_, fun x H' y => ?_⟩
          · rintro H8 ⟨G8, R8, acc8, e8, g68, rh8, hd8, p8⟩
            exact ⟨us.length - (j + 1), by omega, G8, R8, acc8, e8, g68, rh8, hd8, hjt, rfl, p8⟩
          · obtain ⟨G8, e8, rh8, dv8⟩ := goi2 x H' y
            have sv8 : SV K G8 (dwipe sd4 vs1) (wipe s4 vs1) := ((sv6.mono g67).st e8).wipe vs1
            refine hg1 G8 _ _ R7 H' _ _ _ _ sv8 rh8 dv8 (step1 j us[j] acc7 R7 (List.getElem?_eq_getElem hjt) p7) fun G9 sd9 s9 R9 H9 e9 sv9 rh9 q9 w9 => ?_
            refine ⟨w9.trans (wipe_wipe vs1), ?_⟩
            refine ht1 G9 sd9 s9 R9 H9 _ _ sv9 rh9 q9 fun Ga Ra Ha b ea rha qa => ?_
            cases b with
            | false =>
              have e7a := e8.trans (e9.trans ea)
              exact ⟨Ga, Ra, acc7, e7.trans e7a, g67.trans e7a.g, rha, hd7.st e7a, qa⟩
            | true =>
              refine he Ga sd9 s9 Ra Ha _ _ (sv9.st ea) rha qa fun Gb Rb Hb dk vk eb rhb dvb qb => ?_
              obtain ⟨c, ec, qb⟩ := qb
              subst ec
              cases dvb
              have e7b := e8.trans (e9.trans (ea.trans eb))
              obtain ⟨h1, h2, h3⟩ := hd7.st e7b
              refine ⟨c, _, _, rfl, h1, by unfold scanBound; omega, Gb, Rb, insI acc7 c, (e7.trans e7b).wr hp, g67.trans e7b.g, put (e7.trans e7b) _ rhb h2 h3, ⟨?_, h2, h3⟩, qb⟩
              rw [sO_ins]
              exact upd_same
        · have e : j = us.length := by omega
          subst e
          exact .inl ⟨stopi _ (Nat.le_refl _), G7, R7, acc7, e7, rh7, hd7, fin1 acc7 R7 p7⟩
  · have e : i = xs.length := by omega
    subst e
    exact .inl ⟨stop _ (Nat.le_refl _), sorted_end (e1.trans e2) rh2 hd2.1 k (fin acc R2 p2)⟩
section
variable {X : CxF} {ex tg iter tg1 iter1 : Expr} {ifs ifs1 : List Expr} {scope : Scope} {own : List (Str × Nat)} {vs1 : List Nat} {pos p q : Pos} {wd wd1 : DTI} {g g1 : DTG} {tt tt1 : DTT} {te : DTE}
theorem de_sortSc1 (hc : X.calm = true) (hs0 : Gl X "sorted") (hm : X.mg "sorted" = none) (hN : X.N.Nodup) (hi : DI X tg iter wd) (ok : BlkOk X.N X.env.scope scope own) (hg : AllD X scope fun Y => DGw Y (own.map (·.2)) tg g) (ht : AllD X scope fun Y => DTs Y ifs tt) (he : AllD X scope fun Y => DE Y ex te)
    (hs : ∀ x, foldedSetIterable iter X.env x = pure x := by intro _; rfl) (na : starEach [.SetComp ex [⟨tg, iter, ifs, 0⟩] scope pos] X.env = (false, eval (.SetComp ex [⟨tg, iter, ifs, 0⟩] scope pos) X.env) :: starEach [] X.env := by rfl) :
    DE X (.Call (.Name "sorted" p) [.SetComp ex [⟨tg, iter, ifs, 0⟩] scope pos] [] q) (dSortSc1 wd g tt te (own.map (·.2))) := by
  obtain ⟨wi, i1, i2⟩ := hi
  exact ⟨_, pe_callB (cr_sortedSet hc) hs0 hm bt_sorted (pa_cons (pe_sc1 hc hN i1 ok (fun s H C cl fp => (hg s H C cl fp).pg) (fun s H C cl fp => (ht s H C cl fp).pts) (fun s H C cl fp => (he s H C cl fp).pe) hs) pa_nil na) (by decide) (by decide) na rfl, LE.sortSc1 i2 LGw.c LT.c LE.c⟩
theorem de_sortSc2 (hc : X.calm = true) (hs0 : Gl X "sorted") (hm : X.mg "sorted" = none) (hN : X.N.Nodup) (hi : DI X tg iter wd) (ok : BlkOk X.N X.env.scope scope own) (hv : ∀ i ∈ vs1, i ∈ own.map (·.2)) (hg : AllD X scope fun Y => DGw Y (own.map (·.2)) tg g) (ht : AllD X scope fun Y => DTs Y ifs tt)
    (hi1 : AllD X scope fun Y => DI Y tg1 iter1 wd1) (hg1 : AllD X scope fun Y => DGw Y vs1 tg1 g1) (ht1 : AllD X scope fun Y => DTs Y ifs1 tt1) (he : AllD X scope fun Y => DE Y ex te)
    (hs : ∀ x, foldedSetIterable iter X.env x = pure x := by intro _; rfl) (hs1 : ∀ env x, foldedSetIterable iter1 env x = pure x := by intro _ _; rfl)
    (na : starEach [.SetComp ex [⟨tg, iter, ifs, 0⟩, ⟨tg1, iter1, ifs1, 0⟩] scope pos] X.env = (false, eval (.SetComp ex [⟨tg, iter, ifs, 0⟩, ⟨tg1, iter1, ifs1, 0⟩] scope pos) X.env) :: starEach [] X.env := by rfl) :
    DE X (.Call (.Name "sorted" p) [.SetComp ex [⟨tg, iter, ifs, 0⟩, ⟨tg1, iter1, ifs1, 0⟩] scope pos] [] q) (dSortSc2 wd g tt wd1 g1 tt1 te (own.map (·.2)) vs1) := by
  obtain ⟨wi, i1, i2⟩ := hi
  exact ⟨_, pe_callB (cr_sortedSet hc) hs0 hm bt_sorted (pa_cons (pe_sc2 hc hN i1 ok hv (fun s H C cl fp => (hg s H C cl fp).pg) (fun s H C cl fp => (ht s H C cl fp).pts) (fun s H C cl fp => (hi1 s H C cl fp).pi) (fun s H C cl fp => (hg1 s H C cl fp).pg) (fun s H C cl fp => (ht1 s H C cl fp).pts) (fun s H C cl fp => (he s H C cl fp).pe) hs hs1) pa_nil na) (by decide) (by decide) na rfl, LE.sortSc2 i2 LGw.c LT.c LI.c LGw.c LT.c LE.c⟩
end
end DL
end
section
set_option Elab.async false
set_option maxRecDepth 100000
set_option maxHeartbeats 2000000
set_option linter.all false
set_option autoImplicit false
/-! DLK16: {k: v} that may change; calls of defs with a rest; sorted of data that ascends; [.. for a, b in d.items() for ..] -/
namespace L2
open PySem PySem.Spec PyProof.Rows
section
variable {X : Cx}
theorem eachOf {s : Shared} {pins : List (Addr × Obj)} {σ : St} {H : Hp} (I : Inv X pins σ H s) : ∀ {vs : List V} {ds : List PyData} {us : List Value}, DpAll X.K H vs ds → Vals vs us →
    PySem.W.EachIs (fun u (b : V × PyData) => RelV b.1 u) us (vs.zip ds) ∧ PySem.W.EachIs (fun u (b : V × PyData) => ∃ as, Reads s.heap u b.2 as) us (vs.zip ds)
  | _, _, _, .nil, r => by cases r; exact ⟨.nil, .nil⟩
  | _, _, _, .cons a b, r => by
    cases r with
    | cons r1 r2 =>
      obtain ⟨h1, h2⟩ := eachOf I b r2
      exact ⟨.cons r1 h1, .cons (Dp.reads I _ _ _ a r1) h2⟩
theorem each_vals : ∀ {us : List Value} {bs : List (V × PyData)}, PySem.W.EachIs (fun u (b : V × PyData) => RelV b.1 u) us bs → Vals (bs.map (·.1)) us
  | _, _, .nil => .nil
  | _, _, .cons a b => .cons a (each_vals b)
/-- sorted(xs), the data ascending -/
def rSortA (X : Cx) : List V → Hp → VK → Prop := fun vs H Q => ∃ (a : Addr) (xs : List V) (ds : List PyData), vs = [V.ref a] ∧ SqL X.K H a xs ∧ DpAll X.K H xs ds ∧ xs.length = ds.length ∧ PySem.W.AllAlike ds ∧ PySem.W.Sortable ds ∧ ds.length ≤ sizeLine ∧ (∀ d ∈ ds, X.A.units + 2 + d.depth < cLine) ∧
  ds.Pairwise (fun a b => PySem.W.dataLt b a = false) ∧ ∀ p, H p = none → Q (.ref p) (upd H p (.lst xs))
theorem cr_sortA : CallR X (.builtin "sorted") (rSortA X) := by
  intro pins s σ H vs us Q I r h
  obtain ⟨a, xs, ds, rfl, hs, hd, hlen, hal, hk, hz, hu, hp, q⟩ := h
  obtain ⟨its, rv, hl, _⟩ := I.list hs
  rw [Vals.ref1 r]
  obtain ⟨e1, e2⟩ := eachOf I hd rv
  have em : (xs.zip ds).map (·.2) = ds := List.map_snd_zip (Nat.le_of_eq hlen.symm)
  have e0 : (xs.zip ds).map (·.1) = xs := List.map_fst_zip (Nat.le_of_eq hlen)
  have zl : (xs.zip ds).length = ds.length := by rw [List.length_zip, hlen, Nat.min_self]
  have pw : (xs.zip ds).Pairwise (fun a b => PySem.W.dataLe false (fun b : V × PyData => b.2) a b = true) := by
    rw [← em, List.pairwise_map] at hp
    exact hp.imp fun {a b} h => by rw [PySem.W.dataLe_eq]; simpa using h
  refine PySem.W.sorted_data (β := V × PyData) (enc := fun b => b.2) (R := fun u b => RelV b.1 u) (vs := its) (bs := xs.zip ds) hl.isList e1 e2 (by rw [em]; exact hal) (by rw [em]; exact hk) (by rw [zl]; exact hz) (fun b hb => hu _ (List.of_mem_zip hb).2) fun out ol eo => ?_
  rw [List.mergeSort_of_pairwise pw] at eo
  have vo := each_vals eo
  rw [e0] at vo
  obtain ⟨ep, he'⟩ := PyProof.Rows.sortedAll_at s.heap its (List.toArray out)
  exact ⟨.ref _, upd H (s.heap.objs.size + 1) (.lst xs), I.laid (t' := s.toks) (fun _ _ => PyProof.Rows.sortedAll_old) (Nat.le_succ _) ⟨by rw [hlen]; exact hz, out, ep, vo, he'⟩, rfl, q _ (I.hok.fresh (Nat.le_succ _))⟩
end
section
variable [DL.TabCtx] {X : Cx} {CX : CXT} {k : Nat} {f : Addr} {sp : Sp} {E : L2.St → XK} {x : Str} {p pos : Pos} {e : Expr} {es : List Expr} {t : TA}
theorem pe_callSt (F : DL.FnSt X.prog X.w X.K X.mg X.base CX k f sp) (hgd : X.A.guards = some []) (room : Room k X.A) (gl : Gl X x) (hm : X.mg x = some (.ref f)) (kp : PySem.W.keepIn X.K (.ref f) = true) (ps' : ∀ σ, PassesAt CX X σ (E σ))
    (ha : PA X (e :: es) t) (hdb : (x == ("__debug__" : Str)) = false := by decide) (he : starEach (e :: es) X.env = (false, eval e X.env) :: starEach es X.env := by rfl) (hpl : (backTo pos (starEach es X.env)).any (·.1) = false := by rfl) : PE X (.Call (.Name x p) (e :: es) [] pos) (tCallS sp E t) :=
  ⟨fun pins s σ H Q I h => wpAny_Call_Name_kw (ld_glob I gl hm (PySem.W.callWith_K (h₀ := X.base) I.ok.mod.kin kp
    (thn (ha.run pos pins s σ H _ I h) fun us s1 ⟨vs, H1, I1, r, q⟩ => ⟨I1.kIn, DL.goSt F hgd room (ps' σ) I1 r q⟩) he hpl) hdb)⟩
end
end L2
namespace DL
open PySem PySem.Spec PyProof.Rows L2
variable [TabCtx]
/-! ### a def with a rest, by its name -/
structure CalS (P : Program) (w : World) (K : KB) (mg : Str → Option Value) (base : Heap) (k : Nat) (x : Str) (dsp : DSp) : Prop where
  ex : ∃ f : Addr, FnSt P w K mg base (L2.CX P w) k f (spOf K dsp) ∧ mg x = some (.ref f) ∧ PySem.W.keepIn K (.ref f) = true
section
variable {X : CxF} {k j : Nat} {x : Str} {dsp : DSp} {Wd : DWX} {p pos : Pos} {e : Expr} {es : List Expr} {t : DTA}
theorem de_cS (c : CalS X.prog X.w X.K.F X.mg X.base k x dsp) (gd : X.A.guards = some []) (hr : Room j X.A) (hk : k ≤ j) (tk : TakesD X Wd) (hg : Gl X x) (ha : DA X (e :: es) t) (hdb : (x == ("__debug__" : Str)) = false := by decide)
    (he : starEach (e :: es) X.env = (false, eval e X.env) :: starEach es X.env := by rfl) (hpl : (backTo pos (starEach es X.env)).any (·.1) = false := by rfl) : DE X (.Call (.Name x p) (e :: es) [] pos) (dCallX dsp Wd t) := by
  obtain ⟨f, F, hm, kp⟩ := c.ex
  obtain ⟨W, tk, lw⟩ := tk
  obtain ⟨t0, a1, a2⟩ := ha
  exact ⟨_, pe_callSt F gd (hr.mono hk) hg hm kp (fun σ => passAt tk σ) a1 hdb he hpl, LE.callX a2 lw⟩
end
/-! ### sorted of data that ascends -/
theorem cd_sortA {X : CxF} {k : Nat} (hr : Room k X.A) : CallD X (.builtin "sorted") (rd1 fun d R Q => ∃ xs : List D, lstOf R d = some xs ∧ D.plains xs = true ∧ PySem.W.AllAlike (D.pys xs) ∧ PySem.W.Sortable (D.pys xs) ∧ xs.length ≤ sizeLine ∧ (∀ x ∈ xs, x.py.depth ≤ 60) ∧
    (D.pys xs).Pairwise (fun a b => PySem.W.dataLt b a = false) ∧ Q (.lst xs) R) := ⟨_, cr_sortA, LRA.one fun G R H d v Qd Q rh dv ⟨xs, hx, hp, hal, hk, hz, hdp, hpw, q⟩ k => by
  obtain ⟨a, vs, rfl, s1, d1⟩ := lst_dv hx rh dv
  have hl : vs.length = (D.pys xs).length := by rw [pys_map, List.length_map, d1.length]
  refine ⟨a, vs, D.pys xs, rfl, s1, DpAll.same rh.g (d1.dp hp), hl, hal, hk, by rw [pys_map, List.length_map]; exact hz, fun y hy => ?_, hpw, fun p hn => ?_⟩
  · rw [pys_map] at hy
    obtain ⟨x, hx, rfl⟩ := List.mem_map.mp hy
    have := hdp x hx
    have := Room.c65 hr
    have e : X.X.A = X.A := rfl
    rw [e]
    omega
  · obtain ⟨S1, rh2⟩ := rh.imm (o := .lst vs) hn
    exact k _ R _ _ _ S1 rh2 (.lst upd_same (d1.st S1)) q⟩
/-! ### a dict display that may change -/
def dDispR (trs : List (DTE × DTE)) : DTE := fun s R Q => dPairs trs s R fun ps R1 => ∃ kvs : List (Key × D), ps = kvs.map (fun p => (keyD p.1, p.2)) ∧ kvs.length ≤ 15 ∧ (kvs.map (·.1)).Nodup ∧ ∀ p, R1 p = none → Q (.ref p) (put R1 p (.dK kvs))
theorem de_dispR {X : CxF} {pos : Pos} {keys : List (Option Expr)} {values : List Expr} {trs : List (DTE × DTE)} (h : DPs X pos keys values trs) (hall : keys.all (·.isSome) = true := by rfl) (hl : keys.length = values.length := by rfl) (h0 : keys ≠ [] := by decide) (h15 : keys.length ≤ 15 := by decide) : DE X (.Dict keys values pos) (dDispR trs) := by
  obtain ⟨ts, a1, a2⟩ := dps_pps h
  refine ⟨_, pe_disp a1 hall hl h0 h15, fun G sd s R H Qd Q sv rh q k => fun p hp => ?_⟩
  have rp := rh.free hp
  have gp := rh.gfree hp
  have S0 : Stp G R H G R (upd H p (.dK [])) := (Stp.refl _ _ _).wr hp
  have rh0 := rh.hide (o := .dK []) rp gp (X.K.Φ.st S0 rh.φ) (X.K.F.B.st S0 rh.b)
  refine a2 G sd s R _ _ _ sv rh0 q fun G1 R1 H1 ps xs ys e1 rh1 dx dy q1 => ?_
  obtain ⟨kvs, rfl, hk15, hn, q2⟩ := q1
  have hd : Hid G1 R1 H1 p (.dK []) := Hid.st ⟨upd_same, rp, gp⟩ e1
  rw [List.map_map] at dx dy
  obtain ⟨ws, m1, m2⟩ := merge_dv (acc := []) (us := []) .nil (show DVs X.K G1 (kvs.map (·.2)) ys from dy)
  have em := mergeKD_nodup kvs [] (by simpa using hn)
  rw [List.nil_append] at em
  rw [em] at m1 m2
  have m1' : mergeK [] ((kvs.map (·.1)).zip ys) = (kvs.map (·.1)).zip ws := m1
  refine ⟨hd.1, (kvs.map (·.1)).zip ys, keys_zip (show DVs X.K G1 (kvs.map fun p => keyD p.1) xs from dx) (show DVs X.K G1 (kvs.map (·.2)) ys from dy), Nat.le_trans (by rw [List.length_zip, List.length_map]; exact Nat.min_le_left _ _) hk15, ?_⟩
  rw [m1']
  have e0 : Stp G R H G1 R1 H1 := S0.trans e1
  have S1 : Stp G R H G1 R1 (upd H1 p (.dK ((kvs.map (·.1)).zip ws))) := e0.wr hp
  have rh2 := rh1.hide (o := .dK ((kvs.map (·.1)).zip ws)) hd.2.1 hd.2.2 (X.K.Φ.st S1 rh.φ) (X.K.F.B.st S1 rh.b)
  have hd2 : Hid G1 R1 (upd H1 p (.dK ((kvs.map (·.1)).zip ws))) p (.dK ((kvs.map (·.1)).zip ws)) := ⟨upd_same, hd.2.1, hd.2.2⟩
  have S2 := S1.tellR (ro := .dK kvs) hp
  have rh3 := rh2.tellR (ro := .dK kvs) hd2 ⟨ws, rfl, m2⟩ (X.K.Φ.st S2 rh.φ) (X.K.F.B.st S2 rh.b)
  exact k _ _ _ _ _ S2 rh3 (.ref p) (q2 p hd.2.1)
/-! ### [.. for a, b in d.items() if .. for y in .. if ..], the dict locked meanwhile -/
def dLc2It (to : DTE) (g : DTG) (tt : DTT) (wd1 : DTI) (g1 : DTG) (tt1 : DTT) (te : DTE) (vs vs1 : List Nat) : DTE := fun s R Q => ∃ (d : Addr) (kvs : List (Key × D)), R d = some (.dK kvs) ∧ ∀ u : HO, to s (put R d (.raw u)) fun x R1 => x = .ref d ∧ R1 d = some (.raw u) ∧
  ∃ Pv : Nat → List D → Rs → Prop, Pv 0 [] R1 ∧ (∀ i acc R, i ≤ kvs.length → Pv i acc R → R d = some (.raw u)) ∧
  (∀ (i : Nat) k v acc R, kvs[i]? = some (k, v) → Pv i acc R → g (.tup [keyD k, v]) (dwipe s vs) R fun s2 R2 => tt s2 R2 fun b R3 =>
    if b = true then wd1 s2 R3 fun ys ok1 R4 => ∃ Pv1 : Nat → List D → Rs → Prop, Pv1 0 acc R4 ∧ (∀ j acc R, j ≤ ys.length → Pv1 j acc R → ok1 R ∧ acc.length < 100000) ∧
      (∀ (j : Nat) y acc R, ys[j]? = some y → Pv1 j acc R → g1 y (dwipe s2 vs1) R fun s3 R5 => tt1 s3 R5 fun b R6 => if b = true then te s3 R6 fun z R7 => Pv1 (j + 1) (acc ++ [z]) R7 else Pv1 (j + 1) acc R6) ∧
      ∀ acc R, Pv1 ys.length acc R → Pv (i + 1) acc R
    else Pv (i + 1) acc R3) ∧
  ∀ acc R, Pv kvs.length acc R → Q (.lst acc) (put R d (.dK kvs))
theorem keyD_dv {K : PySem.W.Frag} {G : Hp} (k : Key) : DV K G (keyD k) (kV k) := by cases k <;> constructor
theorem LE.lc2It {K : KF} {vs vs1 : List Nat} {wi1 : TI} {to0 : TE} {g0 g10 : TG} {tt0 tt10 : TT} {te0 : TE} {to : DTE} {wd1 : DTI} {g g1 : DTG} {tt tt1 : DTT} {te : DTE} (ho : LE K to0 to) (hg : LGw K vs g0 g) (ht : LT K tt0 tt) (hi1 : LI K wi1 wd1) (hg1 : LGw K vs1 g10 g1) (ht1 : LT K tt10 tt1) (he : LE K te0 te) :
    LE K (tLockE (tLc2 (iItems to0) g0 tt0 wi1 g10 tt10 te0 vs vs1)) (dLc2It to g tt wd1 g1 tt1 te vs vs1) := fun G sd s R H Qd Q sv rh q k => by
  obtain ⟨d, kvs, hd, q⟩ := q
  obtain ⟨hGd, u, hHd, us, rfl, dvs0⟩ := rh.r d _ hd
  refine ⟨d, _, hHd, trivial, fun od => ?_⟩
  generalize hkv : (kvs.map (·.1)).zip us = kus
  have hul : us.length = kvs.length := by rw [← dvs0.length, List.length_map]
  have hkl : kus.length = kvs.length := by rw [← hkv, List.length_zip, List.length_map, hul, Nat.min_self]
  obtain ⟨S, rhL⟩ := rh.chg (p := d) (o := .frz od (.dK kus)) (ro := .raw (.frz od (.dK kus))) hd rfl
  refine ho G sd s _ _ _ _ (sv.st S) rhL (q _) fun G1 R1 H1 x v e1 rh1 dv1 q1 => ?_
  obtain ⟨ex, hR1, Pv, p0, pok, step, fin⟩ := q1
  subst ex
  cases dv1
  have frz : ∀ {G2 R2 H2}, RepH K G2 R2 H2 → R2 d = some (.raw (.frz od (.dK kus))) → H2 d = some (.frz od (.dK kus)) := fun {G2 R2 H2} rh e => by
    obtain ⟨_, o, h1, h2⟩ := rh.r d _ e
    rw [h1, show o = .frz od (.dK kus) from h2]
  refine ⟨d, od, kus, rfl, frz rh1 hR1, fun p hp => ?_⟩
  have r1p := rh1.free hp
  have g1p := rh1.gfree hp
  have sv1 := (sv.st S).st e1
  refine ⟨fun i m H2 => ∃ G2 R2 acc ys, Stp G1 R1 H1 G2 R2 H2 ∧ RepH K G2 R2 H2 ∧ Hid G2 R2 H2 p (.lst ys) ∧ DVs K G2 acc ys ∧ i ≤ kvs.length ∧ m = kvs.length - i ∧ Pv i acc R2,
    ⟨_, G1, R1, [], [], (Stp.refl _ _ _).wr hp, rh1.hide r1p g1p (K.Φ.st ((Stp.refl _ _ _).wr hp) rh1.φ) (K.F.B.st ((Stp.refl _ _ _).wr hp) rh1.b), ⟨upd_same, r1p, g1p⟩, .nil, Nat.zero_le _, rfl, p0⟩, ?_⟩
  rintro i m H2 ⟨G2, R2, acc, ys, e2, rh2, hd2, dv2, hi', rfl, p2⟩
  have hR2 := pok i acc R2 hi' p2
  have hf2 := frz rh2 hR2
  by_cases hlt : i < kvs.length
  · refine .inr ⟨⟨hf2, by omega⟩, fun H3 => ∃ G3 R3 acc ys, Stp G1 R1 H1 G3 R3 H3 ∧ RepH K G3 R3 H3 ∧ Hid G3 R3 H3 p (.lst ys) ∧ DVs K G3 acc ys ∧ Pv (i + 1) acc R3, ?_, fun x H' y => ?_⟩
    · rintro H3 ⟨G3, R3, acc3, ys3, e3, rh3, hd3, dv3, p3⟩
      exact ⟨kvs.length - (i + 1), by omega, G3, R3, acc3, ys3, e3, rh3, hd3, dv3, hlt, rfl, p3⟩
    · obtain ⟨T, ky, vv, hkvi, rfl, hT, rfl⟩ := y
      obtain ⟨⟨kk, vd⟩, hkd⟩ : ∃ q, kvs[i]? = some q := ⟨_, List.getElem?_eq_getElem hlt⟩
      obtain ⟨uv, hu1, hu2⟩ := DVs.get (i := i) (d := vd) dvs0 (by rw [List.getElem?_map, hkd]; rfl)
      have hpair : kus[i]? = some (kk, uv) := by
        rw [← hkv, List.getElem?_zip_eq_some]
        exact ⟨by rw [List.getElem?_map, hkd]; rfl, hu1⟩
      rw [hpair] at hkvi
      obtain ⟨rfl, rfl⟩ : kk = ky ∧ uv = vv := by cases hkvi; exact ⟨rfl, rfl⟩
      obtain ⟨S3, rh3⟩ := rh2.imm (o := .tup [kV kk, uv]) hT
      have e3 := S3
      have dv3 : DV K (upd G2 T (.tup [kV kk, uv])) (.tup [keyD kk, vd]) (.ref T) := .tup (.inl (.inl upd_same)) (.cons (keyD_dv kk) (.cons ((((hu2.st S).st e1).st e2).st S3) .nil))
      have sv3 : SV K _ (dwipe sd vs) (wipe s vs) := ((sv1.st e2).st e3).wipe vs
      refine hg _ _ _ R2 _ _ _ _ _ sv3 rh3 dv3 (step i kk vd acc R2 hkd p2) fun G4 sd4 s4 R4 H4 e4 sv4 rh4 q4 w4 => ?_
      refine ⟨w4.trans (wipe_wipe vs), ?_⟩
      refine ht G4 sd4 s4 R4 H4 _ _ sv4 rh4 q4 fun G5 R5 H5 b e5 rh5 q5 => ?_
      cases b with
      | false =>
        have e25 := e3.trans (e4.trans e5)
        exact ⟨G5, R5, acc, ys, e2.trans e25, rh5, hd2.st e25, dv2.st e25, q5⟩
      | true =>
        refine hi1 G5 sd4 s4 R5 H5 _ _ (sv4.st e5) rh5 q5 fun G6 R6 H6 J1 us ok1 e6 rh6 sim1 q6 => ?_
        obtain ⟨Pv1, p10, pok1, step1, fin1⟩ := q6
        have e26 := e3.trans (e4.trans (e5.trans e6))
        have sv6 := (sv4.st e5).st e6
        refine ⟨fun j m H7 => ∃ G7 R7 acc ys, Stp G1 R1 H1 G7 R7 H7 ∧ Same G6 G7 ∧ RepH K G7 R7 H7 ∧ Hid G7 R7 H7 p (.lst ys) ∧ DVs K G7 acc ys ∧ j ≤ us.length ∧ m = us.length - j ∧ Pv1 j acc R7, ⟨_, G6, R6, acc, ys, e2.trans e26, Same.refl _, rh6, hd2.st e26, dv2.st e26, Nat.zero_le _, rfl, p10⟩, ?_⟩
        rintro j m H7 ⟨G7, R7, acc7, ys7, e7, g67, rh7, hd7, dv7, hj, rfl, p7⟩
        obtain ⟨hok1, hlen⟩ := pok1 j acc7 R7 hj p7
        obtain ⟨goi, stopi⟩ := sim1 G7 R7 H7 g67 rh7 hok1
        by_cases hjt : j < us.length
        · obtain ⟨goi1, goi2⟩ := goi j us[j] (List.getElem?_eq_getElem hjt)
          refine .inr ⟨goi1, fun H8 => ∃ G8 R8 acc ys, Stp G1 R1 H1 G8 R8 H8 ∧ Same G6 G8 ∧ RepH K G8 R8 H8 ∧ Hid G8 R8 H8 p (.lst ys) ∧ DVs K G8 acc ys ∧ Pv1 (j + 1) acc R8, ?_, fun x H' y => ?_⟩
          · rintro H8 ⟨G8, R8, acc8, ys8, e8, g68, rh8, hd8, dv8, p8⟩
            exact ⟨us.length - (j + 1), by omega, G8, R8, acc8, ys8, e8, g68, rh8, hd8, dv8, hjt, rfl, p8⟩
          · obtain ⟨G8, e8, rh8, dv8⟩ := goi2 x H' y
            have sv8 : SV K G8 (dwipe sd4 vs1) (wipe s4 vs1) := ((sv6.mono g67).st e8).wipe vs1
            refine hg1 G8 _ _ R7 H' _ _ _ _ sv8 rh8 dv8 (step1 j us[j] acc7 R7 (List.getElem?_eq_getElem hjt) p7) fun G9 sd9 s9 R9 H9 e9 sv9 rh9 q9 w9 => ?_
            refine ⟨w9.trans (wipe_wipe vs1), ?_⟩
            refine ht1 G9 sd9 s9 R9 H9 _ _ sv9 rh9 q9 fun Ga Ra Ha b ea rha qa => ?_
            cases b with
            | false =>
              have e7a := e8.trans (e9.trans ea)
              exact ⟨Ga, Ra, acc7, ys7, e7.trans e7a, g67.trans e7a.g, rha, hd7.st e7a, dv7.st e7a, qa⟩
            | true =>
              refine he Ga sd9 s9 Ra Ha _ _ (sv9.st ea) rha qa fun Gd Rd_ Hd dz vz ed rhd dvd qd => ?_
              have e7d := e8.trans (e9.trans (ea.trans ed))
              obtain ⟨h1, h2, h3⟩ := hd7.st e7d
              have dv9 := dv7.st e7d
              refine ⟨ys7, h1, ?_, Gd, Rd_, acc7 ++ [dz], ys7 ++ [vz], (e7.trans e7d).wr hp, g67.trans e7d.g, rhd.hide h2 h3 (K.Φ.st ((e7.trans e7d).wr hp) rh1.φ) (K.F.B.st ((e7.trans e7d).wr hp) rh1.b), ⟨upd_same, h2, h3⟩, dv9.append (.cons dvd .nil), qd⟩
              rw [← dv7.length]
              exact Nat.lt_trans hlen (by decide)
        · have e : j = us.length := by omega
          subst e
          exact .inl ⟨stopi _ (Nat.le_refl _), G7, R7, acc7, ys7, e7, rh7, hd7, dv7, fin1 acc7 R7 p7⟩
  · have e : i = kvs.length := by omega
    subst e
    refine .inl ⟨⟨hf2, by omega⟩, hf2, ?_⟩
    have e01 := S.trans e1
    have S2 := e01.trans (e2.tellG hp hd2.2.2 (o := .lst ys))
    obtain ⟨s1, rh3⟩ := rh2.tell hd2 (K.Φ.st S2 rh.φ) (K.F.B.st S2 rh.b)
    have dvF : DVs K (upd G2 p (.lst ys)) (kvs.map (·.2)) us := dvs0.mono S2.g
    obtain ⟨S4, rh4⟩ := rh3.chg (p := d) (o := .dK kus) (ro := .dK kvs) hR2 ⟨us, by rw [hkv], dvF⟩
    exact k _ _ _ _ _ (S2.trans S4) rh4 (.lst upd_same (dv2.mono s1)) (fin acc R2 p2)
section
variable {X : CxF} {elt dx tg1 iter1 : Expr} {elts : List Expr} {kk : Nat} {tpos apos cpos : Pos} {ifs ifs1 : List Expr} {scope : Scope} {own : List (Str × Nat)} {vs1 : List Nat} {pos : Pos} {to : DTE} {wd1 : DTI} {g g1 : DTG} {tt tt1 : DTT} {te : DTE}
theorem de_lc2It (hc : X.calm = true) (hN : X.N.Nodup) (ho : DE X dx to) (ok : BlkOk X.N X.env.scope scope own) (hv : ∀ i ∈ vs1, i ∈ own.map (·.2)) (hg : AllD X scope fun Y => DGw Y (own.map (·.2)) (.Tuple elts kk tpos) g) (ht : AllD X scope fun Y => DTs Y ifs tt)
    (hi1 : AllD X scope fun Y => DI Y tg1 iter1 wd1) (hg1 : AllD X scope fun Y => DGw Y vs1 tg1 g1) (ht1 : AllD X scope fun Y => DTs Y ifs1 tt1) (he : AllD X scope fun Y => DE Y elt te)
    (hbase : attributeBase dx "items" X.env (eval dx X.env) = eval dx X.env := by rfl) (hline : (apos.endLine == cpos.line) = true := by rfl)
    (hs : ∀ x, foldedSetIterable (.Call (.Attribute dx "items" apos) [] [] cpos) X.env x = pure x := by intro _; rfl) (hs1 : ∀ env x, foldedSetIterable iter1 env x = pure x := by intro _ _; rfl) :
    DE X (.ListComp elt [⟨.Tuple elts kk tpos, .Call (.Attribute dx "items" apos) [] [] cpos, ifs, 0⟩, ⟨tg1, iter1, ifs1, 0⟩] scope pos) (dLc2It to g tt wd1 g1 tt1 te (own.map (·.2)) vs1) := by
  obtain ⟨to0, o1, o2⟩ := ho
  exact ⟨_, pe_lock (pe_lc2 hc hN (pi_items o1 hbase hline) ok hv (fun s H C cl fp => (hg s H C cl fp).pg) (fun s H C cl fp => (ht s H C cl fp).pts) (fun s H C cl fp => (hi1 s H C cl fp).pi) (fun s H C cl fp => (hg1 s H C cl fp).pg) (fun s H C cl fp => (ht1 s H C cl fp).pts) (fun s H C cl fp => (he s H C cl fp).pe) hs hs1),
    LE.lc2It o2 LGw.c LT.c LI.c LGw.c LT.c LE.c⟩
end
end DL
end
section
set_option Elab.async false
set_option maxRecDepth 100000
set_option maxHeartbeats 4000000
set_option linter.all false
set_option autoImplicit false
namespace Law
open PySem PySem.Spec PyProof.Rows L2 DL TL TrA TrA.Tr
def top (i : Nat) : Stmt := PySem.Challenge.pw_eitherside_k49_whole_patterns_by_their_r.main.body.getD i (.Pass ⟨0, 0, 0, 0⟩)
abbrev bl : List Str := ["len", "isinstance", "repr", "abs", "max", "min", "sorted", "any", "all", "int", "str", "tuple", "list", "set", "bool", "range", "dict", "enumerate", "zip", "sum", "ValueError", "KeyError", "TypeError", "LookupError", "IndexError", "ArithmeticError", "RuntimeError"]
section
variable [TabCtx] {P : Program} {w : World} {K : KB} {mg : Str → Option Value} {base : Heap} {f : Addr} {fd : FuncData}
abbrev s_law_bag : Stmt := top 21
abbrev n_law_bag : List Str := ["_law_script", "_law_at", "_law_cell", "_law_digits"]
theorem sc_law_bag : FnScope n_law_bag ["_law_script", "_law_at"] (defScope s_law_bag) := ⟨rfl, rfl, rfl, by decide +kernel, rfl, by decide +kernel, by decide +kernel⟩
/-- a bag: three numbers, from which at most n were taken -/
def Bag (n : Nat) (R : Rs) (b : Addr) : Prop := ∃ x y z : Int, R b = some (.lst [.int x, .int y, .int z]) ∧ 0 ≤ x ∧ 0 ≤ y ∧ y < 2305843009213693951 ∧ 0 ≤ z ∧ z ≤ n
theorem Bag.mono {n m : Nat} {R : Rs} {b : Addr} (h : Bag n R b) (k : n ≤ m) : Bag m R b := by
  obtain ⟨x, y, z, h1, h2, h3, h4, h5, h6⟩ := h
  exact ⟨x, y, z, h1, h2, h3, h4, h5, by omega⟩
def spBag : DSp := fun ds R Q _ => ∃ (ns : List Int) (i : Int), ds = [.rls (ns.map D.int), .int i] ∧ 0 ≤ i ∧ i < 64 ∧ ∀ (b : Addr) (o : RO), R b = none → Bag 0 (put R b o) b → Q (.ref b) (put R b o)
theorem ok_bag (F : Fun K "_law_bag" "_law_bag" s_law_bag f fd) (Z : Blt mg bl) : FnG P w K mg base CX0 1 f fd ["_law_script", "_law_at"] (spOf K spBag) := by
  refine okD F sc_law_bag (fun ds R Q E h => by obtain ⟨ns, i, rfl, _⟩ := h; rfl) fun cdv A outer s H E gd hr => ?_
  refine ⟨_, (dss_cons (ds_asg (de_if (dt_cmp od_lt (dv 1) (de_callB cd_len (by rfl) (Z _ (by decide)) bt_len (da_cons (dv 0) da_nil)) (nomark _)) (de_ix xd_seq (dv 0) (dv 1) (fun _ _ => rfl)) de_int) (dg_name (i := 2) sc_law_bag.nd rfl (.inl rfl)))
    (dss_cons (ds_asg (de_if (dt_cmp od_ge (de_callB cd_abs (by rfl) (Z _ (by decide)) bt_abs (da_cons (dv 2) da_nil)) (de_op od_pow de_int de_int) (nomark _)) (de_callB cd_abs (by rfl) (Z _ (by decide)) bt_abs (da_cons (dv 2) da_nil)) de_int) (dg_name (i := 3) sc_law_bag.nd rfl (.inl rfl)))
    (dss_one (ds_ret (de_lst (da_cons (dv 3) (da_cons (de_op od_mod (de_op od_mul (de_op od_add (de_op od_add (de_op od_mod (dv 2) de_int) (de_op od_mul de_int (dv 1))) de_int) de_int) de_int) (da_cons de_int da_nil)))))))), fun ds R Qd Ed h => ?_⟩
  obtain ⟨ns, i, rfl, h0, h1, q⟩ := h
  simp only [dSeq, dGetK, rdInK, dGetT, dInT, rdSetK, dNewK, dDcF, dDc2F, dIEnum, dIZip, dISeq, dStar, dCont, dBrk, dOrT, rdInC, dCallK, dCVal, dMeth, dFld, dSetF, dNewF, dNew0F, dDisp, dPairs, dGet2, dGIndex, DL.keyOf, DL.keysOf, dCallL, dLam, dJoin, dJs, dFmtS, dRepl, dRaise, dCallX, dDelTail, dAugL, dXF, dAsg, dIf, dIfS, dB, dAnd, dOr, dNot, dAndV, dOrV, dNotV, dChain, dOp, dUn, dVar, dC, rdI0, rdI, dCB, dCall, rd1, dCons, dNil, dgName, dgSub, dgTup, dgLst, dSortSet, dgCons, dgNil, rdSetL, dRet, dLst, dLstF, dTup, dDrop, dNext, dPar, dBM, dBM0, dSl, dPart, dNoPart, dstart, dwipe, List.map_cons, List.map_nil, List.length_cons, List.length_nil, List.replicate_succ, List.replicate_zero, List.cons_append, List.nil_append, List.set_cons_zero, List.set_cons_succ, List.getElem?_cons_zero, List.getElem?_cons_succ, Nat.reduceAdd, Nat.reduceSub, Option.some.injEq, D.int.injEq, D.bl.injEq, D.str.injEq, D.ref.injEq, D.ty.injEq, D.tup.injEq, D.lst.injEq, D.rls.injEq, RO.lst.injEq, List.cons.injEq, exists_and_left, exists_eq_left', exists_eq_left, and_true, true_and, put_same, put_put, at0, at1, at2, ix30, ix31, ix32, and_assoc, dLcF, dLc, dLcT, dIRng1, dIRng2, dIRng3, dIStr, dITup, dILst, dYes, if_true, Bool.false_eq_true, if_false, eqS_ii, neS_ii, eqS_ss, neS_ss, decide_eq_true_eq, sq_tup, sq_lst, sq_rls, lo_lst, lo_rls, tr_lst, isi_tt, isi_st, isi_nt, isi_bt, isi_it, isi_lt, isi_ts, isi_ss, isi_ns, isi_bs, isi_is, isi_ls, List.append_nil, sz0, sz1, sz2, sz3, sz4, sz5, sz6, sl0, sl1, sl2, ty_put, ty_str, lo_put, sq_put, tr_put, reduceCtorEq, false_and, and_false, exists_false, or_false, false_or, Bool.not_false, Bool.not_true, List.isEmpty_nil, List.isEmpty_cons, app1_empty]
  have hfar : ∀ c : Int, 0 ≤ (if c < 0 then -c else c) := by intro c; split <;> omega
  have hi : (-(2 ^ 64) : Int) < i ∧ i < 2 ^ 64 := by omega
  have hm : ∀ a : Int, 0 ≤ a % 2305843009213693951 ∧ a % 2305843009213693951 < 2305843009213693951 := fun a => ⟨Int.emod_nonneg _ (by decide), Int.emod_lt_of_pos a (show (0 : Int) < 2305843009213693951 by decide)⟩
  have fi : ∀ (b : Addr) (x a : Int), 0 ≤ x → Bag 0 (put R b (.lst [.int x, .int (a % 2305843009213693951), .int 0])) b := fun b x a hx => ⟨x, _, 0, put_same, hx, (hm a).1, (hm a).2, by decide, by decide⟩
  split
  · rename_i hlt
    obtain ⟨c, hc, _⟩ := at_lt (l := ns) h0 (by simpa using hlt)
    refine ⟨_, at_map D.int hc, c, rfl, ⟨by decide, by decide, by decide⟩, ?_⟩
    by_cases hh : (10 : Int) ^ Int.toNat 18 ≤ if c < 0 then -c else c
    · rw [if_pos hh]
      exact ⟨c, rfl, c, rfl, by decide, .inr hi, .inr ⟨by decide, by decide⟩, by decide, fun p hp => fin (q p _ hp (fi _ _ _ (hfar c)))⟩
    · rw [if_neg hh]
      exact ⟨c, rfl, by decide, .inr hi, .inr ⟨by decide, by decide⟩, by decide, fun p hp => fin (q p _ hp (fi _ _ _ (Int.le_refl _)))⟩
  · refine ⟨⟨by decide, by decide, by decide⟩, ?_⟩
    rw [if_neg (by decide)]
    exact ⟨by decide, .inr hi, .inr ⟨by decide, by decide⟩, by decide, fun p hp => fin (q p _ hp (fi _ _ _ (Int.le_refl _)))⟩
theorem sum_lt {a z : Int} (h0 : 0 ≤ a) (h1 : a < 2305843009213693921) (h2 : 0 ≤ z ∧ z < 10000000000000000000) : (a + z).natAbs < 2 ^ 64 := by omega
abbrev s_law_take : Stmt := top 22
abbrev n_law_take : List Str := ["_law_bag_here", "_law_many", "_law_digit", "_law_mixed"]
theorem sc_law_take : FnScope n_law_take ["_law_bag_here", "_law_many"] (defScope s_law_take) := ⟨rfl, rfl, rfl, by decide +kernel, rfl, by decide +kernel, by decide +kernel⟩
def spTake : DSp := fun ds R Q _ => ∃ (b : Addr) (m : Int) (n : Nat), ds = [.ref b, .int m] ∧ Bag n R b ∧ n < 1000000000 ∧ 0 < m ∧ m < 1000000 ∧ ∀ (v : Int) (o : RO), 0 ≤ v → v < m → Bag (n + 1) (put R b o) b → Q (.int v) (put R b o)
theorem ok_take (F : Fun K "_law_take" "_law_take" s_law_take f fd) (Z : Blt mg bl) : FnG P w K mg base CX0 1 f fd ["_law_bag_here", "_law_many"] (spOf K spTake) := by
  refine okD F sc_law_take (fun ds R Q E h => by obtain ⟨b, m, n, rfl, _⟩ := h; rfl) fun cdv A outer s H E gd hr => ?_
  refine ⟨_, (dss_cons (ds_if (dt_cmp od_gt (de_ix xd_seq (dv 0) de_int (fun _ _ => rfl)) de_int (nomark _)) (dss_cons (ds_asg (de_op od_mod (de_ix xd_seq (dv 0) de_int (fun _ _ => rfl)) (dv 1)) (dg_name (i := 2) sc_law_take.nd rfl (.inl rfl)))
      (dss_cons (ds_asg (de_op od_fdiv (de_ix xd_seq (dv 0) de_int (fun _ _ => rfl)) (dv 1)) (dg_sub (dv 0) de_int dset_list))
      (dss_one (ds_ret (dv 2))))) dss_nil)
    (dss_cons (ds_asg (de_op od_add (de_ix xd_seq (dv 0) de_int (fun _ _ => rfl)) de_int) (dg_sub (dv 0) de_int dset_list))
    (dss_cons (ds_asg (de_op od_mod (de_op od_pow (de_op od_add (de_ix xd_seq (dv 0) de_int (fun _ _ => rfl)) (de_op od_mul de_int (de_ix xd_seq (dv 0) de_int (fun _ _ => rfl)))) de_int) de_int) (dg_name (i := 3) sc_law_take.nd rfl (.inl rfl)))
    (dss_cons (ds_asg (de_op od_mod (de_op od_pow (de_op od_add (dv 3) (de_op od_mul de_int (de_ix xd_seq (dv 0) de_int (fun _ _ => rfl)))) de_int) de_int) (dg_name (i := 3) sc_law_take.nd rfl (.inl rfl)))
    (dss_one (ds_ret (de_op od_mod (de_op od_fdiv (dv 3) de_int) (dv 1)))))))), fun ds R Qd Ed h => ?_⟩
  obtain ⟨b, m, n, rfl, ⟨x, y, z, hb, hx, hy, hy2, hz, hzn⟩, hn, h0, h1, q⟩ := h
  have hm : CDiv x m := ⟨h0, by omega⟩
  simp only [dSeq, dGetK, rdInK, dGetT, dInT, rdSetK, dNewK, dDcF, dDc2F, dIEnum, dIZip, dISeq, dStar, dCont, dBrk, dOrT, rdInC, dCallK, dCVal, dMeth, dFld, dSetF, dNewF, dNew0F, dDisp, dPairs, dGet2, dGIndex, DL.keyOf, DL.keysOf, dCallL, dLam, dJoin, dJs, dFmtS, dRepl, dRaise, dCallX, dDelTail, dAugL, dXF, dAsg, dIf, dIfS, dB, dAnd, dOr, dNot, dAndV, dOrV, dNotV, dChain, dOp, dUn, dVar, dC, rdI0, rdI, dCB, dCall, rd1, dCons, dNil, dgName, dgSub, dgTup, dgLst, dSortSet, dgCons, dgNil, rdSetL, dRet, dLst, dLstF, dTup, dDrop, dNext, dPar, dBM, dBM0, dSl, dPart, dNoPart, dstart, dwipe, List.map_cons, List.map_nil, List.length_cons, List.length_nil, List.replicate_succ, List.replicate_zero, List.cons_append, List.nil_append, List.set_cons_zero, List.set_cons_succ, List.getElem?_cons_zero, List.getElem?_cons_succ, Nat.reduceAdd, Nat.reduceSub, Option.some.injEq, D.int.injEq, D.bl.injEq, D.str.injEq, D.ref.injEq, D.ty.injEq, D.tup.injEq, D.lst.injEq, D.rls.injEq, RO.lst.injEq, List.cons.injEq, exists_and_left, exists_eq_left', exists_eq_left, and_true, true_and, put_same, put_put, at0, at1, at2, ix30, ix31, ix32, and_assoc, dLcF, dLc, dLcT, dIRng1, dIRng2, dIRng3, dIStr, dITup, dILst, dYes, if_true, Bool.false_eq_true, if_false, eqS_ii, neS_ii, eqS_ss, neS_ss, decide_eq_true_eq, sq_tup, sq_lst, sq_rls, lo_lst, lo_rls, tr_lst, isi_tt, isi_st, isi_nt, isi_bt, isi_it, isi_lt, isi_ts, isi_ss, isi_ns, isi_bs, isi_is, isi_ls, List.append_nil, sz0, sz1, sz2, sz3, sz4, sz5, sz6, sl0, sl1, sl2, ty_put, ty_str, lo_put, sq_put, tr_put, reduceCtorEq, false_and, and_false, exists_false, or_false, false_or, Bool.not_false, Bool.not_true, List.isEmpty_nil, List.isEmpty_cons, app1_empty, sq_ref hb, hb, sq_ref put_same]
  have bg : ∀ (x' : Int) (z' : Int), 0 ≤ x' → 0 ≤ z' → z' ≤ z + 1 → Bag (n + 1) (put R b (.lst [.int x', .int y, .int z'])) b := fun x' z' h1 h2 h3 => ⟨x', y, z', put_same, h1, hy, hy2, h2, by omega⟩
  split
  · refine ⟨h0, hm, fin (q _ _ (Int.emod_nonneg _ (by omega)) (Int.emod_lt_of_pos _ h0) (bg _ _ (Int.ediv_nonneg hx (by omega)) hz (by omega)))⟩
  · have hk : ∀ a : Int, 0 ≤ a % 2305843009213693921 ∧ a % 2305843009213693921 < 2305843009213693921 := fun a => ⟨Int.emod_nonneg _ (by decide), Int.emod_lt_of_pos a (by decide)⟩
    refine ⟨.inl ⟨by decide, by decide⟩, ⟨by decide, by decide, by omega⟩, by decide, .inl ⟨by decide, by decide⟩, ⟨by decide, by decide, ?_⟩, by decide, ⟨by decide, by decide⟩, h0, fin (q _ _ (Int.emod_nonneg _ (by omega)) (Int.emod_lt_of_pos _ h0) (bg _ _ hx (by omega) (Int.le_refl _)))⟩
    exact sum_lt (hk _).1 (hk _).2 (by omega)
theorem take_ok {n : Nat} {R : Rs} {b : Addr} {m : Int} {Q : DK} {E : DXK} (hb : Bag n R b) (hn : n < 1000000000) (h0 : 0 < m) (h1 : m < 1000000) (q : ∀ (v : Int) (o : RO), 0 ≤ v → v < m → Bag (n + 1) (put R b o) b → Q (.int v) (put R b o)) : spTake [.ref b, .int m] R Q E := ⟨b, m, n, rfl, hb, hn, h0, h1, q⟩
theorem Bag.self {n : Nat} {R : Rs} {b : Addr} (h : Bag n R b) : ∃ o, put R b o = R := by obtain ⟨x, y, z, e, _⟩ := h; exact ⟨_, put_self e⟩
end

end Law
end
section
set_option Elab.async false
set_option maxRecDepth 100000
set_option maxHeartbeats 4000000
set_option linter.all false
set_option autoImplicit false
namespace Law
open PySem PySem.Spec PyProof.Rows L2 DL TL TrA TrA.Tr
section
variable [TabCtx] {P : Program} {w : World} {K : KB} {mg : Str → Option Value} {base : Heap} {f : Addr} {fd : FuncData}
abbrev rsv : List Str := ["self", "other", "super", "raises"]
def letB (c : Nat) : Bool := decide (c ∈ tl abc)
def nmB (x : Str) : Bool := decide (1 ≤ x.length) && decide (x.length ≤ 6) && !decide (x ∈ rsv) && (tl x).all letB
/-- what is_class_name says of a value -/
def nmD : D → Bool
  | .str x => nmB x
  | _ => false
/-- a value of the kinds that laws hand in -/
def Vk : D → Bool
  | .non => true
  | .bl _ => true
  | .int _ => true
  | .str x => decide (x.length ≤ 2000)
  | .tup _ => true
  | .lst _ => true
  | _ => false
theorem nmB_len {x : Str} (h : nmB x = true) : x.length ≤ 6 := by
  unfold nmB at h
  simp only [Bool.and_eq_true, decide_eq_true_eq] at h
  exact h.1.1.2
theorem nm_block {R : Rs} {x : Str} {Qd : DK} (hx : x.length ≤ 2000) (q : Qd (.bl (nmB x)) R) : x.length ≤ sizeLine ∧
    if 1 ≤ (x.length : Int) then
      if (!decide ((x.length : Int) ≤ 6)) = true then DL.Fin Qd (D.bl false) R
      else
        ∃ x_1, [D.str (Str.ofString "self"), D.str (Str.ofString "other"), D.str (Str.ofString "super"), D.str (Str.ofString "raises")] = List.map D.str x_1 ∧
            if x ∈ x_1 then DL.Fin Qd (D.bl false) R
            else
              (List.map (fun c => D.str { cps := #[c] }) x.cps.toList).length ≤ sizeLine ∧
                ∃ Pv : Nat → List D → Rs → Prop,
                  Pv 0 [] R ∧
                    (∀ (i : Nat) (acc : List D) (R : Rs), i ≤ (List.map (fun c => D.str { cps := #[c] }) x.cps.toList).length → Pv i acc R → True) ∧
                      (∀ (i : Nat) (x_2 : D) (acc : List D) (R : Rs),
                          (List.map (fun c => D.str { cps := #[c] }) x.cps.toList)[i]? = some x_2 → acc.length ≤ i → Pv i acc R →
                                ∃ c, x_2 = D.str { cps := #[c] } ∧ Pv (i + 1) (acc ++ [D.bl (decide (c ∈ abc.cps.toList))]) R) ∧
                        ∀ (acc : List D) (R : Rs), acc.length ≤ (List.map (fun c => D.str { cps := #[c] }) x.cps.toList).length →
                            Pv (List.map (fun c => D.str { cps := #[c] }) x.cps.toList).length acc R → ∃ xs, acc = List.map D.bl xs ∧ DL.Fin Qd (D.bl (xs.all id)) R
    else DL.Fin Qd (D.bl false) R := by
  refine ⟨by rw [sizeLine_eq]; omega, ?_⟩
  have q1 : ∀ b : Bool, nmB x = b → DL.Fin Qd (.bl b) R := fun b e => by subst e; exact fin q
  have hl : (tl x).length = x.length := (DL.len_tl x).symm
  split
  · rename_i h1
    split
    · rename_i h6
      exact q1 false (by unfold nmB; rw [decide_eq_false (p := x.length ≤ 6) (by simp at h6; omega)]; simp)
    · rename_i h6
      refine ⟨rsv, rfl, ?_⟩
      split
      · rename_i hr
        exact q1 false (by unfold nmB; rw [decide_eq_true (p := x ∈ rsv) hr]; simp)
      · rename_i hr
        refine ⟨by rw [List.length_map, sizeLine_eq]; show (tl x).length ≤ _; omega, PvM (tl x) (fun c => .bl (letB c)) R, ⟨rfl, rfl⟩, fun _ _ _ _ _ => trivial, ?_, ?_⟩
        · rintro i y acc R' hy hl ⟨rfl, rfl⟩
          obtain ⟨v, rfl, hv, _, e⟩ := take_step hy
          exact ⟨v, rfl, PvM.go e⟩
        · rintro acc R' _ hp
          obtain ⟨rfl, rfl⟩ := hp.end (List.length_map _)
          refine ⟨(tl x).map letB, by rw [List.map_map]; rfl, q1 _ ?_⟩
          unfold nmB
          rw [decide_eq_true (p := 1 ≤ x.length) (by omega), decide_eq_true (p := x.length ≤ 6) (by simp at h6; omega), decide_eq_false hr, List.all_map]
          rfl
  · exact q1 false (by unfold nmB; rw [decide_eq_false (p := 1 ≤ x.length) (by omega)]; simp)
abbrev s_is_class_name : Stmt := top 6
abbrev n_is_class_name : List Str := ["value", "sign"]
theorem sc_is_class_name : FnScope n_is_class_name ["value"] (defScope s_is_class_name) := ⟨rfl, rfl, rfl, by decide +kernel, rfl, by decide +kernel, by decide +kernel⟩
def spIsName : DSp := fun ds R Q _ => ∃ d : D, ds = [d] ∧ Vk d = true ∧ Q (.bl (nmD d)) R
theorem ok_is_class_name (F : Fun K "is_class_name" "is_class_name" s_is_class_name f fd) (Z : Blt mg bl) (g_LETTERS : GC K mg "LETTERS" (.str abc)) (g_LONGEST_NAME : GC K mg "LONGEST_NAME" (.int 6)) (g_RESERVED : GC K mg "RESERVED" (.tup (rsv.map D.str))) : FnG P w K mg base CX0 1 f fd ["value"] (spOf K spIsName) := by
  refine okD F sc_is_class_name (fun ds R Q E h => by obtain ⟨d, rfl, _⟩ := h; rfl) fun cdv A outer s H E gd hr => ?_
  refine ⟨_, (dss_cons (ds_if (dw_or (dt_not (dt_val (de_callB cd_isi (by rfl) (Z _ (by decide)) bt_isi (da_cons (dv 0) (da_cons (de_ty (by rfl) (Z _ (by decide)) bt_str) da_nil))))) (dw_or (dt_not (dt_chain od_le od_le de_int (de_callB cd_lenS (by rfl) (Z _ (by decide)) bt_len (da_cons (dv 0) da_nil)) (de_glob g_LONGEST_NAME (by rfl)))) (dw_or1 (dt_cmp od_inS (dv 0) (de_glob g_RESERVED (by rfl)) (by with_unfolding_all rfl))))).dt (dss_one (ds_ret de_bl)) dss_nil)
    (dss_one (ds_ret (de_callB (cd_all rfl) (by rfl) (Z _ (by decide)) bt_all (da_cons (de_lcF (own := [("sign", 1)]) rfl sc_is_class_name.nd (lcd (di_str (dv 0)) (blkOk_by (N := n_is_class_name) (sc := defScope s_is_class_name) (by decide +kernel)) (fun _ _ _ _ _ => (dgw_name (i := 1) sc_is_class_name.nd rfl (.inl rfl))) (fun _ _ _ _ _ => dts_nil) (fun _ _ _ _ _ => (de_cmp od_inSign (dv 1) (de_glob g_LETTERS (by rfl)) (by with_unfolding_all rfl))))) da_nil))))), fun ds R Qd Ed h => ?_⟩
  obtain ⟨d, rfl, hv, q⟩ := h
  cases d with
  | ty _ => cases hv
  | ref _ => cases hv
  | rls _ => cases hv
  | ins _ _ _ => cases hv
  | dK _ _ => cases hv
  | dT _ _ => cases hv
  | lam _ => cases hv
  | str x =>
    have hx : x.length ≤ 2000 := by simpa [Vk] using hv
    simp only [rdInS, dSeq, dGetK, rdInK, dGetT, dInT, rdSetK, dNewK, dDcF, dDc2F, dIEnum, dIZip, dISeq, dStar, dCont, dBrk, dOrT, rdInC, dCallK, dCVal, dMeth, dFld, dSetF, dNewF, dNew0F, dDisp, dPairs, dGet2, dGIndex, DL.keyOf, DL.keysOf, dCallL, dLam, dJoin, dJs, dFmtS, dRepl, dRaise, dCallX, dDelTail, dAugL, dXF, dAsg, dIf, dIfS, dB, dAnd, dOr, dNot, dAndV, dOrV, dNotV, dChain, dOp, dUn, dVar, dC, rdI0, rdI, dCB, dCall, rd1, dCons, dNil, dgName, dgSub, dgTup, dgLst, dSortSet, dgCons, dgNil, rdSetL, dRet, dLst, dLstF, dTup, dDrop, dNext, dPar, dBM, dBM0, dSl, dPart, dNoPart, dstart, dwipe, List.map_cons, List.map_nil, List.length_cons, List.length_nil, List.replicate_succ, List.replicate_zero, List.cons_append, List.nil_append, List.set_cons_zero, List.set_cons_succ, List.getElem?_cons_zero, List.getElem?_cons_succ, Nat.reduceAdd, Nat.reduceSub, Option.some.injEq, D.int.injEq, D.bl.injEq, D.str.injEq, D.ref.injEq, D.ty.injEq, D.tup.injEq, D.lst.injEq, D.rls.injEq, RO.lst.injEq, List.cons.injEq, exists_and_left, exists_eq_left', exists_eq_left, and_true, true_and, put_same, put_put, at0, at1, at2, ix30, ix31, ix32, and_assoc, dLcF, dLc, dLcT, dIRng1, dIRng2, dIRng3, dIStr, dITup, dILst, dYes, if_true, Bool.false_eq_true, if_false, eqS_ii, neS_ii, eqS_ss, neS_ss, decide_eq_true_eq, sq_tup, sq_lst, sq_rls, lo_lst, lo_rls, tr_lst, isi_tt, isi_st, isi_nt, isi_bt, isi_it, isi_lt, isi_ts, isi_ss, isi_ns, isi_bs, isi_is, isi_ls, List.append_nil, sz0, sz1, sz2, sz3, sz4, sz5, sz6, sl0, sl1, sl2, ty_put, ty_str, lo_put, sq_put, tr_put, reduceCtorEq, false_and, and_false, exists_false, or_false, false_or, Bool.not_false, Bool.not_true, List.isEmpty_nil, List.isEmpty_cons, app1_empty]
    exact nm_block hx q
  | _ =>
    simp only [dSeq, dGetK, rdInK, dGetT, dInT, rdSetK, dNewK, dDcF, dDc2F, dIEnum, dIZip, dISeq, dStar, dCont, dBrk, dOrT, rdInC, dCallK, dCVal, dMeth, dFld, dSetF, dNewF, dNew0F, dDisp, dPairs, dGet2, dGIndex, DL.keyOf, DL.keysOf, dCallL, dLam, dJoin, dJs, dFmtS, dRepl, dRaise, dCallX, dDelTail, dAugL, dXF, dAsg, dIf, dIfS, dB, dAnd, dOr, dNot, dAndV, dOrV, dNotV, dChain, dOp, dUn, dVar, dC, rdI0, rdI, dCB, dCall, rd1, dCons, dNil, dgName, dgSub, dgTup, dgLst, dSortSet, dgCons, dgNil, rdSetL, dRet, dLst, dLstF, dTup, dDrop, dNext, dPar, dBM, dBM0, dSl, dPart, dNoPart, dstart, dwipe, List.map_cons, List.map_nil, List.length_cons, List.length_nil, List.replicate_succ, List.replicate_zero, List.cons_append, List.nil_append, List.set_cons_zero, List.set_cons_succ, List.getElem?_cons_zero, List.getElem?_cons_succ, Nat.reduceAdd, Nat.reduceSub, Option.some.injEq, D.int.injEq, D.bl.injEq, D.str.injEq, D.ref.injEq, D.ty.injEq, D.tup.injEq, D.lst.injEq, D.rls.injEq, RO.lst.injEq, List.cons.injEq, exists_and_left, exists_eq_left', exists_eq_left, and_true, true_and, put_same, put_put, at0, at1, at2, ix30, ix31, ix32, and_assoc, dLcF, dLc, dLcT, dIRng1, dIRng2, dIRng3, dIStr, dITup, dILst, dYes, if_true, Bool.false_eq_true, if_false, eqS_ii, neS_ii, eqS_ss, neS_ss, decide_eq_true_eq, sq_tup, sq_lst, sq_rls, lo_lst, lo_rls, tr_lst, isi_tt, isi_st, isi_nt, isi_bt, isi_it, isi_lt, isi_ts, isi_ss, isi_ns, isi_bs, isi_is, isi_ls, List.append_nil, sz0, sz1, sz2, sz3, sz4, sz5, sz6, sl0, sl1, sl2, ty_put, ty_str, lo_put, sq_put, tr_put, reduceCtorEq, false_and, and_false, exists_false, or_false, false_or, Bool.not_false, Bool.not_true, List.isEmpty_nil, List.isEmpty_cons, app1_empty]
    exact fin q
end

end Law
end
section
set_option Elab.async false
set_option maxRecDepth 100000
set_option maxHeartbeats 4000000
set_option linter.all false
set_option autoImplicit false
namespace Law
open PySem PySem.Spec PyProof.Rows L2 DL TL TrA TrA.Tr
section
variable [TabCtx] {P : Program} {w : World} {K : KB} {mg : Str → Option Value} {base : Heap} {f : Addr} {fd : FuncData}
abbrev s_law_names : Stmt := top 23
abbrev n_law_names : List Str := ["_law_bag_here", "_law_many", "_law_letters", "_law_first", "_law_pace", "_law_turn"]
theorem sc_law_names : FnScope n_law_names ["_law_bag_here", "_law_many"] (defScope s_law_names) := ⟨rfl, rfl, rfl, by decide +kernel, rfl, by decide +kernel, by decide +kernel⟩
def repQ (c k : Nat) : Str := Txt.mul ⟨#[97 + c]⟩ ((k : Nat) : Int)
theorem repQ_ok : ∀ c : Nat, c < 26 → ∀ k : Nat, k < 4 → 1 ≤ k → nmB (repQ c k) = true ∧ (repQ c k).length ≤ 3 ∧ (tl (repQ c k)).head? = some (97 + c) := by decide +kernel
theorem mulQ {c k : Nat} (h : k < 4) : PySem.MulOk ⟨#[97 + c]⟩ ((k : Nat) : Int) := mulOk_of 1 6 (by show (1 : Nat) ≤ 1; decide) (by omega) (by omega) (by decide) (by decide)
theorem letQ : ∀ c : Nat, c < 26 → atI (Str.ofString "abcdefghijklmnopqrstuvwxyz").cps.toList (c : Int) = some (97 + c) := by decide +kernel
/-- the names so far -/
def NsQ (a p : Nat) (ns : List Str) : Prop := ∀ (i : Nat) (x : Str), ns[i]? = some x → ∃ k : Nat, 1 ≤ k ∧ k < 4 ∧ x = repQ ((a + p * i) % 26) k
theorem NsQ.good {a p : Nat} {ns : List Str} (h : NsQ a p ns) : ∀ x ∈ ns, nmB x = true ∧ x.length ≤ 3 := fun x hx => by
  obtain ⟨i, hi⟩ := List.getElem?_of_mem hx
  obtain ⟨k, h1, h2, rfl⟩ := h i x hi
  have := repQ_ok ((a + p * i) % 26) (by omega) k h2 h1
  exact ⟨this.1, this.2.1⟩
theorem NsQ.nd {a p : Nat} {ns : List Str} (h : NsQ a p ns) (hp : p = 1 ∨ p = 3 ∨ p = 5 ∨ p = 7) (hl : ns.length ≤ 26) : ns.Nodup := by
  unfold List.Nodup
  refine List.pairwise_iff_getElem.mpr fun i j hi hj hij he => ?_
  have e1 : ns[i]? = some ns[i] := List.getElem?_eq_getElem hi
  have e2 : ns[j]? = some ns[i] := by rw [he]; exact List.getElem?_eq_getElem hj
  obtain ⟨k1, a1, a2, a3⟩ := h i _ e1
  obtain ⟨k2, b1, b2, b3⟩ := h j _ e2
  have c1 := (repQ_ok ((a + p * i) % 26) (by omega) k1 a2 a1).2.2
  have c2 := (repQ_ok ((a + p * j) % 26) (by omega) k2 b2 b1).2.2
  rw [← a3] at c1
  rw [← b3, c1] at c2
  have c3 := Option.some.inj c2
  rcases hp with rfl | rfl | rfl | rfl <;> omega
def PNsQ (R : Rs) (b : Addr) (n a p : Nat) (i : Nat) (acc : List D) (R' : Rs) : Prop := ∃ (ns : List Str) (o : RO), acc = ns.map D.str ∧ ns.length = i ∧ NsQ a p ns ∧ Bag (n + 2 + i) (put R b o) b ∧ R' = put R b o
def spNames : DSp := fun ds R Q _ => ∃ (b : Addr) (m n : Nat), ds = [.ref b, .int m] ∧ Bag n R b ∧ m ≤ 26 ∧ n < 999999000 ∧ ∀ (ns : List Str) (o : RO), ns.length = m → (∀ x ∈ ns, nmB x = true ∧ x.length ≤ 3) → ns.Nodup → Bag (n + 2 + m) (put R b o) b → Q (.lst (ns.map D.str)) (put R b o)
def MNsQ (R : Rs) (b : Addr) (m n : Nat) (s' : DSt) (R' : Rs) : Prop := ∃ (o : RO) (a p : Nat), a < 26 ∧ (p = 1 ∨ p = 3 ∨ p = 5 ∨ p = 7) ∧ Bag (n + 2) (put R b o) b ∧ R' = put R b o ∧ s' = [some (.ref b), some (.int m), some (.str "abcdefghijklmnopqrstuvwxyz"), some (.int a), some (.int p), none]
theorem ok_names (F : Fun K "_law_names" "_law_names" s_law_names f fd) (Z : Blt mg bl) (c_law_take : Cal P w K mg base 1 "_law_take" spTake) : FnG P w K mg base CX0 2 f fd ["_law_bag_here", "_law_many"] (spOf K spNames) := by
  refine okD F sc_law_names (fun ds R Q E h => by obtain ⟨b, m, n, rfl, _⟩ := h; rfl) fun cdv A outer s H E gd hr => ?_
  refine ⟨_, (dss_cut (ds_asg de_str (dg_name (i := 2) sc_law_names.nd rfl (.inr rfl)))
    (dss_cut (ds_asg (de_tup (da_cons (de_c c_law_take gd hr (by omega) (by rfl) (da_cons (dv 0) (da_cons de_int da_nil))) (da_cons (de_ix xd_seq (de_lstF (da_cons de_int (da_cons de_int (da_cons de_int (da_cons de_int da_nil))))) (de_c c_law_take gd hr (by omega) (by rfl) (da_cons (dv 0) (da_cons de_int da_nil))) (fun _ _ => rfl)) da_nil))) (dg_tup (n := 2) rfl (dgs_cons (dg_name (i := 3) sc_law_names.nd rfl (.inr rfl)) (dgs_cons (dg_name (i := 4) sc_law_names.nd rfl (.inr rfl)) dgs_nil))))
    (dss_one (ds_ret (de_lcF (own := [("_law_turn", 5)]) rfl sc_law_names.nd (lcd (di_range1 (by rfl) (Z _ (by decide)) (dv 1)) (blkOk_by (N := n_law_names) (sc := defScope s_law_names) (by decide +kernel)) (fun _ _ _ _ _ => (dgw_name (i := 5) sc_law_names.nd rfl (.inl rfl))) (fun _ _ _ _ _ => dts_nil) (fun _ _ _ _ _ => (de_op od_mulS (de_ix xd_str (dv 2) (de_op od_mod (de_op od_add (dv 3) (de_op od_mul (dv 4) (dv 5))) de_int) (fun _ _ => rfl)) (de_op od_add de_int (de_c c_law_take gd hr (by omega) (by rfl) (da_cons (dv 0) (da_cons de_int da_nil)))))))))))), fun ds R Qd Ed h => ?_⟩
  obtain ⟨b, m, n, rfl, hB, hm, hn, q⟩ := h
  refine (show dCut _ _ _ _ _ from ?_)
  refine ⟨fun s' R' => R' = R ∧ s' = [some (.ref b), some (.int m), some (.str "abcdefghijklmnopqrstuvwxyz"), none, none, none], ?_, ?_⟩
  · simp only [dSeq, dGetK, rdInK, dGetT, dInT, rdSetK, dNewK, dDcF, dDc2F, dIEnum, dIZip, dISeq, dStar, dCont, dBrk, dOrT, rdInC, dCallK, dCVal, dMeth, dFld, dSetF, dNewF, dNew0F, dDisp, dPairs, dGet2, dGIndex, DL.keyOf, DL.keysOf, dCallL, dLam, dJoin, dJs, dFmtS, dRepl, dRaise, dCallX, dDelTail, dAugL, dXF, dAsg, dIf, dIfS, dB, dAnd, dOr, dNot, dAndV, dOrV, dNotV, dChain, dOp, dUn, dVar, dC, rdI0, rdI, dCB, dCall, rd1, dCons, dNil, dgName, dgSub, dgTup, dgLst, dSortSet, dgCons, dgNil, rdSetL, dRet, dLst, dLstF, dTup, dDrop, dNext, dPar, dBM, dBM0, dSl, dPart, dNoPart, dstart, dwipe, List.map_cons, List.map_nil, List.length_cons, List.length_nil, List.replicate_succ, List.replicate_zero, List.cons_append, List.nil_append, List.set_cons_zero, List.set_cons_succ, List.getElem?_cons_zero, List.getElem?_cons_succ, Nat.reduceAdd, Nat.reduceSub, Option.some.injEq, D.int.injEq, D.bl.injEq, D.str.injEq, D.ref.injEq, D.ty.injEq, D.tup.injEq, D.lst.injEq, D.rls.injEq, RO.lst.injEq, List.cons.injEq, exists_and_left, exists_eq_left', exists_eq_left, and_true, true_and, put_same, put_put, at0, at1, at2, ix30, ix31, ix32, and_assoc, dLcF, dLc, dLcT, dIRng1, dIRng2, dIRng3, dIStr, dITup, dILst, dYes, if_true, Bool.false_eq_true, if_false, eqS_ii, neS_ii, eqS_ss, neS_ss, decide_eq_true_eq, sq_tup, sq_lst, sq_rls, lo_lst, lo_rls, tr_lst, isi_tt, isi_st, isi_nt, isi_bt, isi_it, isi_lt, isi_ts, isi_ss, isi_ns, isi_bs, isi_is, isi_ls, List.append_nil, sz0, sz1, sz2, sz3, sz4, sz5, sz6, sl0, sl1, sl2, ty_put, ty_str, lo_put, sq_put, tr_put, reduceCtorEq, false_and, and_false, exists_false, or_false, false_or, Bool.not_false, Bool.not_true, List.isEmpty_nil, List.isEmpty_cons, app1_empty]
  rintro s1 R1 ⟨rfl, rfl⟩
  refine (show dCut _ _ _ _ _ from ?_)
  refine ⟨MNsQ R1 b m n, ?_, ?_⟩
  · simp only [dSeq, dGetK, rdInK, dGetT, dInT, rdSetK, dNewK, dDcF, dDc2F, dIEnum, dIZip, dISeq, dStar, dCont, dBrk, dOrT, rdInC, dCallK, dCVal, dMeth, dFld, dSetF, dNewF, dNew0F, dDisp, dPairs, dGet2, dGIndex, DL.keyOf, DL.keysOf, dCallL, dLam, dJoin, dJs, dFmtS, dRepl, dRaise, dCallX, dDelTail, dAugL, dXF, dAsg, dIf, dIfS, dB, dAnd, dOr, dNot, dAndV, dOrV, dNotV, dChain, dOp, dUn, dVar, dC, rdI0, rdI, dCB, dCall, rd1, dCons, dNil, dgName, dgSub, dgTup, dgLst, dSortSet, dgCons, dgNil, rdSetL, dRet, dLst, dLstF, dTup, dDrop, dNext, dPar, dBM, dBM0, dSl, dPart, dNoPart, dstart, dwipe, List.map_cons, List.map_nil, List.length_cons, List.length_nil, List.replicate_succ, List.replicate_zero, List.cons_append, List.nil_append, List.set_cons_zero, List.set_cons_succ, List.getElem?_cons_zero, List.getElem?_cons_succ, Nat.reduceAdd, Nat.reduceSub, Option.some.injEq, D.int.injEq, D.bl.injEq, D.str.injEq, D.ref.injEq, D.ty.injEq, D.tup.injEq, D.lst.injEq, D.rls.injEq, RO.lst.injEq, List.cons.injEq, exists_and_left, exists_eq_left', exists_eq_left, and_true, true_and, put_same, put_put, at0, at1, at2, ix30, ix31, ix32, and_assoc, dLcF, dLc, dLcT, dIRng1, dIRng2, dIRng3, dIStr, dITup, dILst, dYes, if_true, Bool.false_eq_true, if_false, eqS_ii, neS_ii, eqS_ss, neS_ss, decide_eq_true_eq, sq_tup, sq_lst, sq_rls, lo_lst, lo_rls, tr_lst, isi_tt, isi_st, isi_nt, isi_bt, isi_it, isi_lt, isi_ts, isi_ss, isi_ns, isi_bs, isi_is, isi_ls, List.append_nil, sz0, sz1, sz2, sz3, sz4, sz5, sz6, sl0, sl1, sl2, ty_put, ty_str, lo_put, sq_put, tr_put, reduceCtorEq, false_and, and_false, exists_false, or_false, false_or, Bool.not_false, Bool.not_true, List.isEmpty_nil, List.isEmpty_cons, app1_empty]
    refine take_ok hB (by omega) (by decide) (by decide) fun a o h0 ha hB1 => take_ok hB1 (by omega) (by decide) (by decide) fun v o2 h2 hv hB2 => ?_
    rw [put_put] at hB2 ⊢
    obtain ⟨a, rfl⟩ := Int.eq_ofNat_of_zero_le h0
    obtain ⟨x, e1, hx, _⟩ := at_lt (l := [D.int 1, .int 3, .int 5, .int 7]) h2 hv
    simp only [List.mem_cons, List.not_mem_nil, or_false] at hx
    rcases hx with rfl | rfl | rfl | rfl
    · exact ⟨_, rfl, _, e1, o2, a, 1, by omega, by simp, hB2, rfl, rfl⟩
    · exact ⟨_, rfl, _, e1, o2, a, 3, by omega, by simp, hB2, rfl, rfl⟩
    · exact ⟨_, rfl, _, e1, o2, a, 5, by omega, by simp, hB2, rfl, rfl⟩
    · exact ⟨_, rfl, _, e1, o2, a, 7, by omega, by simp, hB2, rfl, rfl⟩
  rintro s2 R2 ⟨o, a, p, ha, hp, hB2, rfl, rfl⟩
  simp only [dSeq, dGetK, rdInK, dGetT, dInT, rdSetK, dNewK, dDcF, dDc2F, dIEnum, dIZip, dISeq, dStar, dCont, dBrk, dOrT, rdInC, dCallK, dCVal, dMeth, dFld, dSetF, dNewF, dNew0F, dDisp, dPairs, dGet2, dGIndex, DL.keyOf, DL.keysOf, dCallL, dLam, dJoin, dJs, dFmtS, dRepl, dRaise, dCallX, dDelTail, dAugL, dXF, dAsg, dIf, dIfS, dB, dAnd, dOr, dNot, dAndV, dOrV, dNotV, dChain, dOp, dUn, dVar, dC, rdI0, rdI, dCB, dCall, rd1, dCons, dNil, dgName, dgSub, dgTup, dgLst, dSortSet, dgCons, dgNil, rdSetL, dRet, dLst, dLstF, dTup, dDrop, dNext, dPar, dBM, dBM0, dSl, dPart, dNoPart, dstart, dwipe, List.map_cons, List.map_nil, List.length_cons, List.length_nil, List.replicate_succ, List.replicate_zero, List.cons_append, List.nil_append, List.set_cons_zero, List.set_cons_succ, List.getElem?_cons_zero, List.getElem?_cons_succ, Nat.reduceAdd, Nat.reduceSub, Option.some.injEq, D.int.injEq, D.bl.injEq, D.str.injEq, D.ref.injEq, D.ty.injEq, D.tup.injEq, D.lst.injEq, D.rls.injEq, RO.lst.injEq, List.cons.injEq, exists_and_left, exists_eq_left', exists_eq_left, and_true, true_and, put_same, put_put, at0, at1, at2, ix30, ix31, ix32, and_assoc, dLcF, dLc, dLcT, dIRng1, dIRng2, dIRng3, dIStr, dITup, dILst, dYes, if_true, Bool.false_eq_true, if_false, eqS_ii, neS_ii, eqS_ss, neS_ss, decide_eq_true_eq, sq_tup, sq_lst, sq_rls, lo_lst, lo_rls, tr_lst, isi_tt, isi_st, isi_nt, isi_bt, isi_it, isi_lt, isi_ts, isi_ss, isi_ns, isi_bs, isi_is, isi_ls, List.append_nil, sz0, sz1, sz2, sz3, sz4, sz5, sz6, sl0, sl1, sl2, ty_put, ty_str, lo_put, sq_put, tr_put, reduceCtorEq, false_and, and_false, exists_false, or_false, false_or, Bool.not_false, Bool.not_true, List.isEmpty_nil, List.isEmpty_cons, app1_empty]
  refine ⟨m, rfl, by omega, by rw [List.length_map, List.length_range]; simp only [sizeLine]; omega, PNsQ R1 b n a p, ⟨[], o, rfl, rfl, fun i x h => by simp at h, hB2, rfl⟩, fun _ _ _ _ _ => trivial, ?_, ?_⟩
  · rintro i x acc R' hx hlk ⟨ns, o1, rfl, hl, hns, hB, rfl⟩
    obtain ⟨rfl, hi⟩ := range_step hx
    refine ⟨i, rfl, .inr ⟨by omega, by omega⟩, by decide, by decide +kernel, 97 + (a + p * i) % 26, ?_, take_ok hB (by omega) (by decide) (by decide) fun v o3 h0 hv hB3 => ?_⟩
    · have := letQ ((a + p * i) % 26) (by omega)
      rw [← this]
      congr 1
    obtain ⟨v, rfl⟩ := Int.eq_ofNat_of_zero_le h0
    rw [put_put] at hB3 ⊢
    have ek : (1 + (v : Int)) = ((1 + v : Nat) : Int) := by omega
    refine ⟨_, rfl, ?_⟩
    rw [ek]
    refine ⟨mulQ (by omega), ns ++ [repQ ((a + p * i) % 26) (1 + v)], o3, by rw [List.map_append]; rfl, by rw [List.length_append, hl, List.length_singleton], fun j y hj => ?_, by rw [← Nat.add_assoc]; exact hB3, rfl⟩
    by_cases hji : j < ns.length
    · rw [List.getElem?_append_left hji] at hj
      exact hns j y hj
    · have hj2 := (List.getElem?_eq_some_iff.mp hj).1
      rw [List.length_append, List.length_singleton] at hj2
      have : j = ns.length := by omega
      subst this
      rw [List.getElem?_append_right (Nat.le_refl _)] at hj
      simp at hj
      exact ⟨1 + v, by omega, by omega, by rw [← hj, hl]⟩
  · rintro acc R' hlk ⟨ns, o1, rfl, hl, hns, hB, rfl⟩
    rw [List.length_map, List.length_range] at hl hB
    exact fin (q ns o1 hl hns.good (hns.nd hp (by omega)) hB)
end

end Law
end
section
set_option Elab.async false
set_option maxRecDepth 100000
set_option maxHeartbeats 4000000
set_option linter.all false
set_option autoImplicit false
namespace Law
open PySem PySem.Spec PyProof.Rows L2 DL TL TrA TrA.Tr
section
variable [TabCtx] {P : Program} {w : World} {K : KB} {mg : Str → Option Value} {base : Heap} {f : Addr} {fd : FuncData}
theorem iteT {c : Prop} [Decidable c] {a b : Prop} (h : c) (x : a) : if c then a else b := by rw [if_pos h]; exact x
theorem iteF {c : Prop} [Decidable c] {a b : Prop} (h : ¬ c) (x : b) : if c then a else b := by rw [if_neg h]; exact x
mutual
/-- data as laws hand them in -/
def gdB : D → Bool
  | .non => true
  | .bl _ => true
  | .int _ => true
  | .str x => decide (x.length ≤ 2000)
  | .tup xs => decide (xs.length ≤ 1000) && gdBs xs
  | .lst xs => decide (xs.length ≤ 1000) && gdBs xs
  | _ => false
def gdBs : List D → Bool
  | [] => true
  | x :: xs => gdB x && gdBs xs
end
theorem gdBs_all : ∀ xs : List D, gdBs xs = xs.all gdB
  | [] => rfl
  | x :: xs => by rw [gdBs, gdBs_all xs]; rfl
theorem gd_tup {xs : List D} (h : gdB (.tup xs) = true) : ∀ x ∈ xs, gdB x = true := by
  rw [gdB, Bool.and_eq_true, gdBs_all, List.all_eq_true] at h
  exact h.2
theorem gd_len {xs : List D} (h : gdB (.tup xs) = true) : xs.length ≤ 1000 := by
  rw [gdB, Bool.and_eq_true] at h
  exact of_decide_eq_true h.1
theorem gd_vk {d : D} (h : gdB d = true) : Vk d = true := by
  cases d <;> first | rfl | (simpa [gdB, Vk] using h) | (simp [gdB] at h)
def isTup : D → Bool
  | .tup _ => true
  | _ => false
def isStr : D → Bool
  | .str _ => true
  | _ => false
theorem isi_tup {d : D} {R : Rs} {Q : DK} (h : gdB d = true) : rdIsi kitB [d, .ty "tuple"] R Q ↔ Q (.bl (isTup d)) R := by
  cases d with
  | non => exact isi_nt
  | bl b => exact isi_bt
  | int i => exact isi_it
  | str x => exact isi_st
  | tup xs => exact isi_tt
  | lst xs => exact isi_lt
  | _ => simp [gdB] at h
theorem isi_str {d : D} {R : Rs} {Q : DK} (h : gdB d = true) : rdIsi kitB [d, .ty "str"] R Q ↔ Q (.bl (isStr d)) R := by
  cases d with
  | non => exact isi_ns
  | bl b => exact isi_bs
  | int i => exact isi_is
  | str x => exact isi_ss
  | tup xs => exact isi_ts
  | lst xs => exact isi_ls
  | _ => simp [gdB] at h
def oneOf (d : D) (xs : List Str) : Bool := match d with
  | .str x => decide (x ∈ xs)
  | _ => false
abbrev s_is_parts : Stmt := top 11
abbrev n_is_parts : List Str := ["value"]
theorem sc_is_parts : FnScope n_is_parts ["value"] (defScope s_is_parts) := ⟨rfl, rfl, rfl, by decide +kernel, rfl, by decide +kernel, by decide +kernel⟩
def partsB : D → Bool
  | .tup ps => decide (2 ≤ ps.length) && decide (ps.length ≤ 4)
  | _ => false
def spParts : DSp := fun ds R Q _ => ∃ d : D, ds = [d] ∧ gdB d = true ∧ Q (.bl (partsB d)) R
theorem ok_parts (F : Fun K "is_parts" "is_parts" s_is_parts f fd) (Z : Blt mg bl) (g_MOST_PARTS : GC K mg "MOST_PARTS" (.int 4)) : FnG P w K mg base CX0 1 f fd ["value"] (spOf K spParts) := by
  refine okD F sc_is_parts (fun ds R Q E h => by obtain ⟨d, rfl, _⟩ := h; rfl) fun cdv A outer s H E gd hr => ?_
  refine ⟨_, (dss_one (ds_ret (de_and (de_callB cd_isi (by rfl) (Z _ (by decide)) bt_isi (da_cons (dv 0) (da_cons (de_ty (by rfl) (Z _ (by decide)) bt_tuple) da_nil))) (de_one (de_chain od_le od_le de_int (de_callB cd_len (by rfl) (Z _ (by decide)) bt_len (da_cons (dv 0) da_nil)) (de_glob g_MOST_PARTS (by rfl))))))), fun ds R Qd Ed h => ?_⟩
  obtain ⟨d, rfl, hd, q⟩ := h
  simp only [dSeq, dGetK, rdInK, dGetT, dInT, rdSetK, dNewK, dDcF, dDc2F, dIEnum, dIZip, dISeq, dStar, dCont, dBrk, dOrT, rdInC, dCallK, dCVal, dMeth, dFld, dSetF, dNewF, dNew0F, dDisp, dPairs, dGet2, dGIndex, DL.keyOf, DL.keysOf, dCallL, dLam, dJoin, dJs, dFmtS, dRepl, dRaise, dCallX, dDelTail, dAugL, dXF, dAsg, dIf, dIfS, dB, dAnd, dOr, dNot, dAndV, dOrV, dNotV, dChain, dOp, dUn, dVar, dC, rdI0, rdI, dCB, dCall, rd1, dCons, dNil, dgName, dgSub, dgTup, dgLst, dSortSet, dgCons, dgNil, rdSetL, dRet, dLst, dLstF, dTup, dDrop, dNext, dPar, dBM, dBM0, dSl, dPart, dNoPart, dstart, dwipe, List.map_cons, List.map_nil, List.length_cons, List.length_nil, List.replicate_succ, List.replicate_zero, List.cons_append, List.nil_append, List.set_cons_zero, List.set_cons_succ, List.getElem?_cons_zero, List.getElem?_cons_succ, Nat.reduceAdd, Nat.reduceSub, Option.some.injEq, D.int.injEq, D.bl.injEq, D.str.injEq, D.ref.injEq, D.ty.injEq, D.tup.injEq, D.lst.injEq, D.rls.injEq, RO.lst.injEq, List.cons.injEq, exists_and_left, exists_eq_left', exists_eq_left, and_true, true_and, put_same, put_put, at0, at1, at2, ix30, ix31, ix32, and_assoc, dLcF, dLc, dLcT, dIRng1, dIRng2, dIRng3, dIStr, dITup, dILst, dYes, if_true, Bool.false_eq_true, if_false, eqS_ii, neS_ii, eqS_ss, neS_ss, decide_eq_true_eq, sq_tup, sq_lst, sq_rls, lo_lst, lo_rls, tr_lst, isi_tt, isi_st, isi_nt, isi_bt, isi_it, isi_lt, isi_ts, isi_ss, isi_ns, isi_bs, isi_is, isi_ls, List.append_nil, sz0, sz1, sz2, sz3, sz4, sz5, sz6, sl0, sl1, sl2, ty_put, ty_str, lo_put, sq_put, tr_put, reduceCtorEq, false_and, and_false, exists_false, or_false, false_or, Bool.not_false, Bool.not_true, List.isEmpty_nil, List.isEmpty_cons, app1_empty, isi_tup hd]
  cases d with
  | tup ps =>
    refine iteT rfl ⟨ps, rfl, ?_⟩
    have q : Qd (.bl (decide (2 ≤ ps.length) && decide (ps.length ≤ 4))) R := q
    by_cases h2 : 2 ≤ ps.length
    · rw [decide_eq_true h2, Bool.true_and] at q
      refine iteT (by omega) (fin ?_)
      rw [show decide ((ps.length : Int) ≤ 4) = decide (ps.length ≤ 4) from decide_eq_decide.mpr (by omega)]
      exact q
    · rw [decide_eq_false h2, Bool.false_and] at q
      exact iteF (by omega) (fin q)
  | _ => first | exact iteF (by simp [isTup]) (fin q) | (simp [gdB] at hd)
abbrev s_is_nested : Stmt := top 12
abbrev n_is_nested : List Str := ["value", "deep", "kind", "inner", "part"]
theorem sc_is_nested : FnScope n_is_nested ["value", "deep"] (defScope s_is_nested) := ⟨rfl, rfl, rfl, by decide +kernel, rfl, by decide +kernel, by decide +kernel⟩
def allT (p : D → Bool) : D → Bool
  | .tup ps => ps.all p
  | _ => false
/-- a pattern nested at most so deep -/
def isN : Nat → D → Bool
  | 0, _ => false
  | k + 1, d => match d with
    | .tup [.str x, e] => if x = "one" then nmD e else if x = "any" ∨ x = "row" then partsB e && allT (isN k) e else if x = "many" then isN k e else false
    | _ => false
theorem isN_str {k : Nat} {x : Str} {e : D} : isN (k + 1) (.tup [.str x, e]) = if x = "one" then nmD e else if x = "any" ∨ x = "row" then partsB e && allT (isN k) e else if x = "many" then isN k e else false := rfl
theorem isN_no {k : Nat} {d : D} (h : ∀ x e, d ≠ .tup [.str x, e]) : isN k d = false := by
  cases k with
  | zero => rfl
  | succ k =>
    unfold isN
    split
    · rename_i x e
      exact absurd rfl (h x e)
    · rfl
def spNest (n : Nat) : DSp := fun ds R Q _ => ∃ (d : D) (k : Nat), ds = [d, .int k] ∧ k < n ∧ gdB d = true ∧ Q (.bl (isN k d)) R
theorem step_nest {n : Nat} (F : Fun K "is_nested" "is_nested" s_is_nested f fd) (Z : Blt mg bl) (c_is_class_name : Cal P w K mg base 1 "is_class_name" spIsName) (c_is_parts : Cal P w K mg base 1 "is_parts" spParts) (c_is_nested : Cal P w K mg base (n + 2) "is_nested" (spNest n)) : FnG P w K mg base CX0 (n + 3) f fd ["value", "deep"] (spOf K (spNest (n + 1))) := by
  refine okD F sc_is_nested (fun ds R Q E h => by obtain ⟨d, k, rfl, _⟩ := h; rfl) fun cdv A outer s H E gd hr => ?_
  refine ⟨_, (dss_cons (ds_if (dw_or (dt_cmp od_eqS (dv 1) de_int (nomark _)) (dw_or (dt_not (dt_val (de_callB cd_isi (by rfl) (Z _ (by decide)) bt_isi (da_cons (dv 0) (da_cons (de_ty (by rfl) (Z _ (by decide)) bt_tuple) da_nil))))) (dw_or (dt_cmp od_neS (de_callB cd_len (by rfl) (Z _ (by decide)) bt_len (da_cons (dv 0) da_nil)) de_int (nomark _)) (dw_or1 (dt_not (dt_val (de_callB cd_isi (by rfl) (Z _ (by decide)) bt_isi (da_cons (de_ix xd_seq (dv 0) de_int (fun _ _ => rfl)) (da_cons (de_ty (by rfl) (Z _ (by decide)) bt_str) da_nil))))))))).dt (dss_one (ds_ret de_bl)) dss_nil)
    (dss_cons (ds_asg (dv 0) (dg_tup (n := 2) rfl (dgs_cons (dg_name (i := 2) sc_is_nested.nd rfl (.inl rfl)) (dgs_cons (dg_name (i := 3) sc_is_nested.nd rfl (.inl rfl)) dgs_nil))))
    (dss_cons (ds_match (dv 2) (McD.cons .val (dss_one (ds_ret (de_c c_is_class_name gd hr (by omega) (by rfl) (da_cons (dv 3) da_nil)))) (McD.cons (.or (.cons (.cons .nil))) (dss_one (ds_ret (de_and (de_c c_is_parts gd hr (by omega) (by rfl) (da_cons (dv 3) da_nil)) (de_one (de_callB (cd_all rfl) (by rfl) (Z _ (by decide)) bt_all (da_cons (de_lcF (own := [("part", 4)]) rfl sc_is_nested.nd (lcd (di_tup (dv 3)) (blkOk_by (N := n_is_nested) (sc := defScope s_is_nested) (by decide +kernel)) (fun _ _ _ _ _ => (dgw_name (i := 4) sc_is_nested.nd rfl (.inl rfl))) (fun _ _ _ _ _ => dts_nil) (fun _ _ _ _ _ => (de_c c_is_nested gd hr (by omega) (by rfl) (da_cons (dv 4) (da_cons (de_op od_sub (dv 1) de_int) da_nil)))))) da_nil)))))) (McD.cons .val (dss_one (ds_ret (de_c c_is_nested gd hr (by omega) (by rfl) (da_cons (dv 3) (da_cons (de_op od_sub (dv 1) de_int) da_nil))))) McD.nil))))
    (dss_one (ds_ret de_bl))))), fun ds R Qd Ed h => ?_⟩
  obtain ⟨d, k, rfl, hk, hd, q⟩ := h
  simp only [dSeq, dGetK, rdInK, dGetT, dInT, rdSetK, dNewK, dDcF, dDc2F, dIEnum, dIZip, dISeq, dStar, dCont, dBrk, dOrT, rdInC, dCallK, dCVal, dMeth, dFld, dSetF, dNewF, dNew0F, dDisp, dPairs, dGet2, dGIndex, DL.keyOf, DL.keysOf, dCallL, dLam, dJoin, dJs, dFmtS, dRepl, dRaise, dCallX, dDelTail, dAugL, dXF, dAsg, dIf, dIfS, dB, dAnd, dOr, dNot, dAndV, dOrV, dNotV, dChain, dOp, dUn, dVar, dC, rdI0, rdI, dCB, dCall, rd1, dCons, dNil, dgName, dgSub, dgTup, dgLst, dSortSet, dgCons, dgNil, rdSetL, dRet, dLst, dLstF, dTup, dDrop, dNext, dPar, dBM, dBM0, dSl, dPart, dNoPart, dstart, dwipe, List.map_cons, List.map_nil, List.length_cons, List.length_nil, List.replicate_succ, List.replicate_zero, List.cons_append, List.nil_append, List.set_cons_zero, List.set_cons_succ, List.getElem?_cons_zero, List.getElem?_cons_succ, Nat.reduceAdd, Nat.reduceSub, Option.some.injEq, D.int.injEq, D.bl.injEq, D.str.injEq, D.ref.injEq, D.ty.injEq, D.tup.injEq, D.lst.injEq, D.rls.injEq, RO.lst.injEq, List.cons.injEq, exists_and_left, exists_eq_left', exists_eq_left, and_true, true_and, put_same, put_put, at0, at1, at2, ix30, ix31, ix32, and_assoc, dLcF, dLc, dLcT, dIRng1, dIRng2, dIRng3, dIStr, dITup, dILst, dYes, if_true, Bool.false_eq_true, if_false, eqS_ii, neS_ii, eqS_ss, neS_ss, decide_eq_true_eq, sq_tup, sq_lst, sq_rls, lo_lst, lo_rls, tr_lst, isi_tt, isi_st, isi_nt, isi_bt, isi_it, isi_lt, isi_ts, isi_ss, isi_ns, isi_bs, isi_is, isi_ls, List.append_nil, sz0, sz1, sz2, sz3, sz4, sz5, sz6, sl0, sl1, sl2, ty_put, ty_str, lo_put, sq_put, tr_put, reduceCtorEq, false_and, and_false, exists_false, or_false, false_or, Bool.not_false, Bool.not_true, List.isEmpty_nil, List.isEmpty_cons, app1_empty, dMatch, dGoM, isi_tup hd]
  cases k with
  | zero => exact iteT rfl (fin q)
  | succ k =>
    refine iteF (by omega) ?_
    by_cases ht : isTup d = true
    rotate_left
    · have hf : isTup d = false := by simpa using ht
      rw [isN_no (fun x e z => by rw [z] at ht; exact ht rfl)] at q
      exact iteT (by rw [hf]; rfl) (fin q)
    obtain ⟨xs, rfl⟩ : ∃ xs, d = .tup xs := by cases d <;> first | exact ⟨_, rfl⟩ | cases ht
    refine iteF (by simp [isTup]) ⟨xs, rfl, ?_⟩
    have hgx := gd_tup hd
    by_cases hl : xs.length = 2
    rotate_left
    · rw [isN_no (fun x e z => by rw [D.tup.injEq] at z; rw [z] at hl; exact hl rfl)] at q
      exact iteT (by simp; omega) (fin q)
    obtain ⟨a, e, rfl⟩ : ∃ a e, xs = [a, e] := by
      match xs, hl with
      | [a, e], _ => exact ⟨a, e, rfl⟩
    refine iteF (by simp) ⟨_, rfl, _, at0, (isi_str (hgx a (by simp))).mpr ⟨_, rfl, ?_⟩⟩
    by_cases hs : isStr a = true
    rotate_left
    · have hf : isStr a = false := by simpa using hs
      rw [isN_no (fun x e2 z => by rw [D.tup.injEq, List.cons.injEq] at z; rw [z.1] at hs; exact hs rfl)] at q
      exact iteT (by rw [hf]; rfl) (fin q)
    obtain ⟨x, rfl⟩ : ∃ x, a = .str x := by cases a <;> first | exact ⟨_, rfl⟩ | cases hs
    have hge := hgx e (by simp)
    refine iteF (by simp [isStr]) ⟨_, rfl, rfl, _, _, rfl, _, _, rfl, rfl, x, rfl, ?_⟩
    rw [isN_str] at q
    by_cases h1 : x = "one"
    · rw [if_pos h1] at q
      exact iteT (by rw [h1]; simp) ⟨e, rfl, gd_vk hge, fin q⟩
    rw [if_neg h1] at q
    refine iteF (by simpa using h1) ?_
    by_cases h2 : x = "any" ∨ x = "row"
    · rw [if_pos h2] at q
      refine iteT (by simpa using h2) ⟨e, rfl, hge, _, rfl, ?_⟩
      have ek : (((k + 1 : Nat) : Int) - 1) = (k : Int) := by omega
      rw [ek]
      cases hp : partsB e with
      | false =>
        rw [hp, Bool.false_and] at q
        exact iteF (by decide) (fin q)
      | true =>
        rw [hp, Bool.true_and] at q
        obtain ⟨ps, rfl⟩ : ∃ ps, e = .tup ps := by cases e <;> first | exact ⟨_, rfl⟩ | cases hp
        have hpl : ps.length ≤ 4 := by
          unfold partsB at hp
          simp only [Bool.and_eq_true, decide_eq_true_eq] at hp
          exact hp.2
        have hgp := gd_tup hge
        refine iteT rfl ⟨ps, rfl, by simp only [sizeLine]; omega, PvM ps (fun d => .bl (isN k d)) R, ⟨rfl, rfl⟩, fun _ _ _ _ _ => trivial, ?_, ?_⟩
        · rintro i x acc R' hx hlk ⟨rfl, rfl⟩
          obtain ⟨hm, ht⟩ : x ∈ ps ∧ ps.take (i + 1) = ps.take i ++ [x] := ⟨List.mem_of_getElem? hx, by rw [List.take_add_one, hx]; rfl⟩
          exact ⟨x, k, rfl, by omega, hgp x hm, PvM.go (g := fun d => .bl (isN k d)) ht⟩
        · rintro acc R' hlk hv
          obtain ⟨rfl, rfl⟩ := hv.end rfl
          refine ⟨ps.map (isN k), by rw [List.map_map]; rfl, fin ?_⟩
          rw [show (ps.map (isN k)).all id = ps.all (isN k) by rw [List.all_map]; rfl]
          exact q
    rw [if_neg h2] at q
    refine iteF (by simpa using h2) ?_
    by_cases h3 : x = "many"
    · rw [if_pos h3] at q
      refine iteT (by simpa using h3) ⟨e, k, ?_, by omega, hge, fin q⟩
      rw [show (((k + 1 : Nat) : Int) - 1) = (k : Int) by omega]
    · rw [if_neg h3] at q
      exact iteF (by simpa using h3) (fin q)
theorem ok_nest (F : Fun K "is_nested" "is_nested" s_is_nested f fd) (Z : Blt mg bl) (c_is_class_name : Cal P w K mg base 1 "is_class_name" spIsName) (c_is_parts : Cal P w K mg base 1 "is_parts" spParts) (hm : mg "is_nested" = some (.ref f)) (bd : Binds K fd ["value", "deep"] []) : ∀ n : Nat, FnG P w K mg base CX0 (n + 2) f fd ["value", "deep"] (spOf K (spNest n))
  | 0 => fnG_none fun ds R Q E ⟨d, k, _, hk, _⟩ => by omega
  | n + 1 => step_nest F Z c_is_class_name c_is_parts ⟨_, _, _, ok_nest F Z c_is_class_name c_is_parts hm bd n, hm, F.kp, bd⟩
end

end Law
end
section
set_option Elab.async false
set_option maxRecDepth 100000
set_option maxHeartbeats 4000000
set_option linter.all false
set_option autoImplicit false
namespace Law
open PySem PySem.Spec PyProof.Rows L2 DL TL TrA TrA.Tr
section
variable [TabCtx] {P : Program} {w : World} {K : KB} {mg : Str → Option Value} {base : Heap} {f : Addr} {fd : FuncData}
abbrev s_classes_in : Stmt := top 13
abbrev n_classes_in : List Str := ["pattern", "kind", "inner", "part", "name"]
theorem sc_classes_in : FnScope n_classes_in ["pattern"] (defScope s_classes_in) := ⟨rfl, rfl, rfl, by decide +kernel, rfl, by decide +kernel, by decide +kernel⟩
/-- the classes of a pattern -/
def clsN : Nat → D → List Str
  | 0, _ => []
  | k + 1, d => match d with
    | .tup [.str x, e] => if x = "one" then (match e with | .str y => [y] | _ => []) else if x = "many" then clsN k e else (match e with | .tup ps => ps.flatMap (clsN k) | _ => [])
    | _ => []
/-- what a pattern is -/
theorem isN_form {k : Nat} {d : D} (h : isN (k + 1) d = true) : ∃ x e, d = .tup [.str x, e] ∧ ((x = "one" ∧ ∃ y, e = .str y ∧ nmB y = true) ∨ ((x = "any" ∨ x = "row") ∧ ∃ ps, e = .tup ps ∧ 2 ≤ ps.length ∧ ps.length ≤ 4 ∧ ∀ p ∈ ps, isN k p = true) ∨ (x = "many" ∧ isN k e = true)) := by
  have h' := h
  unfold isN at h'
  split at h'
  · rename_i x e
    refine ⟨x, e, rfl, ?_⟩
    rw [isN_str] at h
    by_cases h1 : x = "one"
    · rw [if_pos h1] at h
      refine .inl ⟨h1, ?_⟩
      cases e <;> first | exact ⟨_, rfl, h⟩ | cases h
    rw [if_neg h1] at h
    by_cases h2 : x = "any" ∨ x = "row"
    · rw [if_pos h2, Bool.and_eq_true] at h
      obtain ⟨a, b⟩ := h
      cases e with
      | tup ps =>
        unfold partsB at a
        simp only [Bool.and_eq_true, decide_eq_true_eq] at a
        exact .inr (.inl ⟨h2, ps, rfl, a.1, a.2, List.all_eq_true.mp b⟩)
      | _ => cases a
    rw [if_neg h2] at h
    by_cases h3 : x = "many"
    · rw [if_pos h3] at h
      exact .inr (.inr ⟨h3, h⟩)
    · rw [if_neg h3] at h; cases h
  · cases h'
theorem cls_len : ∀ (k : Nat) {d : D}, isN k d = true → (clsN k d).length ≤ 4 ^ k
  | 0, _, h => by cases h
  | k + 1, d, h => by
    obtain ⟨x, e, rfl, hc⟩ := isN_form h
    rcases hc with ⟨rfl, y, rfl, hy⟩ | ⟨hx, ps, rfl, hp2, hp4, hps⟩ | ⟨rfl, he⟩
    · show 1 ≤ _
      exact Nat.one_le_iff_ne_zero.mpr (by have := Nat.pow_pos (n := k + 1) (show 0 < 4 by decide); omega)
    · have h1 : x ≠ "one" := by rcases hx with rfl | rfl <;> decide +kernel
      have h2 : x ≠ "many" := by rcases hx with rfl | rfl <;> decide +kernel
      have e1 : clsN (k + 1) (.tup [.str x, .tup ps]) = ps.flatMap (clsN k) := by
        show (if x = "one" then _ else if x = "many" then _ else _) = _
        rw [if_neg h1, if_neg h2]
      rw [e1]
      have : ∀ l : List D, (∀ p ∈ l, isN k p = true) → (l.flatMap (clsN k)).length ≤ 4 ^ k * l.length := fun l hl => by
        induction l with
        | nil => simp
        | cons a l ih =>
          rw [List.flatMap_cons, List.length_append, List.length_cons, Nat.mul_succ]
          have := cls_len k (hl a (by simp))
          have := ih fun p hp => hl p (by simp [hp])
          omega
      exact Nat.le_trans (this ps hps) (by rw [Nat.pow_succ]; exact Nat.mul_le_mul_left _ hp4)
    · exact Nat.le_trans (cls_len k he) (Nat.pow_le_pow_right (by decide) (by omega))
def spCls (n : Nat) : DSp := fun ds R Q _ => ∃ (d : D) (k : Nat), ds = [d] ∧ k < n ∧ k ≤ 6 ∧ isN k d = true ∧ Q (.lst ((clsN k d).map D.str)) R
theorem step_cls {n : Nat} (F : Fun K "classes_in" "classes_in" s_classes_in f fd) (Z : Blt mg bl) (c_classes_in : Cal P w K mg base (n + 2) "classes_in" (spCls n)) : FnG P w K mg base CX0 (n + 3) f fd ["pattern"] (spOf K (spCls (n + 1))) := by
  refine okD F sc_classes_in (fun ds R Q E h => by obtain ⟨d, k, rfl, _⟩ := h; rfl) fun cdv A outer s H E gd hr => ?_
  refine ⟨_, (dss_cons (ds_asg (dv 0) (dg_tup (n := 2) rfl (dgs_cons (dg_name (i := 1) sc_classes_in.nd rfl (.inl rfl)) (dgs_cons (dg_name (i := 2) sc_classes_in.nd rfl (.inl rfl)) dgs_nil))))
    (dss_cons (ds_match (dv 1) (McD.cons .val (dss_one (ds_ret (de_lstF (da_cons (dv 2) da_nil)))) (McD.cons .val (dss_one (ds_ret (de_c c_classes_in gd hr (by omega) (by rfl) (da_cons (dv 2) da_nil)))) McD.nil)))
    (dss_one (ds_ret (de_lc2F (own := [("part", 3), ("name", 4)]) (vs1 := [4]) rfl sc_classes_in.nd (di_tup (dv 2)) (blkOk_by (N := n_classes_in) (sc := defScope s_classes_in) (by decide +kernel)) (by decide) (fun _ _ _ _ _ => (dgw_name (i := 3) sc_classes_in.nd rfl (.inl rfl))) (fun _ _ _ _ _ => dts_nil) (fun _ _ _ _ _ => (di_list (de_c c_classes_in gd hr (by omega) (by rfl) (da_cons (dv 3) da_nil)))) (fun _ _ _ _ _ => (dgw_name (i := 4) sc_classes_in.nd rfl (.inl rfl))) (fun _ _ _ _ _ => dts_nil) (fun _ _ _ _ _ => (dv 4))))))), fun ds R Qd Ed h => ?_⟩
  obtain ⟨d, k, rfl, hk, hk6, hd, q⟩ := h
  simp only [dSeq, dGetK, rdInK, dGetT, dInT, rdSetK, dNewK, dDcF, dDc2F, dIEnum, dIZip, dISeq, dStar, dCont, dBrk, dOrT, rdInC, dCallK, dCVal, dMeth, dFld, dSetF, dNewF, dNew0F, dDisp, dPairs, dGet2, dGIndex, DL.keyOf, DL.keysOf, dCallL, dLam, dJoin, dJs, dFmtS, dRepl, dRaise, dCallX, dDelTail, dAugL, dXF, dAsg, dIf, dIfS, dB, dAnd, dOr, dNot, dAndV, dOrV, dNotV, dChain, dOp, dUn, dVar, dC, rdI0, rdI, dCB, dCall, rd1, dCons, dNil, dgName, dgSub, dgTup, dgLst, dSortSet, dgCons, dgNil, rdSetL, dRet, dLst, dLstF, dTup, dDrop, dNext, dPar, dBM, dBM0, dSl, dPart, dNoPart, dstart, dwipe, List.map_cons, List.map_nil, List.length_cons, List.length_nil, List.replicate_succ, List.replicate_zero, List.cons_append, List.nil_append, List.set_cons_zero, List.set_cons_succ, List.getElem?_cons_zero, List.getElem?_cons_succ, Nat.reduceAdd, Nat.reduceSub, Option.some.injEq, D.int.injEq, D.bl.injEq, D.str.injEq, D.ref.injEq, D.ty.injEq, D.tup.injEq, D.lst.injEq, D.rls.injEq, RO.lst.injEq, List.cons.injEq, exists_and_left, exists_eq_left', exists_eq_left, and_true, true_and, put_same, put_put, at0, at1, at2, ix30, ix31, ix32, and_assoc, dLcF, dLc, dLcT, dIRng1, dIRng2, dIRng3, dIStr, dITup, dILst, dYes, if_true, Bool.false_eq_true, if_false, eqS_ii, neS_ii, eqS_ss, neS_ss, decide_eq_true_eq, sq_tup, sq_lst, sq_rls, lo_lst, lo_rls, tr_lst, isi_tt, isi_st, isi_nt, isi_bt, isi_it, isi_lt, isi_ts, isi_ss, isi_ns, isi_bs, isi_is, isi_ls, List.append_nil, sz0, sz1, sz2, sz3, sz4, sz5, sz6, sl0, sl1, sl2, ty_put, ty_str, lo_put, sq_put, tr_put, reduceCtorEq, false_and, and_false, exists_false, or_false, false_or, Bool.not_false, Bool.not_true, List.isEmpty_nil, List.isEmpty_cons, app1_empty, dLc2F, dMatch, dGoM]
  obtain ⟨k, rfl⟩ : ∃ j, k = j + 1 := by
    cases k with
    | zero => cases hd
    | succ j => exact ⟨j, rfl⟩
  obtain ⟨x, e, rfl, hc⟩ := isN_form hd
  refine ⟨_, rfl, rfl, _, _, rfl, _, _, rfl, rfl, x, rfl, ?_⟩
  rcases hc with ⟨rfl, y, rfl, hy⟩ | ⟨hx, ps, rfl, hp2, hp4, hps⟩ | ⟨rfl, he⟩
  · exact iteT (by simp) (fin q)
  · have h1 : x ≠ "one" := by rcases hx with rfl | rfl <;> decide +kernel
    have h2 : x ≠ "many" := by rcases hx with rfl | rfl <;> decide +kernel
    have q : Qd (.lst ((ps.flatMap (clsN k)).map D.str)) R := by
      have e1 : clsN (k + 1) (.tup [.str x, .tup ps]) = ps.flatMap (clsN k) := by
        show (if x = "one" then _ else if x = "many" then _ else _) = _
        rw [if_neg h1, if_neg h2]
      rw [e1] at q; exact q
    refine iteF (by simpa using h1) (iteF (by simpa using h2) ?_)
    have hlen : ∀ l : List D, (∀ p ∈ l, isN k p = true) → (l.flatMap (clsN k)).length ≤ 4 ^ k * l.length := fun l hl => by
      induction l with
      | nil => simp
      | cons a l ih =>
        rw [List.flatMap_cons, List.length_append, List.length_cons, Nat.mul_succ]
        have := cls_len k (hl a (by simp))
        have := ih fun p hp => hl p (by simp [hp])
        omega
    have h46 : 4 ^ k ≤ 4 ^ 5 := Nat.pow_le_pow_right (by decide) (by omega)
    have hbd : ∀ l : List D, (∀ p ∈ l, p ∈ ps) → l.length ≤ 4 → (l.flatMap (clsN k)).length ≤ 4096 := fun l hl h4 => by
      have a := hlen l fun p hp => hps p (hl p hp)
      have b : 4 ^ k * l.length ≤ 4 ^ 5 * 4 := Nat.mul_le_mul h46 h4
      have c : 4 ^ 5 * 4 = 4096 := by decide
      omega
    refine ⟨ps, rfl, fun i acc R' => R' = R ∧ acc = ((ps.take i).flatMap (clsN k)).map D.str, ⟨rfl, rfl⟩, fun _ _ _ _ _ => trivial, ?_, ?_⟩
    · rintro i y acc R' hy ⟨rfl, rfl⟩
      have hm := List.mem_of_getElem? hy
      have hi := (List.getElem?_eq_some_iff.mp hy).1
      have ht : ps.take (i + 1) = ps.take i ++ [y] := by rw [List.take_add_one, hy]; rfl
      refine ⟨y, k, rfl, by omega, by omega, hps y hm, (clsN k y).map D.str, .inl ⟨rfl, fun j acc R2 => R2 = R' ∧ acc = ((ps.take i).flatMap (clsN k) ++ (clsN k y).take j).map D.str, ⟨rfl, by simp⟩, ?_, ?_, ?_⟩⟩
      · rintro j acc R2 hj ⟨rfl, rfl⟩
        have a := hbd (ps.take i) (fun p hp => List.mem_of_mem_take hp) (by rw [List.length_take]; omega)
        have b := hbd [y] (fun p hp => by rw [List.mem_singleton.mp hp]; exact hm) (by simp)
        simp only [List.flatMap_cons, List.flatMap_nil, List.append_nil] at b
        rw [List.length_map, List.length_append, List.length_take]
        omega
      · rintro j z acc R2 hz ⟨rfl, rfl⟩
        rw [List.getElem?_map] at hz
        cases hq : (clsN k y)[j]? with
        | none => rw [hq] at hz; cases hz
        | some c =>
          rw [hq] at hz
          have hz : D.str c = z := Option.some.inj hz
          subst hz
          refine ⟨rfl, ?_⟩
          rw [List.take_add_one, hq]
          simp
      · rintro acc R2 ⟨rfl, rfl⟩
        refine ⟨rfl, ?_⟩
        rw [List.length_map, List.take_length, ht, List.flatMap_append]
        simp
    · rintro acc R' ⟨rfl, rfl⟩
      rw [List.take_length]
      exact fin q
  · have q : Qd (.lst ((clsN k e).map D.str)) R := q
    exact iteF (by decide +kernel) (iteT (by simp) ⟨e, k, rfl, by omega, by omega, he, fin q⟩)
theorem ok_cls (F : Fun K "classes_in" "classes_in" s_classes_in f fd) (Z : Blt mg bl) (hm : mg "classes_in" = some (.ref f)) (bd : Binds K fd ["pattern"] []) : ∀ n : Nat, FnG P w K mg base CX0 (n + 2) f fd ["pattern"] (spOf K (spCls n))
  | 0 => fnG_none fun ds R Q E ⟨d, k, _, hk, _⟩ => by omega
  | n + 1 => step_cls F Z ⟨_, _, _, ok_cls F Z hm bd n, hm, F.kp, bd⟩
abbrev s_is_pattern : Stmt := top 14
abbrev n_is_pattern : List Str := ["value"]
theorem sc_is_pattern : FnScope n_is_pattern ["value"] (defScope s_is_pattern) := ⟨rfl, rfl, rfl, by decide +kernel, rfl, by decide +kernel, by decide +kernel⟩
def patB (d : D) : Bool := isN 6 d && decide ((clsN 6 d).length ≤ 12)
def spPat : DSp := fun ds R Q _ => ∃ d : D, ds = [d] ∧ gdB d = true ∧ Q (.bl (patB d)) R
theorem ok_pat (F : Fun K "is_pattern" "is_pattern" s_is_pattern f fd) (Z : Blt mg bl) (g_MOST_DEEP : GC K mg "MOST_DEEP" (.int 6)) (g_MOST_CLASSES : GC K mg "MOST_CLASSES" (.int 12)) (c_is_nested : Cal P w K mg base 9 "is_nested" (spNest 7)) (c_classes_in : Cal P w K mg base 9 "classes_in" (spCls 7)) : FnG P w K mg base CX0 10 f fd ["value"] (spOf K spPat) := by
  refine okD F sc_is_pattern (fun ds R Q E h => by obtain ⟨d, rfl, _⟩ := h; rfl) fun cdv A outer s H E gd hr => ?_
  refine ⟨_, (dss_one (ds_ret (de_and (de_c c_is_nested gd hr (by omega) (by rfl) (da_cons (dv 0) (da_cons (de_glob g_MOST_DEEP (by rfl)) da_nil))) (de_one (de_cmp od_le (de_callB cd_len (by rfl) (Z _ (by decide)) bt_len (da_cons (de_c c_classes_in gd hr (by omega) (by rfl) (da_cons (dv 0) da_nil)) da_nil)) (de_glob g_MOST_CLASSES (by rfl)) (nomark _)))))), fun ds R Qd Ed h => ?_⟩
  obtain ⟨d, rfl, hd, q⟩ := h
  simp only [dSeq, dGetK, rdInK, dGetT, dInT, rdSetK, dNewK, dDcF, dDc2F, dIEnum, dIZip, dISeq, dStar, dCont, dBrk, dOrT, rdInC, dCallK, dCVal, dMeth, dFld, dSetF, dNewF, dNew0F, dDisp, dPairs, dGet2, dGIndex, DL.keyOf, DL.keysOf, dCallL, dLam, dJoin, dJs, dFmtS, dRepl, dRaise, dCallX, dDelTail, dAugL, dXF, dAsg, dIf, dIfS, dB, dAnd, dOr, dNot, dAndV, dOrV, dNotV, dChain, dOp, dUn, dVar, dC, rdI0, rdI, dCB, dCall, rd1, dCons, dNil, dgName, dgSub, dgTup, dgLst, dSortSet, dgCons, dgNil, rdSetL, dRet, dLst, dLstF, dTup, dDrop, dNext, dPar, dBM, dBM0, dSl, dPart, dNoPart, dstart, dwipe, List.map_cons, List.map_nil, List.length_cons, List.length_nil, List.replicate_succ, List.replicate_zero, List.cons_append, List.nil_append, List.set_cons_zero, List.set_cons_succ, List.getElem?_cons_zero, List.getElem?_cons_succ, Nat.reduceAdd, Nat.reduceSub, Option.some.injEq, D.int.injEq, D.bl.injEq, D.str.injEq, D.ref.injEq, D.ty.injEq, D.tup.injEq, D.lst.injEq, D.rls.injEq, RO.lst.injEq, List.cons.injEq, exists_and_left, exists_eq_left', exists_eq_left, and_true, true_and, put_same, put_put, at0, at1, at2, ix30, ix31, ix32, and_assoc, dLcF, dLc, dLcT, dIRng1, dIRng2, dIRng3, dIStr, dITup, dILst, dYes, if_true, Bool.false_eq_true, if_false, eqS_ii, neS_ii, eqS_ss, neS_ss, decide_eq_true_eq, sq_tup, sq_lst, sq_rls, lo_lst, lo_rls, tr_lst, isi_tt, isi_st, isi_nt, isi_bt, isi_it, isi_lt, isi_ts, isi_ss, isi_ns, isi_bs, isi_is, isi_ls, List.append_nil, sz0, sz1, sz2, sz3, sz4, sz5, sz6, sl0, sl1, sl2, ty_put, ty_str, lo_put, sq_put, tr_put, reduceCtorEq, false_and, and_false, exists_false, or_false, false_or, Bool.not_false, Bool.not_true, List.isEmpty_nil, List.isEmpty_cons, app1_empty, dLc2F, dMatch, dGoM]
  refine ⟨d, 6, rfl, by decide, hd, _, rfl, ?_⟩
  unfold patB at q
  cases h : isN 6 d with
  | false =>
    rw [h, Bool.false_and] at q
    exact iteF (by decide) (fin q)
  | true =>
    rw [h, Bool.true_and] at q
    refine iteT rfl ⟨d, 6, rfl, by decide, by decide, h, _, rfl, fin ?_⟩
    rw [List.length_map, show decide (((clsN 6 d).length : Int) ≤ 12) = decide ((clsN 6 d).length ≤ 12) from decide_eq_decide.mpr (by omega)]
    exact q
end

end Law
end
section
set_option Elab.async false
set_option maxRecDepth 100000
set_option maxHeartbeats 4000000
set_option linter.all false
set_option autoImplicit false
namespace Law
open PySem PySem.Spec PyProof.Rows L2 DL TL TrA TrA.Tr
section
variable [TabCtx]
/-! ### kinds of patterns, plainly -/
theorem isN_one {k : Nat} {y : Str} : isN (k + 1) (.tup [.str "one", .str y]) = nmB y := by rw [isN_str, if_pos rfl]; rfl
theorem isN_many {k : Nat} {d : D} : isN (k + 1) (.tup [.str "many", d]) = isN k d := by
  rw [isN_str, if_neg (by decide +kernel), if_neg (by decide +kernel), if_pos rfl]
theorem isN_any {k : Nat} {ps : List D} : isN (k + 1) (.tup [.str "any", .tup ps]) = (decide (2 ≤ ps.length) && decide (ps.length ≤ 4) && ps.all (isN k)) := by
  rw [isN_str, if_neg (by decide +kernel), if_pos (.inl rfl)]; rfl
theorem isN_row {k : Nat} {ps : List D} : isN (k + 1) (.tup [.str "row", .tup ps]) = (decide (2 ≤ ps.length) && decide (ps.length ≤ 4) && ps.all (isN k)) := by
  rw [isN_str, if_neg (by decide +kernel), if_pos (.inr rfl)]; rfl
theorem clsN_s {k : Nat} {x : Str} {e : D} : clsN (k + 1) (.tup [.str x, e]) = if x = "one" then (match e with | .str y => [y] | _ => []) else if x = "many" then clsN k e else (match e with | .tup ps => ps.flatMap (clsN k) | _ => []) := rfl
theorem clsN_one {k : Nat} {y : Str} : clsN (k + 1) (.tup [.str "one", .str y]) = [y] := by rw [clsN_s, if_pos rfl]
theorem clsN_many {k : Nat} {e : D} : clsN (k + 1) (.tup [.str "many", e]) = clsN k e := by rw [clsN_s, if_neg (by decide +kernel), if_pos rfl]
theorem clsN_any {k : Nat} {ps : List D} : clsN (k + 1) (.tup [.str "any", .tup ps]) = ps.flatMap (clsN k) := by rw [clsN_s, if_neg (by decide +kernel), if_neg (by decide +kernel)]
theorem clsN_row {k : Nat} {ps : List D} : clsN (k + 1) (.tup [.str "row", .tup ps]) = ps.flatMap (clsN k) := by rw [clsN_s, if_neg (by decide +kernel), if_neg (by decide +kernel)]
theorem sum_len (f : D → Nat) (g : D → List Str) : ∀ {ps : List D}, (∀ p ∈ ps, f p = (g p).length) → (ps.map f).sum = (ps.flatMap g).length
  | [], _ => rfl
  | p :: ps, h => by
    rw [List.map_cons, List.sum_cons, List.flatMap_cons, List.length_append, h p (by simp), sum_len f g fun q hq => h q (by simp [hq])]
end

end Law
end
section
set_option Elab.async false
set_option maxRecDepth 100000
set_option maxHeartbeats 4000000
set_option linter.all false
set_option autoImplicit false
namespace Law
open PySem PySem.Spec PyProof.Rows L2 DL TL TrA TrA.Tr
section
variable [TabCtx]
/-! ### the places of a pattern, plainly: place i has the class it reads and the places behind it -/
abbrev Mch := List (Str × List Nat)
def natD (l : List Nat) : D := .lst (l.map fun n => D.int (n : Nat))
def rdD (m : Mch) : List D := m.map fun e => .str e.1
def aftF (i : Nat) : Mch → List (Key × D)
  | [] => []
  | e :: m => (.inl (i : Nat), natD e.2) :: aftF (i + 1) m
/-- the dict of the places behind each place -/
def aftK (m : Mch) : List (Key × D) := aftF 0 m
theorem aftF_val : ∀ (m : Mch) (i j : Nat), valD (aftF i m) (.inl ((i + j : Nat) : Int)) = m[j]?.map fun e => natD e.2
  | [], i, j => by simp [aftF, valD_nil]
  | e :: m, i, 0 => by
    unfold aftF
    rw [valD_cons, if_pos (by simp)]
    rfl
  | e :: m, i, j + 1 => by
    unfold aftF
    rw [valD_cons, if_neg (by intro z; have := Sum.inl.inj z; omega), show i + (j + 1) = (i + 1) + j by omega, aftF_val m (i + 1) j]
    simp
theorem aftK_val {m : Mch} {j : Nat} : valD (aftK m) (.inl (j : Int)) = m[j]?.map fun e => natD e.2 := by
  have := aftF_val m 0 j
  rw [Nat.zero_add] at this
  exact this
theorem aftF_len : ∀ (m : Mch) (i : Nat), (aftF i m).length = m.length
  | [], _ => rfl
  | e :: m, i => by unfold aftF; rw [List.length_cons, List.length_cons, aftF_len m (i + 1)]
theorem aftF_app : ∀ (m n : Mch) (i : Nat), aftF i (m ++ n) = aftF i m ++ aftF (i + m.length) n
  | [], n, i => by simp [aftF]
  | e :: m, n, i => by
    show (_ :: aftF (i + 1) (m ++ n)) = _
    rw [aftF_app m n (i + 1), List.length_cons, show i + 1 + m.length = i + (m.length + 1) by omega]
    rfl
theorem aftK_new {m : Mch} {x : Str} {l : List Nat} : putKD (aftK m) (.inl ((m.length : Nat) : Int)) (natD l) = aftK (m ++ [(x, l)]) := by
  rw [putKD_new _ (by rw [aftK_val]; simp)]
  unfold aftK
  rw [aftF_app, Nat.zero_add]
  rfl
theorem aftF_set : ∀ (m : Mch) (i j : Nat) (e : Str × List Nat), m[j]? = some e → ∀ l, (aftF i m).map (fun kv => if kv.1 = (.inl ((i + j : Nat) : Int)) then (kv.1, natD l) else kv) = aftF i (m.set j (e.1, l))
  | [], i, j, e, h, l => by simp at h
  | e0 :: m, i, 0, e, h, l => by
    have : e0 = e := by simpa using h
    subst this
    have key : ∀ (m : Mch) (k : Nat), i < k → (aftF k m).map (fun kv => if kv.1 = (.inl ((i : Nat) : Int)) then (kv.1, natD l) else kv) = aftF k m := by
      intro m
      induction m with
      | nil => intro k _; rfl
      | cons a m ih =>
        intro k hk
        unfold aftF
        rw [List.map_cons, ih (k + 1) (by omega), if_neg (by intro z; have := Sum.inl.inj z; omega)]
    unfold aftF
    rw [List.map_cons, Nat.add_zero, if_pos rfl]
    exact congrArg _ (key m (i + 1) (by omega))
  | e0 :: m, i, j + 1, e, h, l => by
    unfold aftF
    rw [List.map_cons, if_neg (by intro z; have := Sum.inl.inj z; omega), show i + (j + 1) = (i + 1) + j by omega, aftF_set m (i + 1) j e (by simpa using h) l]
    rfl
theorem aftF_any : ∀ (m : Mch) (i j : Nat), j < m.length → (aftF i m).any (fun kv => decide (kv.1 = (.inl ((i + j : Nat) : Int)))) = true
  | [], i, j, h => by simp at h
  | e0 :: m, i, 0, h => by unfold aftF; rw [List.any_cons, Nat.add_zero, decide_eq_true (show _ = _ from rfl)]; rfl
  | e0 :: m, i, j + 1, h => by
    unfold aftF
    rw [List.any_cons, show i + (j + 1) = (i + 1) + j by omega, aftF_any m (i + 1) j (by simpa using h), Bool.or_true]
theorem aftK_set {m : Mch} {j : Nat} {e : Str × List Nat} (h : m[j]? = some e) (l : List Nat) : putKD (aftK m) (.inl (j : Int)) (natD l) = aftK (m.set j (e.1, l)) := by
  have h1 := aftF_set m 0 j e h l
  have h2 := aftF_any m 0 j (List.getElem?_eq_some_iff.mp h).1
  rw [Nat.zero_add] at h1 h2
  unfold putKD aftK
  rw [if_pos h2]
  exact h1
theorem rdD_set {m : Mch} {j : Nat} {e : Str × List Nat} (h : m[j]? = some e) (l : List Nat) : rdD (m.set j (e.1, l)) = rdD m := by
  unfold rdD
  rw [List.map_set]
  have hl := (List.getElem?_eq_some_iff.mp h)
  obtain ⟨hj, hv⟩ := hl
  refine List.ext_getElem? fun i => ?_
  rw [List.getElem?_set]
  by_cases hi : j = i
  · subst hi
    rw [if_pos rfl, if_pos (by rw [List.length_map]; exact hj), List.getElem?_map, h]
    rfl
  · rw [if_neg hi]
/-- ascending without repeats -/
def upS (b : Nat) (xs : List Nat) : List Nat := (List.range b).filter fun i => decide (i ∈ xs)
theorem upS_mem {b : Nat} {xs : List Nat} (h : ∀ x ∈ xs, x < b) {i : Nat} : i ∈ upS b xs ↔ i ∈ xs := by
  unfold upS
  rw [List.mem_filter, List.mem_range, decide_eq_true_eq]
  exact ⟨fun z => z.2, fun z => ⟨h i z, z⟩⟩
theorem upS_asc (b : Nat) (xs : List Nat) : (upS b xs).Pairwise (· < ·) := List.pairwise_lt_range.filter _
theorem upS_len (b : Nat) (xs : List Nat) : (upS b xs).length ≤ b := by
  have := List.length_filter_le (fun i => decide (i ∈ xs)) (List.range b)
  rw [List.length_range] at this
  exact this
theorem asc_uniq : ∀ {a b : List Int}, a.Pairwise (· < ·) → b.Pairwise (· < ·) → (∀ k, k ∈ a ↔ k ∈ b) → a = b
  | [], [], _, _, _ => rfl
  | [], y :: b, _, _, h => by have := (h y).mpr (by simp); cases this
  | x :: a, [], _, _, h => by have := (h x).mp (by simp); cases this
  | x :: a, y :: b, ha, hb, h => by
    obtain ⟨a1, a2⟩ := List.pairwise_cons.mp ha
    obtain ⟨b1, b2⟩ := List.pairwise_cons.mp hb
    have e : x = y := by
      rcases List.mem_cons.mp ((h x).mp (by simp)) with z | z
      · exact z
      · rcases List.mem_cons.mp ((h y).mpr (by simp)) with z2 | z2
        · exact z2.symm
        · have := b1 x z; have := a1 y z2; omega
    subst e
    refine congrArg _ (asc_uniq a2 b2 fun k => ?_)
    have hk := h k
    rw [List.mem_cons, List.mem_cons] at hk
    constructor
    · intro z
      rcases hk.mp (.inr z) with z2 | z2
      · have := a1 k z; omega
      · exact z2
    · intro z
      rcases hk.mpr (.inr z) with z2 | z2
      · have := b1 k z; omega
      · exact z2
theorem natD_asc {ns : List Int} {xs : List Nat} {b : Nat} (h1 : ns.Pairwise (· < ·)) (hb : ∀ x ∈ xs, x < b) (h2 : ∀ k : Int, k ∈ ns ↔ ∃ n : Nat, k = n ∧ n ∈ xs) : D.lst (ns.map D.int) = natD (upS b xs) := by
  have e : ns = (upS b xs).map fun n => ((n : Nat) : Int) := by
    refine asc_uniq h1 ?_ fun k => ?_
    · rw [List.pairwise_map]
      exact (upS_asc b xs).imp fun h => by omega
    · rw [h2 k, List.mem_map]
      exact ⟨fun ⟨n, e, hn⟩ => ⟨n, (upS_mem hb).mpr hn, e.symm⟩, fun ⟨n, hn, e⟩ => ⟨n, e.symm, (upS_mem hb).mp hn⟩⟩
  rw [e]
  unfold natD
  rw [List.map_map]
  rfl
/-- the places of Z are led to those of F -/
def linkP (m : Mch) (Z F : List Nat) : Mch := m.mapIdx fun i e => if i ∈ Z then (e.1, upS m.length (e.2 ++ F)) else e
theorem link_len (m : Mch) (Z F : List Nat) : (linkP m Z F).length = m.length := by unfold linkP; rw [List.length_mapIdx]
theorem link_at (m : Mch) (Z F : List Nat) (i : Nat) : (linkP m Z F)[i]? = m[i]?.map fun e => if i ∈ Z then (e.1, upS m.length (e.2 ++ F)) else e := by unfold linkP; rw [List.getElem?_mapIdx]
theorem link_rd (m : Mch) (Z F : List Nat) : rdD (linkP m Z F) = rdD m := by
  unfold rdD linkP
  refine List.ext_getElem? fun i => ?_
  rw [List.getElem?_map, List.getElem?_map, List.getElem?_mapIdx]
  cases m[i]? with
  | none => rfl
  | some e => show some (D.str (if i ∈ Z then _ else e).1) = _; split <;> rfl
/-- all places that are named are there -/
def MOk (m : Mch) : Prop := ∀ e ∈ m, (∀ i ∈ e.2, i < m.length) ∧ e.2.length ≤ m.length
theorem upS_idem {b : Nat} {xs ys F : List Nat} (hx : ∀ x ∈ xs ++ F, x < b) : upS b (upS b (xs ++ F) ++ F) = upS b (xs ++ F) := by
  unfold upS
  refine List.filter_congr fun i hi => decide_eq_decide.mpr ?_
  rw [List.mem_append]
  constructor
  · rintro (h | h)
    · exact (List.mem_filter.mp h).2 |> of_decide_eq_true
    · exact List.mem_append_right _ h
  · intro h
    exact .inl (List.mem_filter.mpr ⟨hi, decide_eq_true h⟩)
theorem link_nil (m : Mch) (F : List Nat) : linkP m [] F = m := by
  refine List.ext_getElem? fun i => ?_
  rw [link_at]
  cases m[i]? <;> simp
/-- one place more is led on -/
theorem link_snoc {m : Mch} {Z F : List Nat} {z : Nat} {e : Str × List Nat} (hm : MOk m) (hF : ∀ x ∈ F, x < m.length) (he : (linkP m Z F)[z]? = some e) : (linkP m Z F).set z (e.1, upS m.length (e.2 ++ F)) = linkP m (Z ++ [z]) F := by
  refine List.ext_getElem? fun i => ?_
  rw [List.getElem?_set, link_at m (Z ++ [z])]
  by_cases hz : z = i
  · subst hz
    have hlt := (List.getElem?_eq_some_iff.mp he).1
    rw [if_pos rfl, if_pos hlt]
    rw [link_at] at he
    cases hmz : m[z]? with
    | none => rw [hmz] at he; cases he
    | some e0 =>
      rw [hmz] at he
      have he : (if z ∈ Z then (e0.1, upS m.length (e0.2 ++ F)) else e0) = e := Option.some.inj he
      show some _ = some (if z ∈ Z ++ [z] then _ else e0)
      rw [if_pos (by simp)]
      by_cases hZ : z ∈ Z
      · rw [if_pos hZ] at he
        rw [← he]
        have := (hm e0 (List.mem_of_getElem? hmz)).1
        rw [upS_idem (ys := []) fun x hx => (List.mem_append.mp hx).elim (this x) (hF x)]
      · rw [if_neg hZ] at he
        rw [← he]
  · rw [if_neg hz, link_at]
    cases m[i]? with
    | none => rfl
    | some e0 =>
      show some (if i ∈ Z then _ else e0) = some (if i ∈ Z ++ [z] then _ else e0)
      by_cases hZ : i ∈ Z
      · rw [if_pos hZ, if_pos (by simp [hZ])]
      · rw [if_neg hZ, if_neg (by simp [hZ]; exact fun q => hz q.symm)]
theorem MOk.link {m : Mch} {Z F : List Nat} (h : MOk m) (hF : ∀ x ∈ F, x < m.length) : MOk (linkP m Z F) := fun e he => by
  rw [link_len]
  obtain ⟨j, hj⟩ := List.getElem?_of_mem he
  rw [link_at] at hj
  cases hm : m[j]? with
  | none => rw [hm] at hj; cases hj
  | some e0 =>
    rw [hm] at hj
    have hj : (if j ∈ Z then (e0.1, upS m.length (e0.2 ++ F)) else e0) = e := Option.some.inj hj
    have h0 := h e0 (List.mem_of_getElem? hm)
    by_cases hZ : j ∈ Z
    · rw [if_pos hZ] at hj
      rw [← hj]
      exact ⟨fun i hi => List.mem_range.mp (List.mem_filter.mp hi).1, upS_len _ _⟩
    · rw [if_neg hZ] at hj
      rw [← hj]
      exact h0
theorem nodup_len : ∀ (b : Nat) {l : List Int}, l.Nodup → (∀ k ∈ l, 0 ≤ k ∧ k < (b : Int)) → l.length ≤ b
  | 0, l, _, h => by
    cases l with
    | nil => exact Nat.le_refl _
    | cons a l => have := h a (by simp); omega
  | b + 1, l, hn, h => by
    have := nodup_len b (l := l.erase (b : Int)) (hn.erase _) fun k hk => by
      have h1 := h k (List.mem_of_mem_erase hk)
      have h2 : k ≠ (b : Int) := ((hn.mem_erase_iff).mp hk).1
      omega
    have h3 : l.length ≤ (l.erase (b : Int)).length + 1 := by rw [List.length_erase]; split <;> omega
    omega
abbrev Adds := Mch × List Nat × List Nat
def seqP (f : D → Mch → Adds) : List D → Mch → Mch × List (List Nat × List Nat)
  | [], m => (m, [])
  | p :: ps, m => ((seqP f ps (f p m).1).1, (f p m).2 :: (seqP f ps (f p m).1).2)
def rowP (f : D → Mch → Adds) : List D → Adds → Adds
  | [], s => s
  | p :: ps, (m, S, Z) => rowP f ps (linkP (f p m).1 Z (f p m).2.1, S, (f p m).2.2)
/-- the places of a pattern are put in; its first and its last places -/
def addP : Nat → D → Mch → Adds
  | 0, _, m => (m, [], [])
  | k + 1, d, m => match d with
    | .tup [.str x, e] => if x = "one" then (match e with | .str y => (m ++ [(y, [])], [m.length], [m.length]) | _ => (m, [], []))
      else if x = "any" then (match e with | .tup ps => ((seqP (addP k) ps m).1, (seqP (addP k) ps m).2.flatMap (·.1), (seqP (addP k) ps m).2.flatMap (·.2)) | _ => (m, [], []))
      else if x = "row" then (match e with | .tup (p :: ps) => rowP (addP k) ps (addP k p m) | _ => (m, [], []))
      else (linkP (addP k e m).1 (addP k e m).2.2 (addP k e m).2.1, (addP k e m).2.1, (addP k e m).2.2)
    | _ => (m, [], [])
theorem addP_s {k : Nat} {x : Str} {e : D} {m : Mch} : addP (k + 1) (.tup [.str x, e]) m = if x = "one" then (match e with | .str y => (m ++ [(y, [])], [m.length], [m.length]) | _ => (m, [], []))
      else if x = "any" then (match e with | .tup ps => ((seqP (addP k) ps m).1, (seqP (addP k) ps m).2.flatMap (·.1), (seqP (addP k) ps m).2.flatMap (·.2)) | _ => (m, [], []))
      else if x = "row" then (match e with | .tup (p :: ps) => rowP (addP k) ps (addP k p m) | _ => (m, [], []))
      else (linkP (addP k e m).1 (addP k e m).2.2 (addP k e m).2.1, (addP k e m).2.1, (addP k e m).2.2) := rfl
theorem addP_one {k : Nat} {y : Str} {m : Mch} : addP (k + 1) (.tup [.str "one", .str y]) m = (m ++ [(y, [])], [m.length], [m.length]) := by
  rw [addP_s, if_pos rfl]
theorem addP_any {k : Nat} {ps : List D} {m : Mch} : addP (k + 1) (.tup [.str "any", .tup ps]) m = ((seqP (addP k) ps m).1, (seqP (addP k) ps m).2.flatMap (·.1), (seqP (addP k) ps m).2.flatMap (·.2)) := by
  rw [addP_s, if_neg (by decide +kernel), if_pos rfl]
theorem addP_row {k : Nat} {p : D} {ps : List D} {m : Mch} : addP (k + 1) (.tup [.str "row", .tup (p :: ps)]) m = rowP (addP k) ps (addP k p m) := by
  rw [addP_s, if_neg (by decide +kernel), if_neg (by decide +kernel), if_pos rfl]
theorem addP_many {k : Nat} {e : D} {m : Mch} : addP (k + 1) (.tup [.str "many", e]) m = (linkP (addP k e m).1 (addP k e m).2.2 (addP k e m).2.1, (addP k e m).2.1, (addP k e m).2.2) := by
  rw [addP_s, if_neg (by decide +kernel), if_neg (by decide +kernel), if_neg (by decide +kernel)]
/-- what putting in does not break; n: how many places may come -/
structure AOk (m : Mch) (s : Adds) (n : Nat) : Prop where
  ok : MOk s.1
  len : s.1.length = m.length + n
  f : ∀ i ∈ s.2.1, m.length ≤ i ∧ i < s.1.length
  z : ∀ i ∈ s.2.2, m.length ≤ i ∧ i < s.1.length
  fl : s.2.1.length ≤ n
  zl : s.2.2.length ≤ n
theorem seq_ok {f : D → Mch → Adds} {g : D → Nat} : ∀ {ps : List D} {m : Mch}, (∀ p ∈ ps, ∀ m, MOk m → AOk m (f p m) (g p)) → MOk m → AOk m ((seqP f ps m).1, (seqP f ps m).2.flatMap (·.1), (seqP f ps m).2.flatMap (·.2)) ((ps.map g).sum)
  | [], m, _, hm => ⟨hm, rfl, (fun i h => by cases h), (fun i h => by cases h), Nat.le_refl _, Nat.le_refl _⟩
  | p :: ps, m, h, hm => by
    have a := h p (by simp) m hm
    have b := seq_ok (ps := ps) (m := (f p m).1) (fun q hq => h q (by simp [hq])) a.ok
    have al := a.len
    have bl := b.len
    have bl : (seqP f ps (f p m).1).1.length = (f p m).1.length + (ps.map g).sum := bl
    refine ⟨b.ok, ?_, fun i hi => ?_, fun i hi => ?_, ?_, ?_⟩
    · show (seqP f ps (f p m).1).1.length = _
      rw [List.map_cons, List.sum_cons]; omega
    · show _ ∧ i < (seqP f ps (f p m).1).1.length
      rcases List.mem_append.mp hi with z | z
      · have := a.f i z; omega
      · have := b.f i z; omega
    · show _ ∧ i < (seqP f ps (f p m).1).1.length
      rcases List.mem_append.mp hi with z | z
      · have := a.z i z; omega
      · have := b.z i z; omega
    · show ((f p m).2.1 ++ _).length ≤ _
      have c := a.fl; have d := b.fl
      rw [List.length_append, List.map_cons, List.sum_cons]
      exact Nat.add_le_add c d
    · show ((f p m).2.2 ++ _).length ≤ _
      have c := a.zl; have d := b.zl
      rw [List.length_append, List.map_cons, List.sum_cons]
      exact Nat.add_le_add c d
theorem row_ok {f : D → Mch → Adds} {g : D → Nat} {m0 : Mch} : ∀ {ps : List D} {s : Adds} {n : Nat}, (∀ p ∈ ps, ∀ m, MOk m → AOk m (f p m) (g p)) → AOk m0 s n → AOk m0 (rowP f ps s) (n + (ps.map g).sum)
  | [], s, n, _, hs => hs
  | p :: ps, (m, S, Z), n, h, hs => by
    have a := h p (by simp) m hs.ok
    have hF : ∀ x ∈ (f p m).2.1, x < (f p m).1.length := fun x hx => (a.f x hx).2
    have al := a.len
    have sl : m.length = m0.length + n := hs.len
    have step : AOk m0 (linkP (f p m).1 Z (f p m).2.1, S, (f p m).2.2) (n + g p) := ⟨a.ok.link hF, by show (linkP _ _ _).length = _; rw [link_len]; omega, fun i hi => by
      show _ ∧ i < (linkP _ _ _).length
      rw [link_len]; have := hs.f i hi; have : i < m.length := this.2; have := (hs.f i hi).1; omega, fun i hi => by
      show _ ∧ i < (linkP _ _ _).length
      rw [link_len]; have := a.z i hi; omega, Nat.le_trans hs.fl (by omega), Nat.le_trans a.zl (by omega)⟩
    have := row_ok (ps := ps) (fun q hq => h q (by simp [hq])) step
    rw [List.map_cons, List.sum_cons, ← Nat.add_assoc]
    exact this
theorem add_ok : ∀ (k : Nat) {d : D}, isN k d = true → ∀ m, MOk m → AOk m (addP k d m) (clsN k d).length
  | 0, _, h, _, _ => by cases h
  | k + 1, d, h, m, hm => by
    obtain ⟨x, e, rfl, hc⟩ := isN_form h
    rcases hc with ⟨rfl, y, rfl, hy⟩ | ⟨rfl | rfl, ps, rfl, hp2, hp4, hps⟩ | ⟨rfl, he⟩
    · rw [addP_one, clsN_one]
      have hl : (m ++ [(y, ([] : List Nat))]).length = m.length + 1 := by simp
      refine ⟨fun e he => ?_, hl, fun i hi => ?_, fun i hi => ?_, Nat.le_refl _, Nat.le_refl _⟩
      · rw [hl]
        rcases List.mem_append.mp he with z | z
        · have h1 := hm e z
          exact ⟨fun i hi => Nat.lt_succ_of_lt (h1.1 i hi), Nat.le_succ_of_le h1.2⟩
        · rw [List.mem_singleton.mp z]
          exact ⟨(fun i hi => by cases hi), Nat.zero_le _⟩
      · have : i = m.length := List.mem_singleton.mp hi
        show _ ∧ i < (m ++ [(y, ([] : List Nat))]).length
        omega
      · have : i = m.length := List.mem_singleton.mp hi
        show _ ∧ i < (m ++ [(y, ([] : List Nat))]).length
        omega
    · rw [addP_any, clsN_any, ← sum_len (fun d => (clsN k d).length) (clsN k) fun _ _ => rfl]
      exact seq_ok (fun p hp m hm => add_ok k (hps p hp) m hm) hm
    · match ps, hp2, hps with
      | p :: ps, hp2, hps =>
        rw [addP_row, clsN_row, List.flatMap_cons, List.length_append, ← sum_len (fun d => (clsN k d).length) (clsN k) fun _ _ => rfl]
        exact row_ok (fun q hq m hm => add_ok k (hps q (by simp [hq])) m hm) (add_ok k (hps p (by simp)) m hm)
    · rw [addP_many, clsN_many]
      have a := add_ok k he m hm
      have hF : ∀ x ∈ (addP k e m).2.1, x < (addP k e m).1.length := fun x hx => (a.f x hx).2
      exact ⟨a.ok.link hF, by show (linkP _ _ _).length = _; rw [link_len]; exact a.len, fun i hi => by show _ ∧ i < (linkP _ _ _).length; rw [link_len]; exact a.f i hi, fun i hi => by show _ ∧ i < (linkP _ _ _).length; rw [link_len]; exact a.z i hi, a.fl, a.zl⟩
/-- what was there stays as it was -/
def AOld (m : Mch) (s : Adds) : Prop := ∀ i, i < m.length → s.1[i]? = m[i]?
theorem link_out {m : Mch} {Z F : List Nat} {i : Nat} (h : i ∉ Z) : (linkP m Z F)[i]? = m[i]? := by
  rw [link_at]
  cases m[i]? with
  | none => rfl
  | some e => show some (if i ∈ Z then _ else e) = _; rw [if_neg h]
theorem seq_old {f : D → Mch → Adds} {g : D → Nat} : ∀ {ps : List D} {m : Mch}, (∀ p ∈ ps, ∀ m, MOk m → AOk m (f p m) (g p) ∧ AOld m (f p m)) → MOk m → ∀ i, i < m.length → (seqP f ps m).1[i]? = m[i]?
  | [], m, _, _, i, _ => rfl
  | p :: ps, m, h, hm, i, hi => by
    obtain ⟨a, b⟩ := h p (by simp) m hm
    have al := a.len
    have := seq_old (ps := ps) (m := (f p m).1) (fun q hq => h q (by simp [hq])) a.ok i (by omega)
    exact this.trans (b i hi)
theorem row_old {f : D → Mch → Adds} {g : D → Nat} {m0 : Mch} : ∀ {ps : List D} {s : Adds} {n : Nat}, (∀ p ∈ ps, ∀ m, MOk m → AOk m (f p m) (g p) ∧ AOld m (f p m)) → AOk m0 s n → AOld m0 s → AOld m0 (rowP f ps s)
  | [], s, n, _, _, hs => hs
  | p :: ps, (m, S, Z), n, h, hs, ho => by
    obtain ⟨a, b⟩ := h p (by simp) m hs.ok
    have hF : ∀ x ∈ (f p m).2.1, x < (f p m).1.length := fun x hx => (a.f x hx).2
    have al := a.len
    have sl : m.length = m0.length + n := hs.len
    have step : AOk m0 (linkP (f p m).1 Z (f p m).2.1, S, (f p m).2.2) (n + g p) := ⟨a.ok.link hF, by show (linkP _ _ _).length = _; rw [link_len]; omega, fun i hi => by
      show _ ∧ i < (linkP _ _ _).length
      rw [link_len]; have := hs.f i hi; have : i < m.length := this.2; have := (hs.f i hi).1; omega, fun i hi => by
      show _ ∧ i < (linkP _ _ _).length
      rw [link_len]; have := a.z i hi; omega, Nat.le_trans hs.fl (by omega), Nat.le_trans a.zl (by omega)⟩
    refine row_old (ps := ps) (fun q hq => h q (by simp [hq])) step fun i hi => ?_
    show (linkP (f p m).1 Z (f p m).2.1)[i]? = _
    rw [link_out fun z => by have := (hs.z i z).1; omega, b i (by omega)]
    exact ho i hi
theorem add_old : ∀ (k : Nat) {d : D}, isN k d = true → ∀ m, MOk m → AOld m (addP k d m)
  | 0, _, h, _, _ => by cases h
  | k + 1, d, h, m, hm => by
    obtain ⟨x, e, rfl, hc⟩ := isN_form h
    rcases hc with ⟨rfl, y, rfl, hy⟩ | ⟨rfl | rfl, ps, rfl, hp2, hp4, hps⟩ | ⟨rfl, he⟩
    · rw [addP_one]
      exact fun i hi => List.getElem?_append_left hi
    · rw [addP_any]
      exact seq_old (g := fun d => (clsN k d).length) (fun p hp m hm => ⟨add_ok k (hps p hp) m hm, add_old k (hps p hp) m hm⟩) hm
    · match ps, hp2, hps with
      | p :: ps, hp2, hps =>
        rw [addP_row]
        exact row_old (g := fun d => (clsN k d).length) (fun q hq m hm => ⟨add_ok k (hps q (by simp [hq])) m hm, add_old k (hps q (by simp [hq])) m hm⟩) (add_ok k (hps p (by simp)) m hm) (add_old k (hps p (by simp)) m hm)
    · rw [addP_many]
      have a := add_ok k he m hm
      intro i hi
      show (linkP _ _ _)[i]? = _
      rw [link_out fun z => by have := (a.z i z).1; omega]
      exact add_old k he m hm i hi
end

end Law
end
section
set_option Elab.async false
set_option maxRecDepth 100000
set_option maxHeartbeats 4000000
set_option linter.all false
set_option autoImplicit false
namespace Law
open PySem PySem.Spec PyProof.Rows L2 DL TL TrA TrA.Tr
section
variable [TabCtx] {P : Program} {w : World} {K : KB} {mg : Str → Option Value} {base : Heap} {f : Addr} {fd : FuncData} {plC : Addr}
/-- an instance of Places: what it reads, what comes behind -/
structure PlAt (plC : Addr) (R : Rs) (r q a : Addr) (m : Mch) : Prop where
  ins : ∃ dx fs, R r = some (.ins plC dx fs) ∧ fs.lookup ("read" : Str) = some (.ref q) ∧ fs.lookup ("after" : Str) = some (.ref a) ∧ ∀ x ∈ fs.map (·.1), x ∈ (["read", "after", "starts", "ends"] : List Str)
  hq : R q = some (.lst (rdD m))
  ha : R a = some (.dK (aftK m))
  qa : q ≠ a
  rq : r ≠ q
  ra : r ≠ a
def plPut (R : Rs) (q a : Addr) (m : Mch) : Rs := put (put R q (.lst (rdD m))) a (.dK (aftK m))
section
variable {R : Rs} {r q a : Addr} {m m' : Mch}
theorem plPut2 (h : q ≠ a) : plPut (plPut R q a m) q a m' = plPut R q a m' := by
  unfold plPut
  rw [put_comm h.symm, put_put, put_put]
theorem PlAt.same (h : PlAt plC R r q a m) : plPut R q a m = R := by
  unfold plPut
  rw [put_self h.hq, put_self h.ha]
theorem PlAt.put (h : PlAt plC R r q a m) (m' : Mch) : PlAt plC (plPut R q a m') r q a m' := by
  obtain ⟨dx, fs, h1, h2⟩ := h.ins
  exact ⟨⟨dx, fs, by unfold plPut; rw [put_ne h.ra, put_ne h.rq]; exact h1, h2⟩, by unfold plPut; rw [put_ne h.qa, put_same], put_same, h.qa, h.rq, h.ra⟩
theorem PlAt.fread (h : PlAt plC R r q a m) : fldOf R (.ref r) plC "read" (.ref q) := by
  obtain ⟨dx, fs, h1, h2, _, _⟩ := h.ins
  exact ⟨dx, fs, h1, h2⟩
theorem PlAt.fafter (h : PlAt plC R r q a m) : fldOf R (.ref r) plC "after" (.ref a) := by
  obtain ⟨dx, fs, h1, _, h2, _⟩ := h.ins
  exact ⟨dx, fs, h1, h2⟩
theorem PlAt.insA {x : Str} (h : PlAt plC R r q a m) (hx : x ∉ (["read", "after", "starts", "ends"] : List Str)) : insAt R (.ref r) plC x := by
  obtain ⟨dx, fs, h1, _, _, h2⟩ := h.ins
  exact ⟨dx, fs, h1, fun z => hx (h2 x z)⟩
theorem PlAt.dk (h : PlAt plC R r q a m) : dkOf R (.ref a) = some (aftK m) := by simp only [dkOf, h.ha]
/-- the dict alone is changed -/
theorem plPut_a (h : PlAt plC R r q a m) (hr : rdD m' = rdD m) : Law.plPut R q a m' = DL.put R a (.dK (aftK m')) := by
  unfold plPut
  rw [hr, put_self h.hq]
end
/-- a set that is filled with whole numbers -/
def PSet (xs : List Nat) (R : Rs) (i : Nat) (acc : List Int) (R' : Rs) : Prop := R' = R ∧ acc.Nodup ∧ ∀ k : Int, k ∈ acc ↔ ∃ n : Nat, k = n ∧ n ∈ xs.take i
theorem PSet.nil {xs : List Nat} {R : Rs} : PSet xs R 0 [] R := ⟨rfl, List.nodup_nil, fun k => by simp⟩
theorem PSet.go {xs : List Nat} {R R' : Rs} {i n : Nat} {acc : List Int} (h : PSet xs R i acc R') (hx : xs[i]? = some n) : PSet xs R (i + 1) (insI acc n) R' := ⟨h.1, insI_nodup h.2.1, fun k => by
  rw [insI_mem, h.2.2 k, List.take_add_one, hx]
  constructor
  · rintro (⟨j, e, hj⟩ | e)
    · exact ⟨j, e, List.mem_append_left _ hj⟩
    · exact ⟨n, e, List.mem_append_right _ (by simp)⟩
  · rintro ⟨j, e, hj⟩
    rcases List.mem_append.mp hj with z | z
    · exact .inl ⟨j, e, z⟩
    · have : j = n := by simpa using z
      rw [this] at e
      exact .inr e⟩
theorem PSet.len {xs : List Nat} {R R' : Rs} {i b : Nat} {acc : List Int} (h : PSet xs R i acc R') (hb : ∀ x ∈ xs, x < b) : acc.length ≤ b := nodup_len b h.2.1 fun k hk => by
  obtain ⟨n, e, hn⟩ := (h.2.2 k).mp hk
  have := hb n (List.mem_of_mem_take hn)
  omega
theorem PSet.end {xs : List Nat} {R R' : Rs} {b : Nat} {acc ns : List Int} (h : PSet xs R xs.length acc R') (hb : ∀ x ∈ xs, x < b) (h1 : ns.Pairwise (· < ·)) (h2 : ∀ k, k ∈ ns ↔ k ∈ acc) : R' = R ∧ D.lst (ns.map D.int) = natD (upS b xs) := ⟨h.1, natD_asc h1 hb fun k => by rw [h2 k, h.2.2 k, List.take_length]⟩
theorem aftK_len (m : Mch) : (aftK m).length = m.length := aftF_len m 0
abbrev s_Places_link : Stmt := inClass (top 16) 3
abbrev n_Places_link : List Str := ["self", "lasts", "firsts", "place", "one"]
theorem sc_Places_link : FnScope n_Places_link ["self", "lasts", "firsts"] (defScope s_Places_link) := ⟨rfl, rfl, rfl, by decide +kernel, rfl, by decide +kernel, by decide +kernel⟩
def spLink (plC : Addr) : DSp := fun ds R Q _ => ∃ (r q a : Addr) (m : Mch) (Z F : List Nat), ds = [.ref r, natD Z, natD F] ∧ PlAt plC R r q a m ∧ MOk m ∧ m.length ≤ 60 ∧ (∀ x ∈ Z, x < m.length) ∧ (∀ x ∈ F, x < m.length) ∧ F.length ≤ 60 ∧ Q .non (plPut R q a (linkP m Z F))
def WLk (R : Rs) (r q a : Addr) (m : Mch) (Z F : List Nat) (i : Nat) (s' : DSt) (R' : Rs) : Prop := ∃ j : Option D, R' = plPut R q a (linkP m (Z.take i) F) ∧ s' = [some (.ref r), some (natD Z), some (natD F), j, none]
theorem ok_link (F : Fun K "link" "Places.link" s_Places_link f fd) (Z : Blt mg bl) (cl_Places : Cls K plC) (na_Places_after : NoAttr K plC "after") : FnG P w K mg base CX0 1 f fd ["self", "lasts", "firsts"] (spOf K (spLink plC)) := by
  refine okD F sc_Places_link (fun ds R Q E h => by obtain ⟨r, q, a, m, Z, F, rfl, _⟩ := h; rfl) fun cdv A outer s H E gd hr => ?_
  refine ⟨_, (dss_one (ds_for PassesOwn.never rfl (di_list (dv 1)) (dg_name (i := 3) sc_Places_link.nd rfl (.inl rfl)) (dss_one (ds_asg (de_sortSc1 (own := [("one", 4)]) rfl (by rfl) (Z _ (by decide)) sc_Places_link.nd (di_list (de_op od_catF (de_dgetK (hu_of hr) (de_fld cl_Places na_Places_after (dv 0)) (dv 3)) (dv 2))) (blkOk_by (N := n_Places_link) (sc := defScope s_Places_link) (by decide +kernel)) (fun _ _ _ _ _ => (dgw_name (i := 4) sc_Places_link.nd rfl (.inl rfl))) (fun _ _ _ _ _ => dts_nil) (fun _ _ _ _ _ => (dv 4))) (dg_sub (de_fld cl_Places na_Places_after (dv 0)) (dv 3) (dset_dk (hu_of hr))))))), fun ds R Qd Ed h => ?_⟩
  obtain ⟨r, q, a, m, Z, F, rfl, hat, hm, hml, hZ, hF, hFl, qq⟩ := h
  simp only [dFor, dSeq, dGetK, rdInK, dGetT, dInT, rdSetK, dNewK, dDcF, dDc2F, dIEnum, dIZip, dISeq, dStar, dCont, dBrk, dOrT, rdInC, dCallK, dCVal, dMeth, dFld, dSetF, dNewF, dNew0F, dDisp, dPairs, dGet2, dGIndex, DL.keyOf, DL.keysOf, dCallL, dLam, dJoin, dJs, dFmtS, dRepl, dRaise, dCallX, dDelTail, dAugL, dXF, dAsg, dIf, dIfS, dB, dAnd, dOr, dNot, dAndV, dOrV, dNotV, dChain, dOp, dUn, dVar, dC, rdI0, rdI, dCB, dCall, rd1, dCons, dNil, dgName, dgSub, dgTup, dgLst, dSortSet, dgCons, dgNil, rdSetL, dRet, dLst, dLstF, dTup, dDrop, dNext, dPar, dBM, dBM0, dSl, dPart, dNoPart, dstart, dwipe, List.map_cons, List.map_nil, List.length_cons, List.length_nil, List.replicate_succ, List.replicate_zero, List.cons_append, List.nil_append, List.set_cons_zero, List.set_cons_succ, List.getElem?_cons_zero, List.getElem?_cons_succ, Nat.reduceAdd, Nat.reduceSub, Option.some.injEq, D.int.injEq, D.bl.injEq, D.str.injEq, D.ref.injEq, D.ty.injEq, D.tup.injEq, D.lst.injEq, D.rls.injEq, RO.lst.injEq, List.cons.injEq, exists_and_left, exists_eq_left', exists_eq_left, and_true, true_and, put_same, put_put, at0, at1, at2, ix30, ix31, ix32, and_assoc, dLcF, dLc, dLcT, dIRng1, dIRng2, dIRng3, dIStr, dITup, dILst, dYes, if_true, Bool.false_eq_true, if_false, eqS_ii, neS_ii, eqS_ss, neS_ss, decide_eq_true_eq, sq_tup, sq_lst, sq_rls, lo_lst, lo_rls, tr_lst, isi_tt, isi_st, isi_nt, isi_bt, isi_it, isi_lt, isi_ts, isi_ss, isi_ns, isi_bs, isi_is, isi_ls, List.append_nil, sz0, sz1, sz2, sz3, sz4, sz5, sz6, sl0, sl1, sl2, ty_put, ty_str, lo_put, sq_put, tr_put, reduceCtorEq, false_and, and_false, exists_false, or_false, false_or, Bool.not_false, Bool.not_true, List.isEmpty_nil, List.isEmpty_cons, app1_empty, dSortSc1]
  refine ⟨_, .inl ⟨rfl, WLk R r q a m Z F, ⟨none, by rw [List.take_zero, link_nil]; exact hat.same.symm, rfl⟩, fun _ _ _ _ _ => trivial, ?_, ?_⟩⟩
  · rintro i y s' R' hy ⟨j, rfl, rfl⟩
    obtain ⟨z, rfl, hz, hzi, ht⟩ := take_step (c := fun n => D.int (n : Nat)) hy
    have h1 := hat.put (linkP m (Z.take i) F)
    have hzl : z < (linkP m (Z.take i) F).length := by rw [link_len]; exact hZ z hz
    obtain ⟨e, he⟩ : ∃ e, (linkP m (Z.take i) F)[z]? = some e := ⟨_, List.getElem?_eq_getElem hzl⟩
    have hok := (hm.link (Z := Z.take i) hF) e (List.mem_of_getElem? he)
    rw [link_len] at hok
    refine ⟨_, rfl, _, h1.fafter, _, rfl, _, h1.dk, _, rfl, natD e.2, by rw [aftK_val, he]; rfl, _, rfl, _, rfl, _, rfl, ?_⟩
    rw [← List.map_append]
    have hb : ∀ x ∈ e.2 ++ F, x < m.length := fun x hx => (List.mem_append.mp hx).elim (hok.1 x) (hF x)
    refine ⟨by rw [List.length_map, List.length_map]; simp only [sizeLine]; omega, PSet (e.2 ++ F) (plPut R q a (linkP m (Z.take i) F)), PSet.nil, fun j acc R' _ hp => by have := hp.len hb; omega, ?_, ?_⟩
    · rintro j2 y acc R' hy2 hp
      obtain ⟨n, rfl, _, hn, _⟩ := take_step (c := fun n => D.int (n : Nat)) hy2
      exact ⟨_, rfl, _, rfl, hp.go hn⟩
    · rintro acc R' hp
      rw [List.length_map] at hp
      have hl := hp.len hb
      refine ⟨by omega, fun ns h3 h4 => ?_⟩
      obtain ⟨rfl, e5⟩ := hp.end hb h3 h4
      rw [e5]
      refine ⟨_, rfl, _, h1.fafter, _, rfl, _, rfl, _, _, rfl, h1.ha, by rw [aftK_len, link_len]; omega, some (.int (z : Nat)), ?_, rfl⟩
      rw [aftK_set he, link_snoc hm hF he, ← ht]
      have h6 := plPut_a h1 (m' := linkP m (Z.take (i + 1)) F) (by rw [link_rd, link_rd])
      rw [plPut2 hat.qa] at h6
      exact h6.symm
  · rintro s' R' ⟨j, rfl, rfl⟩
    rw [List.length_map, List.take_length]
    exact fin qq
end

end Law
end
section
set_option Elab.async false
set_option maxRecDepth 100000
set_option maxHeartbeats 4000000
set_option linter.all false
set_option autoImplicit false
namespace Law
open PySem PySem.Spec PyProof.Rows L2 DL TL TrA TrA.Tr
section
variable [TabCtx] {P : Program} {w : World} {K : KB} {mg : Str → Option Value} {base : Heap} {f : Addr} {fd : FuncData} {plC : Addr}
def pairD (s : List Nat × List Nat) : D := .tup [natD s.1, natD s.2]
def spAdd (plC : Addr) (n : Nat) : DSp := fun ds R Q _ => ∃ (r q a : Addr) (m : Mch) (d : D) (k : Nat), ds = [.ref r, d] ∧ k < n ∧ k ≤ 6 ∧ isN k d = true ∧ PlAt plC R r q a m ∧ MOk m ∧ m.length + (clsN k d).length ≤ 60 ∧ Q (pairD (addP k d m).2) (plPut R q a (addP k d m).1)
def spRow (plC : Addr) (n : Nat) : DSp := fun ds R Q _ => ∃ (r q a : Addr) (m : Mch) (p : D) (ps : List D) (k : Nat), ds = [.ref r, .tup (p :: ps)] ∧ k < n ∧ k ≤ 6 ∧ (∀ d ∈ p :: ps, isN k d = true) ∧ ps.length ≤ 3 ∧ PlAt plC R r q a m ∧ MOk m ∧ m.length + ((p :: ps).flatMap (clsN k)).length ≤ 60 ∧ Q (pairD (rowP (addP k) ps (addP k p m)).2) (plPut R q a (rowP (addP k) ps (addP k p m)).1)
theorem seqP_snoc (f : D → Mch → Adds) : ∀ (l : List D) (p : D) (m : Mch), seqP f (l ++ [p]) m = ((f p (seqP f l m).1).1, (seqP f l m).2 ++ [(f p (seqP f l m).1).2])
  | [], p, m => rfl
  | a :: l, p, m => by
    show ((seqP f (l ++ [p]) (f a m).1).1, (f a m).2 :: (seqP f (l ++ [p]) (f a m).1).2) = _
    rw [seqP_snoc f l p (f a m).1]
    rfl
theorem sum_take (g : D → Nat) : ∀ (l : List D) (i : Nat) (x : D), l[i]? = some x → ((l.take i).map g).sum + g x ≤ (l.map g).sum
  | [], i, x, h => by simp at h
  | a :: l, 0, x, h => by
    have : a = x := by simpa using h
    subst this
    simp
  | a :: l, i + 1, x, h => by
    have := sum_take g l i x (by simpa using h)
    rw [List.take_succ_cons, List.map_cons, List.sum_cons, List.map_cons, List.sum_cons]
    omega
def PAny (k : Nat) (ps : List D) (R : Rs) (q a : Addr) (m : Mch) (i : Nat) (acc : List D) (R' : Rs) : Prop := acc = (seqP (addP k) (ps.take i) m).2.map pairD ∧ R' = plPut R q a (seqP (addP k) (ps.take i) m).1
def PFl (l : List (List Nat × List Nat)) (g : List Nat × List Nat → List Nat) (R : Rs) (i : Nat) (acc : List D) (R' : Rs) : Prop := R' = R ∧ acc = ((l.take i).flatMap g).map fun n => D.int (n : Nat)
def PFl1 (l : List (List Nat × List Nat)) (g : List Nat × List Nat → List Nat) (i : Nat) (xs : List Nat) (R : Rs) (j : Nat) (acc : List D) (R' : Rs) : Prop := R' = R ∧ acc = ((l.take i).flatMap g ++ xs.take j).map fun n => D.int (n : Nat)
theorem fl_le (l : List (List Nat × List Nat)) (g : List Nat × List Nat → List Nat) (i : Nat) : ((l.take i).flatMap g).length ≤ (l.flatMap g).length := by
  conv => rhs; rw [← List.take_append_drop i l, List.flatMap_append, List.length_append]
  omega
theorem PFl.next {l : List (List Nat × List Nat)} {g : List Nat × List Nat → List Nat} {R : Rs} {i : Nat} {s : List Nat × List Nat} {acc : List D} {R' : Rs} (hs : l[i]? = some s) (h : PFl1 l g i (g s) R ((g s).map fun n => D.int (n : Nat)).length acc R') : PFl l g R (i + 1) acc R' := ⟨h.1, by
  rw [h.2, List.length_map, List.take_length, List.take_add_one, hs, List.flatMap_append]
  simp⟩
abbrev s_Places_add : Stmt := inClass (top 16) 1
abbrev n_Places_add : List Str := ["self", "pattern", "kind", "inner", "place", "found", "firsts", "lasts", "part"]
theorem sc_Places_add : FnScope n_Places_add ["self", "pattern"] (defScope s_Places_add) := ⟨rfl, rfl, rfl, by decide +kernel, rfl, by decide +kernel, by decide +kernel⟩
theorem step_add {n : Nat} (F : Fun K "add" "Places.add" s_Places_add f fd) (Z : Blt mg bl) (cl_Places : Cls K plC) (na_Places_after : NoAttr K plC "after") (na_Places_read : NoAttr K plC "read") (m_Places_link : MetD P w K mg base 1 plC "link" (spLink plC)) (m_Places_add : MetD P w K mg base (2 * n + 2) plC "add" (spAdd plC n)) (m_Places_add_row : MetD P w K mg base (2 * n + 3) plC "add_row" (spRow plC n)) : FnG P w K mg base CX0 (2 * n + 4) f fd ["self", "pattern"] (spOf K (spAdd plC (n + 1))) := by
  refine okD F sc_Places_add (fun ds R Q E h => by obtain ⟨r, q, a, m, d, k, rfl, _⟩ := h; rfl) fun cdv A outer s H E gd hr => ?_
  refine ⟨_, (dss_cons (ds_asg (dv 1) (dg_tup (n := 2) rfl (dgs_cons (dg_name (i := 2) sc_Places_add.nd rfl (.inl rfl)) (dgs_cons (dg_name (i := 3) sc_Places_add.nd rfl (.inl rfl)) dgs_nil))))
    (dss_cons (ds_match (dv 2) (McD.cons .val (dss_cons (ds_asg (de_callB cd_len (by rfl) (Z _ (by decide)) bt_len (da_cons (de_fld cl_Places na_Places_read (dv 0)) da_nil)) (dg_name (i := 4) sc_Places_add.nd rfl (.inl rfl)))
      (dss_cons (ds_expr (de_bm PySem.F.plainAttrs_list PySem.F.slot_list_append PySem.F.type_list_append md_append (de_fld cl_Places na_Places_read (dv 0)) (da_cons (dv 3) da_nil)))
      (dss_cons (ds_asg (de_lstF da_nil) (dg_sub (de_fld cl_Places na_Places_after (dv 0)) (dv 4) (dset_dk (hu_of hr))))
      (dss_one (ds_ret (de_tup (da_cons (de_lstF (da_cons (dv 4) da_nil)) (da_cons (de_lstF (da_cons (dv 4) da_nil)) da_nil)))))))) (McD.cons .val (dss_cons (ds_setLcF (i := 5) (own := [("part", 8)]) rfl sc_Places_add.nd rfl rfl (sw_true rfl rfl rfl (by decide +kernel)) (lcd (di_tup (dv 3)) (blkOk_by (N := n_Places_add) (sc := defScope s_Places_add) (by decide +kernel)) (fun _ _ _ _ _ => (dgw_name (i := 8) sc_Places_add.nd rfl (.inl rfl))) (fun _ _ _ _ _ => dts_nil) (fun _ _ _ _ _ => (de_meth m_Places_add gd hr (by omega) (dv 0) (da_cons (dv 8) da_nil)))))
      (dss_one (ds_ret (de_tup (da_cons (de_lc2F (own := [("firsts", 6), ("lasts", 7), ("place", 4)]) (vs1 := [4]) rfl sc_Places_add.nd (di_list (dv 5)) (blkOk_by (N := n_Places_add) (sc := defScope s_Places_add) (by decide +kernel)) (by decide) (fun _ _ _ _ _ => (dgw_tup (n := 2) rfl (dgsw_cons (dgw_name (i := 6) sc_Places_add.nd rfl (.inl rfl)) (dgsw_cons (dgw_name (i := 7) sc_Places_add.nd rfl (.inl rfl)) dgsw_nil)))) (fun _ _ _ _ _ => dts_nil) (fun _ _ _ _ _ => (di_list (dv 6))) (fun _ _ _ _ _ => (dgw_name (i := 4) sc_Places_add.nd rfl (.inl rfl))) (fun _ _ _ _ _ => dts_nil) (fun _ _ _ _ _ => (dv 4))) (da_cons (de_lc2F (own := [("firsts", 6), ("lasts", 7), ("place", 4)]) (vs1 := [4]) rfl sc_Places_add.nd (di_list (dv 5)) (blkOk_by (N := n_Places_add) (sc := defScope s_Places_add) (by decide +kernel)) (by decide) (fun _ _ _ _ _ => (dgw_tup (n := 2) rfl (dgsw_cons (dgw_name (i := 6) sc_Places_add.nd rfl (.inl rfl)) (dgsw_cons (dgw_name (i := 7) sc_Places_add.nd rfl (.inl rfl)) dgsw_nil)))) (fun _ _ _ _ _ => dts_nil) (fun _ _ _ _ _ => (di_list (dv 7))) (fun _ _ _ _ _ => (dgw_name (i := 4) sc_Places_add.nd rfl (.inl rfl))) (fun _ _ _ _ _ => dts_nil) (fun _ _ _ _ _ => (dv 4))) da_nil)))))) (McD.cons .val (dss_one (ds_ret (de_meth m_Places_add_row gd hr (by omega) (dv 0) (da_cons (dv 3) da_nil)))) McD.nil))))
    (dss_cons (ds_asg (de_meth m_Places_add gd hr (by omega) (dv 0) (da_cons (dv 3) da_nil)) (dg_tup (n := 2) rfl (dgs_cons (dg_name (i := 6) sc_Places_add.nd rfl (.inl rfl)) (dgs_cons (dg_name (i := 7) sc_Places_add.nd rfl (.inl rfl)) dgs_nil))))
    (dss_cons (ds_expr (de_meth m_Places_link gd hr (by omega) (dv 0) (da_cons (dv 7) (da_cons (dv 6) da_nil))))
    (dss_one (ds_ret (de_tup (da_cons (dv 6) (da_cons (dv 7) da_nil))))))))), fun ds R Qd Ed h => ?_⟩
  obtain ⟨r, q, a, m, d, k, rfl, hk, hk6, hd, hat, hm, hml, qq⟩ := h
  simp only [dSeq, dGetK, rdInK, dGetT, dInT, rdSetK, dNewK, dDcF, dDc2F, dIEnum, dIZip, dISeq, dStar, dCont, dBrk, dOrT, rdInC, dCallK, dCVal, dMeth, dFld, dSetF, dNewF, dNew0F, dDisp, dPairs, dGet2, dGIndex, DL.keyOf, DL.keysOf, dCallL, dLam, dJoin, dJs, dFmtS, dRepl, dRaise, dCallX, dDelTail, dAugL, dXF, dAsg, dIf, dIfS, dB, dAnd, dOr, dNot, dAndV, dOrV, dNotV, dChain, dOp, dUn, dVar, dC, rdI0, rdI, dCB, dCall, rd1, dCons, dNil, dgName, dgSub, dgTup, dgLst, dSortSet, dgCons, dgNil, rdSetL, dRet, dLst, dLstF, dTup, dDrop, dNext, dPar, dBM, dBM0, dSl, dPart, dNoPart, dstart, dwipe, List.map_cons, List.map_nil, List.length_cons, List.length_nil, List.replicate_succ, List.replicate_zero, List.cons_append, List.nil_append, List.set_cons_zero, List.set_cons_succ, List.getElem?_cons_zero, List.getElem?_cons_succ, Nat.reduceAdd, Nat.reduceSub, Option.some.injEq, D.int.injEq, D.bl.injEq, D.str.injEq, D.ref.injEq, D.ty.injEq, D.tup.injEq, D.lst.injEq, D.rls.injEq, RO.lst.injEq, List.cons.injEq, exists_and_left, exists_eq_left', exists_eq_left, and_true, true_and, put_same, put_put, at0, at1, at2, ix30, ix31, ix32, and_assoc, dLcF, dLc, dLcT, dIRng1, dIRng2, dIRng3, dIStr, dITup, dILst, dYes, if_true, Bool.false_eq_true, if_false, eqS_ii, neS_ii, eqS_ss, neS_ss, decide_eq_true_eq, sq_tup, sq_lst, sq_rls, lo_lst, lo_rls, tr_lst, isi_tt, isi_st, isi_nt, isi_bt, isi_it, isi_lt, isi_ts, isi_ss, isi_ns, isi_bs, isi_is, isi_ls, List.append_nil, sz0, sz1, sz2, sz3, sz4, sz5, sz6, sl0, sl1, sl2, ty_put, ty_str, lo_put, sq_put, tr_put, reduceCtorEq, false_and, and_false, exists_false, or_false, false_or, Bool.not_false, Bool.not_true, List.isEmpty_nil, List.isEmpty_cons, app1_empty, dLc2F, dMatch, dGoM]
  obtain ⟨k, rfl⟩ : ∃ j, k = j + 1 := by
    cases k with
    | zero => cases hd
    | succ j => exact ⟨j, rfl⟩
  obtain ⟨x, e, rfl, hc⟩ := isN_form hd
  refine ⟨_, rfl, rfl, _, _, rfl, _, _, rfl, rfl, x, rfl, ?_⟩
  rcases hc with ⟨rfl, y, rfl, hy⟩ | ⟨rfl | rfl, ps, rfl, hp2, hp4, hps⟩ | ⟨rfl, he⟩
  · rw [addP_one] at qq
    rw [clsN_one] at hml
    have hml : m.length + 1 ≤ 60 := hml
    have hrl : (rdD m).length = m.length := List.length_map _
    obtain ⟨dx, fs, i1, i2, i3, i4⟩ := hat.ins
    refine iteT (by simp) ⟨_, hat.fread, _, sq_ref hat.hq, _, hat.fread, .inl ⟨rfl, _, hat.hq⟩, q, rfl, _, hat.hq, by rw [hrl]; simp only [sizeLine]; omega, _, ⟨dx, fs, by rw [put_ne hat.rq]; exact i1, i3⟩, a, rfl, aftK m, by rw [put_ne hat.qa.symm]; exact hat.ha, by rw [aftK_len]; omega, fin ?_⟩
    rw [hrl, show D.lst [] = natD [] from rfl, aftK_new (x := y)]
    have e1 : rdD (m ++ [(y, [])]) = rdD m ++ [.str y] := by unfold rdD; rw [List.map_append]; rfl
    unfold plPut at qq
    rw [e1] at qq
    exact qq
  · rw [addP_any] at qq
    rw [clsN_any, ← sum_len (fun d => (clsN k d).length) (clsN k) fun _ _ => rfl] at hml
    have sok : ∀ l : List D, (∀ p ∈ l, p ∈ ps) → AOk m ((seqP (addP k) l m).1, (seqP (addP k) l m).2.flatMap (·.1), (seqP (addP k) l m).2.flatMap (·.2)) ((l.map fun d => (clsN k d).length).sum) := fun l hl => seq_ok (fun p hp m hm => add_ok k (hps p (hl p hp)) m hm) hm
    refine iteF (by decide +kernel) (iteT (by simp) ⟨ps, rfl, by simp only [sizeLine]; omega, PAny k ps R q a m, ⟨rfl, hat.same.symm⟩, fun _ _ _ _ _ => trivial, ?_, ?_⟩)
    · rintro i x1 acc R' hx _ ⟨rfl, rfl⟩
      have ok := sok (ps.take i) fun p hp => List.mem_of_mem_take hp
      have hl := ok.len
      have hl : (seqP (addP k) (ps.take i) m).1.length = m.length + ((ps.take i).map fun d => (clsN k d).length).sum := hl
      have hs := sum_take (fun d => (clsN k d).length) ps i x1 hx
      have h1 := hat.put (seqP (addP k) (ps.take i) m).1
      refine ⟨h1.insA (by decide +kernel), r, q, a, _, x1, k, rfl, by omega, by omega, hps x1 (List.mem_of_getElem? hx), h1, ok.ok, by omega, ?_⟩
      have ht : ps.take (i + 1) = ps.take i ++ [x1] := by rw [List.take_add_one, hx]; rfl
      rw [plPut2 hat.qa]
      exact ⟨by rw [ht, seqP_snoc, List.map_append]; rfl, by rw [ht, seqP_snoc]⟩
    · rintro acc R' _ ⟨rfl, rfl⟩
      rw [List.take_length]
      have ok := sok ps fun p hp => hp
      have f1 := ok.fl
      have f2 := ok.zl
      generalize (seqP (addP k) ps m).2 = l at *
      have f1 : (l.flatMap (·.1)).length ≤ (ps.map fun d => (clsN k d).length).sum := f1
      have f2 : (l.flatMap (·.2)).length ≤ (ps.map fun d => (clsN k d).length).sum := f2
      have go : ∀ (g : List Nat × List Nat → List Nat) (R : Rs), (l.flatMap g).length ≤ (ps.map fun d => (clsN k d).length).sum → ∀ (i : Nat) (s : List Nat × List Nat) (j : Nat) (acc : List D) (R' : Rs), l[i]? = some s → j ≤ ((g s).map fun n => D.int (n : Nat)).length → PFl1 l g i (g s) R j acc R' → acc.length < 100000 := fun g R hg i s j acc R' hs hj h => by
        have h1 := fl_le l g (i + 1)
        rw [List.take_add_one, hs, List.flatMap_append, List.length_append] at h1
        have h2 : ((some s).toList.flatMap g).length = (g s).length := by simp
        rw [List.length_map] at hj
        rw [h.2, List.length_map, List.length_append, List.length_take]
        omega
      refine ⟨PFl l (·.1) _, ⟨rfl, rfl⟩, fun _ _ _ _ _ => trivial, ?_, ?_⟩
      · rintro i x1 acc R' hx ⟨rfl, rfl⟩
        obtain ⟨s, rfl, _, hs, _⟩ := take_step hx
        refine ⟨_, rfl, rfl, _, _, rfl, _, _, rfl, rfl, _, .inl ⟨rfl, PFl1 l (·.1) i s.1 _, ⟨rfl, by simp⟩, fun j acc R' hj h => go (·.1) _ f1 i s j acc R' hs hj h, ?_, fun acc R' h => PFl.next hs h⟩⟩
        rintro j y acc R' hy ⟨rfl, rfl⟩
        obtain ⟨n0, rfl, _, _, hn⟩ := take_step (c := fun n => D.int (n : Nat)) hy
        exact ⟨rfl, by rw [hn, ← List.append_assoc]; simp⟩
      · rintro acc R' ⟨rfl, rfl⟩
        refine ⟨PFl l (·.2) _, ⟨rfl, rfl⟩, fun _ _ _ _ _ => trivial, ?_, ?_⟩
        · rintro i x1 acc R' hx ⟨rfl, rfl⟩
          obtain ⟨s, rfl, _, hs, _⟩ := take_step hx
          refine ⟨_, rfl, rfl, _, _, rfl, _, _, rfl, rfl, _, .inl ⟨rfl, PFl1 l (·.2) i s.2 _, ⟨rfl, by simp⟩, fun j acc R' hj h => go (·.2) _ f2 i s j acc R' hs hj h, ?_, fun acc R' h => PFl.next hs h⟩⟩
          rintro j y acc R' hy ⟨rfl, rfl⟩
          obtain ⟨n0, rfl, _, _, hn⟩ := take_step (c := fun n => D.int (n : Nat)) hy
          exact ⟨rfl, by rw [hn, ← List.append_assoc]; simp⟩
        · rintro acc R' ⟨rfl, rfl⟩
          rw [List.length_map, List.take_length]
          exact fin qq
  · obtain ⟨p, ps, rfl⟩ : ∃ p0 ps0, ps = p0 :: ps0 := by
      cases ps with
      | nil => simp at hp2
      | cons a b => exact ⟨a, b, rfl⟩
    rw [addP_row] at qq
    rw [clsN_row] at hml
    rw [List.length_cons] at hp4
    exact iteF (by decide +kernel) (iteF (by decide +kernel) (iteT (by simp) ⟨hat.insA (by decide +kernel), r, q, a, m, p, ps, k, rfl, by omega, by omega, hps, by omega, hat, hm, hml, fin qq⟩))
  · rw [addP_many] at qq
    rw [clsN_many] at hml
    have ok := add_ok k he m hm
    have ol := ok.len
    have ofl := ok.fl
    have h1 := hat.put (addP k e m).1
    refine iteF (by decide +kernel) (iteF (by decide +kernel) (iteF (by decide +kernel) ⟨hat.insA (by decide +kernel), r, q, a, m, e, k, rfl, by omega, by omega, he, hat, hm, hml, _, rfl, rfl, _, _, rfl, _, _, rfl, rfl, h1.insA (by decide +kernel), r, q, a, _, (addP k e m).2.2, (addP k e m).2.1, rfl, h1, ok.ok, by omega, fun x hx => (ok.z x hx).2, fun x hx => (ok.f x hx).2, by omega, fin ?_⟩))
    rw [plPut2 hat.qa]
    exact qq
theorem AOk.row {m0 : Mch} {s t : Adds} {n g : Nat} (hs : AOk m0 s n) (a : AOk s.1 t g) : AOk m0 (linkP t.1 s.2.2 t.2.1, s.2.1, t.2.2) (n + g) := by
  have hF : ∀ x ∈ t.2.1, x < t.1.length := fun x hx => (a.f x hx).2
  have al := a.len
  have sl := hs.len
  exact ⟨a.ok.link hF, by show (linkP _ _ _).length = _; rw [link_len]; omega, fun i hi => by
    show _ ∧ i < (linkP _ _ _).length
    rw [link_len]; have := hs.f i hi; omega, fun i hi => by
    show _ ∧ i < (linkP _ _ _).length
    rw [link_len]; have := a.z i hi; omega, Nat.le_trans hs.fl (by omega), Nat.le_trans a.zl (by omega)⟩
theorem cut_drop1 {xs : List D} : DL.cutD xs (some 1) none = xs.drop 1 := by
  by_cases h : xs = []
  · rw [h]; rfl
  · have := List.length_pos_iff.mpr h
    exact cut_drop (k := 1) (by omega) (by omega)
abbrev s_Places_add_row : Stmt := inClass (top 16) 2
abbrev n_Places_add_row : List Str := ["self", "parts", "starts", "lasts", "part", "firsts", "ends"]
theorem sc_Places_add_row : FnScope n_Places_add_row ["self", "parts"] (defScope s_Places_add_row) := ⟨rfl, rfl, rfl, by decide +kernel, rfl, by decide +kernel, by decide +kernel⟩
def stR (r : Addr) (ps : List D) (S Z : List Nat) (j1 j2 j3 : Option D) : DSt := [some (.ref r), some (.tup ps), some (natD S), some (natD Z), j1, j2, j3]
def WRow (k : Nat) (R : Rs) (r q a : Addr) (p : D) (ps : List D) (m : Mch) (i : Nat) (s' : DSt) (R' : Rs) : Prop := ∃ (s : Adds) (j1 j2 j3 : Option D), rowP (addP k) ps (addP k p m) = rowP (addP k) (ps.drop i) s ∧ AOk m s ((clsN k p).length + ((ps.take i).map fun d => (clsN k d).length).sum) ∧ R' = plPut R q a s.1 ∧ s' = stR r (p :: ps) s.2.1 s.2.2 j1 j2 j3
theorem step_row {n : Nat} (F : Fun K "add_row" "Places.add_row" s_Places_add_row f fd) (Z : Blt mg bl) (cl_Places : Cls K plC) (m_Places_link : MetD P w K mg base 1 plC "link" (spLink plC)) (m_Places_add : MetD P w K mg base (2 * n + 2) plC "add" (spAdd plC n)) : FnG P w K mg base CX0 (2 * n + 3) f fd ["self", "parts"] (spOf K (spRow plC n)) := by
  refine okD F sc_Places_add_row (fun ds R Q E h => by obtain ⟨r, q, a, m, p, ps, k, rfl, _⟩ := h; rfl) fun cdv A outer s H E gd hr => ?_
  refine ⟨_, (dss_cut (ds_asg (de_meth m_Places_add gd hr (by omega) (dv 0) (da_cons (de_ix xd_seq (dv 1) de_int (fun _ _ => rfl)) da_nil)) (dg_tup (n := 2) rfl (dgs_cons (dg_name (i := 2) sc_Places_add_row.nd rfl (.inl rfl)) (dgs_cons (dg_name (i := 3) sc_Places_add_row.nd rfl (.inl rfl)) dgs_nil))))
    (dss_cut (ds_for PassesOwn.never rfl (di_tup (de_slice sd_tup (dv 1) (do_some de_int) do_none)) (dg_name (i := 4) sc_Places_add_row.nd rfl (.inl rfl)) (dss_cons (ds_asg (de_meth m_Places_add gd hr (by omega) (dv 0) (da_cons (dv 4) da_nil)) (dg_tup (n := 2) rfl (dgs_cons (dg_name (i := 5) sc_Places_add_row.nd rfl (.inl rfl)) (dgs_cons (dg_name (i := 6) sc_Places_add_row.nd rfl (.inl rfl)) dgs_nil))))
      (dss_cons (ds_expr (de_meth m_Places_link gd hr (by omega) (dv 0) (da_cons (dv 3) (da_cons (dv 5) da_nil))))
      (dss_one (ds_asg (dv 6) (dg_name (i := 3) sc_Places_add_row.nd rfl (.inl rfl)))))))
    (dss_one (ds_ret (de_tup (da_cons (dv 2) (da_cons (dv 3) da_nil))))))), fun ds R Qd Ed h => ?_⟩
  obtain ⟨r, q, a, m, p, ps, k, rfl, hk, hk6, hps, hpl, hat, hm, hml, qq⟩ := h
  rw [List.flatMap_cons, List.length_append, ← sum_len (fun d => (clsN k d).length) (clsN k) fun _ _ => rfl] at hml
  refine (show dCut _ _ _ _ _ from ?_)
  refine ⟨WRow k R r q a p ps m 0, ?_, ?_⟩
  · simp only [dSeq, dGetK, rdInK, dGetT, dInT, rdSetK, dNewK, dDcF, dDc2F, dIEnum, dIZip, dISeq, dStar, dCont, dBrk, dOrT, rdInC, dCallK, dCVal, dMeth, dFld, dSetF, dNewF, dNew0F, dDisp, dPairs, dGet2, dGIndex, DL.keyOf, DL.keysOf, dCallL, dLam, dJoin, dJs, dFmtS, dRepl, dRaise, dCallX, dDelTail, dAugL, dXF, dAsg, dIf, dIfS, dB, dAnd, dOr, dNot, dAndV, dOrV, dNotV, dChain, dOp, dUn, dVar, dC, rdI0, rdI, dCB, dCall, rd1, dCons, dNil, dgName, dgSub, dgTup, dgLst, dSortSet, dgCons, dgNil, rdSetL, dRet, dLst, dLstF, dTup, dDrop, dNext, dPar, dBM, dBM0, dSl, dPart, dNoPart, dstart, dwipe, List.map_cons, List.map_nil, List.length_cons, List.length_nil, List.replicate_succ, List.replicate_zero, List.cons_append, List.nil_append, List.set_cons_zero, List.set_cons_succ, List.getElem?_cons_zero, List.getElem?_cons_succ, Nat.reduceAdd, Nat.reduceSub, Option.some.injEq, D.int.injEq, D.bl.injEq, D.str.injEq, D.ref.injEq, D.ty.injEq, D.tup.injEq, D.lst.injEq, D.rls.injEq, RO.lst.injEq, List.cons.injEq, exists_and_left, exists_eq_left', exists_eq_left, and_true, true_and, put_same, put_put, at0, at1, at2, ix30, ix31, ix32, and_assoc, dLcF, dLc, dLcT, dIRng1, dIRng2, dIRng3, dIStr, dITup, dILst, dYes, if_true, Bool.false_eq_true, if_false, eqS_ii, neS_ii, eqS_ss, neS_ss, decide_eq_true_eq, sq_tup, sq_lst, sq_rls, lo_lst, lo_rls, tr_lst, isi_tt, isi_st, isi_nt, isi_bt, isi_it, isi_lt, isi_ts, isi_ss, isi_ns, isi_bs, isi_is, isi_ls, List.append_nil, sz0, sz1, sz2, sz3, sz4, sz5, sz6, sl0, sl1, sl2, ty_put, ty_str, lo_put, sq_put, tr_put, reduceCtorEq, false_and, and_false, exists_false, or_false, false_or, Bool.not_false, Bool.not_true, List.isEmpty_nil, List.isEmpty_cons, app1_empty, dLc2F, dMatch, dGoM]
    refine ⟨hat.insA (by decide +kernel), r, q, a, m, p, k, rfl, hk, hk6, hps p (by simp), hat, hm, by omega, _, rfl, rfl, _, _, rfl, _, _, rfl, rfl, addP k p m, none, none, none, rfl, ?_, rfl, rfl⟩
    exact add_ok k (hps p (by simp)) m hm
  rintro s1 R1 ⟨s, j1, j2, j3, e1, ok, rfl, rfl⟩
  refine (show dCut _ _ _ _ _ from ?_)
  refine ⟨WRow k R r q a p ps m ps.length, ?_, ?_⟩
  · simp only [dFor, stR, dSeq, dGetK, rdInK, dGetT, dInT, rdSetK, dNewK, dDcF, dDc2F, dIEnum, dIZip, dISeq, dStar, dCont, dBrk, dOrT, rdInC, dCallK, dCVal, dMeth, dFld, dSetF, dNewF, dNew0F, dDisp, dPairs, dGet2, dGIndex, DL.keyOf, DL.keysOf, dCallL, dLam, dJoin, dJs, dFmtS, dRepl, dRaise, dCallX, dDelTail, dAugL, dXF, dAsg, dIf, dIfS, dB, dAnd, dOr, dNot, dAndV, dOrV, dNotV, dChain, dOp, dUn, dVar, dC, rdI0, rdI, dCB, dCall, rd1, dCons, dNil, dgName, dgSub, dgTup, dgLst, dSortSet, dgCons, dgNil, rdSetL, dRet, dLst, dLstF, dTup, dDrop, dNext, dPar, dBM, dBM0, dSl, dPart, dNoPart, dstart, dwipe, List.map_cons, List.map_nil, List.length_cons, List.length_nil, List.replicate_succ, List.replicate_zero, List.cons_append, List.nil_append, List.set_cons_zero, List.set_cons_succ, List.getElem?_cons_zero, List.getElem?_cons_succ, Nat.reduceAdd, Nat.reduceSub, Option.some.injEq, D.int.injEq, D.bl.injEq, D.str.injEq, D.ref.injEq, D.ty.injEq, D.tup.injEq, D.lst.injEq, D.rls.injEq, RO.lst.injEq, List.cons.injEq, exists_and_left, exists_eq_left', exists_eq_left, and_true, true_and, put_same, put_put, at0, at1, at2, ix30, ix31, ix32, and_assoc, dLcF, dLc, dLcT, dIRng1, dIRng2, dIRng3, dIStr, dITup, dILst, dYes, if_true, Bool.false_eq_true, if_false, eqS_ii, neS_ii, eqS_ss, neS_ss, decide_eq_true_eq, sq_tup, sq_lst, sq_rls, lo_lst, lo_rls, tr_lst, isi_tt, isi_st, isi_nt, isi_bt, isi_it, isi_lt, isi_ts, isi_ss, isi_ns, isi_bs, isi_is, isi_ls, List.append_nil, sz0, sz1, sz2, sz3, sz4, sz5, sz6, sl0, sl1, sl2, ty_put, ty_str, lo_put, sq_put, tr_put, reduceCtorEq, false_and, and_false, exists_false, or_false, false_or, Bool.not_false, Bool.not_true, List.isEmpty_nil, List.isEmpty_cons, app1_empty, dLc2F, dMatch, dGoM]
    rw [cut_drop1, List.drop_succ_cons, List.drop_zero]
    refine ⟨WRow k R r q a p ps m, ⟨s, j1, j2, j3, e1, ok, rfl, rfl⟩, fun _ _ _ _ _ => trivial, ?_, fun s R h => h⟩
    clear e1 ok
    rintro i x s' R' hx ⟨s, j1, j2, j3, e1, ok, rfl, rfl⟩
    have hx2 := hps x (List.mem_cons_of_mem _ (List.mem_of_getElem? hx))
    have hst := sum_take (fun d => (clsN k d).length) ps i x hx
    have hsl := ok.len
    have h1 := hat.put s.1
    have a2 := add_ok k hx2 s.1 ok.ok
    have al := a2.len
    have h2 := h1.put (addP k x s.1).1
    have ez := ok.zl
    have ef := a2.fl
    simp only [stR, dSeq, dGetK, rdInK, dGetT, dInT, rdSetK, dNewK, dDcF, dDc2F, dIEnum, dIZip, dISeq, dStar, dCont, dBrk, dOrT, rdInC, dCallK, dCVal, dMeth, dFld, dSetF, dNewF, dNew0F, dDisp, dPairs, dGet2, dGIndex, DL.keyOf, DL.keysOf, dCallL, dLam, dJoin, dJs, dFmtS, dRepl, dRaise, dCallX, dDelTail, dAugL, dXF, dAsg, dIf, dIfS, dB, dAnd, dOr, dNot, dAndV, dOrV, dNotV, dChain, dOp, dUn, dVar, dC, rdI0, rdI, dCB, dCall, rd1, dCons, dNil, dgName, dgSub, dgTup, dgLst, dSortSet, dgCons, dgNil, rdSetL, dRet, dLst, dLstF, dTup, dDrop, dNext, dPar, dBM, dBM0, dSl, dPart, dNoPart, dstart, dwipe, List.map_cons, List.map_nil, List.length_cons, List.length_nil, List.replicate_succ, List.replicate_zero, List.cons_append, List.nil_append, List.set_cons_zero, List.set_cons_succ, List.getElem?_cons_zero, List.getElem?_cons_succ, Nat.reduceAdd, Nat.reduceSub, Option.some.injEq, D.int.injEq, D.bl.injEq, D.str.injEq, D.ref.injEq, D.ty.injEq, D.tup.injEq, D.lst.injEq, D.rls.injEq, RO.lst.injEq, List.cons.injEq, exists_and_left, exists_eq_left', exists_eq_left, and_true, true_and, put_same, put_put, at0, at1, at2, ix30, ix31, ix32, and_assoc, dLcF, dLc, dLcT, dIRng1, dIRng2, dIRng3, dIStr, dITup, dILst, dYes, if_true, Bool.false_eq_true, if_false, eqS_ii, neS_ii, eqS_ss, neS_ss, decide_eq_true_eq, sq_tup, sq_lst, sq_rls, lo_lst, lo_rls, tr_lst, isi_tt, isi_st, isi_nt, isi_bt, isi_it, isi_lt, isi_ts, isi_ss, isi_ns, isi_bs, isi_is, isi_ls, List.append_nil, sz0, sz1, sz2, sz3, sz4, sz5, sz6, sl0, sl1, sl2, ty_put, ty_str, lo_put, sq_put, tr_put, reduceCtorEq, false_and, and_false, exists_false, or_false, false_or, Bool.not_false, Bool.not_true, List.isEmpty_nil, List.isEmpty_cons, app1_empty, dLc2F, dMatch, dGoM]
    refine ⟨h1.insA (by decide +kernel), r, q, a, s.1, x, k, rfl, hk, hk6, hx2, h1, ok.ok, by omega, _, rfl, rfl, _, _, rfl, _, _, rfl, rfl, h2.insA (by decide +kernel), r, q, a, (addP k x s.1).1, s.2.2, (addP k x s.1).2.1, rfl, h2, a2.ok, by omega, fun y hy => by have := ok.z y hy; omega, fun y hy => (a2.f y hy).2, by omega, ?_⟩
    rw [plPut2 hat.qa, plPut2 hat.qa]
    have ed : ps.drop i = x :: ps.drop (i + 1) := by
      obtain ⟨hi, e⟩ := List.getElem?_eq_some_iff.mp hx
      rw [List.drop_eq_getElem_cons hi, e]
    refine ⟨(linkP (addP k x s.1).1 s.2.2 (addP k x s.1).2.1, s.2.1, (addP k x s.1).2.2), _, _, _, ?_, ?_, rfl, rfl⟩
    · rw [e1, ed]
      rfl
    · have := ok.row a2
      rw [List.take_add_one, hx, List.map_append, List.sum_append]
      rw [Nat.add_assoc] at this
      simpa using this
  rintro s2 R2 ⟨s, j1, j2, j3, e1, ok, rfl, rfl⟩
  rw [List.drop_length] at e1
  rw [e1] at qq
  simp only [stR, dSeq, dGetK, rdInK, dGetT, dInT, rdSetK, dNewK, dDcF, dDc2F, dIEnum, dIZip, dISeq, dStar, dCont, dBrk, dOrT, rdInC, dCallK, dCVal, dMeth, dFld, dSetF, dNewF, dNew0F, dDisp, dPairs, dGet2, dGIndex, DL.keyOf, DL.keysOf, dCallL, dLam, dJoin, dJs, dFmtS, dRepl, dRaise, dCallX, dDelTail, dAugL, dXF, dAsg, dIf, dIfS, dB, dAnd, dOr, dNot, dAndV, dOrV, dNotV, dChain, dOp, dUn, dVar, dC, rdI0, rdI, dCB, dCall, rd1, dCons, dNil, dgName, dgSub, dgTup, dgLst, dSortSet, dgCons, dgNil, rdSetL, dRet, dLst, dLstF, dTup, dDrop, dNext, dPar, dBM, dBM0, dSl, dPart, dNoPart, dstart, dwipe, List.map_cons, List.map_nil, List.length_cons, List.length_nil, List.replicate_succ, List.replicate_zero, List.cons_append, List.nil_append, List.set_cons_zero, List.set_cons_succ, List.getElem?_cons_zero, List.getElem?_cons_succ, Nat.reduceAdd, Nat.reduceSub, Option.some.injEq, D.int.injEq, D.bl.injEq, D.str.injEq, D.ref.injEq, D.ty.injEq, D.tup.injEq, D.lst.injEq, D.rls.injEq, RO.lst.injEq, List.cons.injEq, exists_and_left, exists_eq_left', exists_eq_left, and_true, true_and, put_same, put_put, at0, at1, at2, ix30, ix31, ix32, and_assoc, dLcF, dLc, dLcT, dIRng1, dIRng2, dIRng3, dIStr, dITup, dILst, dYes, if_true, Bool.false_eq_true, if_false, eqS_ii, neS_ii, eqS_ss, neS_ss, decide_eq_true_eq, sq_tup, sq_lst, sq_rls, lo_lst, lo_rls, tr_lst, isi_tt, isi_st, isi_nt, isi_bt, isi_it, isi_lt, isi_ts, isi_ss, isi_ns, isi_bs, isi_is, isi_ls, List.append_nil, sz0, sz1, sz2, sz3, sz4, sz5, sz6, sl0, sl1, sl2, ty_put, ty_str, lo_put, sq_put, tr_put, reduceCtorEq, false_and, and_false, exists_false, or_false, false_or, Bool.not_false, Bool.not_true, List.isEmpty_nil, List.isEmpty_cons, app1_empty, dLc2F, dMatch, dGoM]
  exact fin qq
/-- the places of a pattern are put in, however deep it is -/
theorem ok_adds {f1 f2 : Addr} {fd1 fd2 : FuncData} (F1 : Fun K "add" "Places.add" s_Places_add f1 fd1) (F2 : Fun K "add_row" "Places.add_row" s_Places_add_row f2 fd2) (Z : Blt mg bl) (cl_Places : Cls K plC) (na_Places_after : NoAttr K plC "after") (na_Places_read : NoAttr K plC "read") (m_Places_link : MetD P w K mg base 1 plC "link" (spLink plC)) (m1 : Meth K plC "add" f1) (m2 : Meth K plC "add_row" f2) (b1 : Binds K fd1 ["self", "pattern"] []) (b2 : Binds K fd2 ["self", "parts"] []) : ∀ n : Nat, FnG P w K mg base CX0 (2 * n + 2) f1 fd1 ["self", "pattern"] (spOf K (spAdd plC n))
  | 0 => fnG_none fun ds R Q E ⟨r, q, a, m, d, k, _, hk, _⟩ => by omega
  | n + 1 => step_add F1 Z cl_Places na_Places_after na_Places_read m_Places_link ⟨⟨_, _, _, ok_adds F1 F2 Z cl_Places na_Places_after na_Places_read m_Places_link m1 m2 b1 b2 n, cl_Places, m1, b1⟩⟩ ⟨⟨_, _, _, step_row F2 Z cl_Places m_Places_link ⟨⟨_, _, _, ok_adds F1 F2 Z cl_Places na_Places_after na_Places_read m_Places_link m1 m2 b1 b2 n, cl_Places, m1, b1⟩⟩, cl_Places, m2, b2⟩⟩
abbrev s_Places_init : Stmt := inClass (top 16) 0
abbrev n_Places_init : List Str := ["self", "pattern"]
theorem sc_Places_init : FnScope n_Places_init ["self", "pattern"] (defScope s_Places_init) := ⟨rfl, rfl, rfl, by decide +kernel, rfl, by decide +kernel, by decide +kernel⟩
def m00 : Mch := [("", [])]
/-- the machine of a pattern -/
def mchP (d : D) : Adds := ((addP 6 d m00).1.set 0 ("", (addP 6 d m00).2.1), (addP 6 d m00).2)
structure PlOk (plC : Addr) (R : Rs) (r : Addr) (d : D) : Prop where
  at_ : ∃ q a, PlAt plC R r q a (mchP d).1
  st : fldOf R (.ref r) plC "starts" (natD (mchP d).2.1)
  en : fldOf R (.ref r) plC "ends" (natD (mchP d).2.2)
/-- what was there stays, but for r -/
def Oth (R R' : Rs) (r : Addr) : Prop := ∀ x ro, R x = some ro → x ≠ r → R' x = some ro
theorem Oth.put {R R' : Rs} {r p : Addr} {o : RO} (h : Oth R R' r) (hp : R p = none ∨ p = r) : Oth R (put R' p o) r := fun x ro hx hn => by
  have : x ≠ p := by
    rintro rfl
    rcases hp with e | e
    · rw [e] at hx; cases hx
    · exact hn e
  rw [put_ne this]; exact h x ro hx hn
def plF0 (q a : Addr) : List (Str × D) := [("read", .ref q), ("after", .ref a)]
def plF1 (q a : Addr) (S Z : List Nat) : List (Str × D) := [("read", .ref q), ("after", .ref a), ("starts", natD S), ("ends", natD Z)]
theorem sn1 : ¬ Str.ofString "read" = Str.ofString "after" := by decide +kernel
theorem sn2 : ¬ Str.ofString "read" = Str.ofString "starts" := by decide +kernel
theorem sn3 : ¬ Str.ofString "after" = Str.ofString "starts" := by decide +kernel
theorem sn4 : ¬ Str.ofString "read" = Str.ofString "ends" := by decide +kernel
theorem sn5 : ¬ Str.ofString "after" = Str.ofString "ends" := by decide +kernel
theorem sn6 : ¬ Str.ofString "starts" = Str.ofString "ends" := by decide +kernel
theorem lk_pl {q a : Addr} {l : List (Str × D)} : List.lookup ("read" : Str) (("read", D.ref q) :: ("after", D.ref a) :: l) = some (.ref q) ∧ List.lookup ("after" : Str) (("read", D.ref q) :: ("after", D.ref a) :: l) = some (.ref a) := by
  have e1 : (("read" : Str) == "read") = true := by decide +kernel
  have e2 : (("after" : Str) == "read") = false := by decide +kernel
  have e3 : (("after" : Str) == "after") = true := by decide +kernel
  simp [List.lookup, e1, e2, e3]
theorem lk_pl2 {q a : Addr} {S Z : List Nat} : (plF1 q a S Z).lookup ("starts" : Str) = some (natD S) ∧ (plF1 q a S Z).lookup ("ends" : Str) = some (natD Z) := by
  have e1 : (("starts" : Str) == "read") = false := by decide +kernel
  have e2 : (("starts" : Str) == "after") = false := by decide +kernel
  have e3 : (("starts" : Str) == "starts") = true := by decide +kernel
  have e4 : (("ends" : Str) == "read") = false := by decide +kernel
  have e5 : (("ends" : Str) == "after") = false := by decide +kernel
  have e6 : (("ends" : Str) == "starts") = false := by decide +kernel
  have e7 : (("ends" : Str) == "ends") = true := by decide +kernel
  unfold plF1
  simp [List.lookup, e1, e2, e3, e4, e5, e6, e7]
def MI1 (plC r dx : Addr) (d : D) (R : Rs) (s' : DSt) (R' : Rs) : Prop := ∃ q, q ≠ r ∧ R q = none ∧ Oth R R' r ∧ R' r = some (.ins plC dx [("read", .ref q)]) ∧ R' q = some (.lst [.str ""]) ∧ s' = [some (.ref r), some d]
structure PlI (plC r dx q a : Addr) (R R' : Rs) (m : Mch) (fs : List (Str × D)) : Prop where
  qr : q ≠ r
  ar : a ≠ r
  qa : q ≠ a
  rq : R q = none
  ra : R a = none
  o : Oth R R' r
  i : R' r = some (.ins plC dx fs)
  l : R' q = some (.lst (rdD m))
  k : R' a = some (.dK (aftK m))
theorem PlI.at0 {r dx q a : Addr} {R R' : Rs} {m : Mch} (h : PlI plC r dx q a R R' m (plF0 q a)) : PlAt plC R' r q a m := ⟨⟨dx, _, h.i, lk_pl.1, lk_pl.2, by
  intro x hx
  simp only [plF0, List.map_cons, List.map_nil, List.mem_cons, List.not_mem_nil, or_false] at hx ⊢
  rcases hx with e | e
  · exact .inl e
  · exact .inr (.inl e)⟩, h.l, h.k, h.qa, h.qr.symm, h.ar.symm⟩
theorem PlI.at1 {r dx q a : Addr} {R R' : Rs} {m : Mch} {S Z : List Nat} (h : PlI plC r dx q a R R' m (plF1 q a S Z)) : PlAt plC R' r q a m := ⟨⟨dx, _, h.i, lk_pl.1, lk_pl.2, by
  intro x hx
  simp only [plF1, List.map_cons, List.map_nil] at hx
  exact hx⟩, h.l, h.k, h.qa, h.qr.symm, h.ar.symm⟩
theorem m00_ok : MOk m00 := fun e he => by
  have : e = (("" : Str), []) := List.mem_singleton.mp he
  rw [this]
  exact ⟨(fun i hi => by cases hi), Nat.zero_le _⟩
def spPlInit (plC : Addr) : DSp := fun ds R Q _ => ∃ (r dx : Addr) (d : D), ds = [.ref r, d] ∧ isN 6 d = true ∧ (clsN 6 d).length ≤ 12 ∧ R r = some (.ins plC dx []) ∧ ∀ R', (∀ x ro, R x = some ro → x ≠ r → R' x = some ro) → PlOk plC R' r d → Q .non R'
theorem ok_plinit (F : Fun K "__init__" "Places.__init__" s_Places_init f fd) (Z : Blt mg bl) (cl_Places : Cls K plC) (na_Places_after : NoAttr K plC "after") (na_Places_read : NoAttr K plC "read") (na_Places_starts : NoAttr K plC "starts") (na_Places_ends : NoAttr K plC "ends") (m_Places_add : MetD P w K mg base 16 plC "add" (spAdd plC 7)) : FnG P w K mg base (L2.CX P w) 17 f fd ["self", "pattern"] (spOf K (spPlInit plC)) := by
  refine okX F sc_Places_init (fun ds R Q E h => by obtain ⟨r, dx, d, rfl, _⟩ := h; rfl) fun cdv A outer s H E Ed gd hr tk => ?_
  refine ⟨_, (dss_cut (ds_setF cl_Places na_Places_read (dv 0) (de_lst (da_cons de_str da_nil)))
    (dss_cut (ds_setF cl_Places na_Places_after (dv 0) (de_dispR (.cons de_int (de_lstF da_nil) .nil)))
    (dss_cut (ds_asg (de_meth m_Places_add gd hr (by omega) (dv 0) (da_cons (dv 1) da_nil)) (dg_tup (n := 2) rfl (dgs_cons (dg_fld cl_Places na_Places_starts (dv 0)) (dgs_cons (dg_fld cl_Places na_Places_ends (dv 0)) dgs_nil))))
    (dss_one (ds_asg (de_fld cl_Places na_Places_starts (dv 0)) (dg_sub (de_fld cl_Places na_Places_after (dv 0)) de_int (dset_dk (hu_of hr)))))))), fun ds R Qd h => ?_⟩
  obtain ⟨r, dx, d, rfl, hd, hcl, hx, qq⟩ := h
  refine (show dCut _ _ _ _ _ from ?_)
  refine ⟨MI1 plC r dx d R, ?_, ?_⟩
  · simp only [dSeq, dGetK, rdInK, dGetT, dInT, rdSetK, dNewK, dDcF, dDc2F, dIEnum, dIZip, dISeq, dStar, dCont, dBrk, dOrT, rdInC, dCallK, dCVal, dMeth, dFld, dSetF, dNewF, dNew0F, dDisp, dPairs, dGet2, dGIndex, DL.keyOf, DL.keysOf, dCallL, dLam, dJoin, dJs, dFmtS, dRepl, dRaise, dCallX, dDelTail, dAugL, dXF, dAsg, dIf, dIfS, dB, dAnd, dOr, dNot, dAndV, dOrV, dNotV, dChain, dOp, dUn, dVar, dC, rdI0, rdI, dCB, dCall, rd1, dCons, dNil, dgName, dgSub, dgTup, dgLst, dSortSet, dgCons, dgNil, rdSetL, dRet, dLst, dLstF, dTup, dDrop, dNext, dPar, dBM, dBM0, dSl, dPart, dNoPart, dstart, dwipe, List.map_cons, List.map_nil, List.length_cons, List.length_nil, List.replicate_succ, List.replicate_zero, List.cons_append, List.nil_append, List.set_cons_zero, List.set_cons_succ, List.getElem?_cons_zero, List.getElem?_cons_succ, Nat.reduceAdd, Nat.reduceSub, Option.some.injEq, D.int.injEq, D.bl.injEq, D.str.injEq, D.ref.injEq, D.ty.injEq, D.tup.injEq, D.lst.injEq, D.rls.injEq, RO.lst.injEq, List.cons.injEq, exists_and_left, exists_eq_left', exists_eq_left, and_true, true_and, put_same, put_put, at0, at1, at2, ix30, ix31, ix32, and_assoc, dLcF, dLc, dLcT, dIRng1, dIRng2, dIRng3, dIStr, dITup, dILst, dYes, if_true, Bool.false_eq_true, if_false, eqS_ii, neS_ii, eqS_ss, neS_ss, decide_eq_true_eq, sq_tup, sq_lst, sq_rls, lo_lst, lo_rls, tr_lst, isi_tt, isi_st, isi_nt, isi_bt, isi_it, isi_lt, isi_ts, isi_ss, isi_ns, isi_bs, isi_is, isi_ls, List.append_nil, sz0, sz1, sz2, sz3, sz4, sz5, sz6, sl0, sl1, sl2, ty_put, ty_str, lo_put, sq_put, tr_put, reduceCtorEq, false_and, and_false, exists_false, or_false, false_or, Bool.not_false, Bool.not_true, List.isEmpty_nil, List.isEmpty_cons, app1_empty, dDispR, dLc2F, dMatch, dGoM, dgFld]
    intro p hp
    have hpr : p ≠ r := by rintro rfl; rw [hx] at hp; cases hp
    refine ⟨dx, [], by rw [put_ne hpr.symm]; exact hx, by simp, p, hpr, hp, ?_, put_same, by rw [put_ne hpr, put_same], rfl⟩
    have o0 : Oth R R r := fun x ro h _ => h
    exact (o0.put (.inl hp)).put (.inr rfl)
  rintro s1 R1 ⟨q, hqr, hq0, ho, hi, hl, rfl⟩
  refine (show dCut _ _ _ _ _ from ?_)
  refine ⟨fun s' R' => ∃ a, PlI plC r dx q a R R' m00 (plF0 q a) ∧ s' = [some (.ref r), some d], ?_, ?_⟩
  · simp only [dSeq, dGetK, rdInK, dGetT, dInT, rdSetK, dNewK, dDcF, dDc2F, dIEnum, dIZip, dISeq, dStar, dCont, dBrk, dOrT, rdInC, dCallK, dCVal, dMeth, dFld, dSetF, dNewF, dNew0F, dDisp, dPairs, dGet2, dGIndex, DL.keyOf, DL.keysOf, dCallL, dLam, dJoin, dJs, dFmtS, dRepl, dRaise, dCallX, dDelTail, dAugL, dXF, dAsg, dIf, dIfS, dB, dAnd, dOr, dNot, dAndV, dOrV, dNotV, dChain, dOp, dUn, dVar, dC, rdI0, rdI, dCB, dCall, rd1, dCons, dNil, dgName, dgSub, dgTup, dgLst, dSortSet, dgCons, dgNil, rdSetL, dRet, dLst, dLstF, dTup, dDrop, dNext, dPar, dBM, dBM0, dSl, dPart, dNoPart, dstart, dwipe, List.map_cons, List.map_nil, List.length_cons, List.length_nil, List.replicate_succ, List.replicate_zero, List.cons_append, List.nil_append, List.set_cons_zero, List.set_cons_succ, List.getElem?_cons_zero, List.getElem?_cons_succ, Nat.reduceAdd, Nat.reduceSub, Option.some.injEq, D.int.injEq, D.bl.injEq, D.str.injEq, D.ref.injEq, D.ty.injEq, D.tup.injEq, D.lst.injEq, D.rls.injEq, RO.lst.injEq, List.cons.injEq, exists_and_left, exists_eq_left', exists_eq_left, and_true, true_and, put_same, put_put, at0, at1, at2, ix30, ix31, ix32, and_assoc, dLcF, dLc, dLcT, dIRng1, dIRng2, dIRng3, dIStr, dITup, dILst, dYes, if_true, Bool.false_eq_true, if_false, eqS_ii, neS_ii, eqS_ss, neS_ss, decide_eq_true_eq, sq_tup, sq_lst, sq_rls, lo_lst, lo_rls, tr_lst, isi_tt, isi_st, isi_nt, isi_bt, isi_it, isi_lt, isi_ts, isi_ss, isi_ns, isi_bs, isi_is, isi_ls, List.append_nil, sz0, sz1, sz2, sz3, sz4, sz5, sz6, sl0, sl1, sl2, ty_put, ty_str, lo_put, sq_put, tr_put, reduceCtorEq, false_and, and_false, exists_false, or_false, false_or, Bool.not_false, Bool.not_true, List.isEmpty_nil, List.isEmpty_cons, app1_empty, dDispR, dLc2F, dMatch, dGoM, dgFld]
    refine ⟨[(.inl 0, .lst [])], rfl, by decide, by simp, fun p hp => ?_⟩
    have hpr : p ≠ r := by rintro rfl; rw [hi] at hp; cases hp
    have hqp : q ≠ p := by rintro rfl; rw [hl] at hp; cases hp
    have hp0 : R p = none := by
      cases e : R p with
      | none => rfl
      | some ro => rw [ho p ro e hpr] at hp; cases hp
    have e1 : putD (Str.ofString "after") (D.ref p) [(Str.ofString "read", D.ref q)] = plF0 q p := by
      unfold putD
      rw [if_neg sn1]
      rfl
    refine ⟨dx, _, by rw [put_ne hpr.symm]; exact hi, by simp, p, ⟨hqr, hpr, hqp, hq0, hp0, (ho.put (.inl hp0)).put (.inr rfl), by rw [e1, put_same], by rw [put_ne hqr, put_ne hqp]; exact hl, by rw [put_ne hpr, put_same]; rfl⟩⟩
  rintro s2 R2 ⟨a, h2, rfl⟩
  refine (show dCut _ _ _ _ _ from ?_)
  refine ⟨fun s' R' => PlI plC r dx q a R R' (addP 6 d m00).1 (plF1 q a (addP 6 d m00).2.1 (addP 6 d m00).2.2) ∧ s' = [some (.ref r), some d], ?_, ?_⟩
  · simp only [dSeq, dGetK, rdInK, dGetT, dInT, rdSetK, dNewK, dDcF, dDc2F, dIEnum, dIZip, dISeq, dStar, dCont, dBrk, dOrT, rdInC, dCallK, dCVal, dMeth, dFld, dSetF, dNewF, dNew0F, dDisp, dPairs, dGet2, dGIndex, DL.keyOf, DL.keysOf, dCallL, dLam, dJoin, dJs, dFmtS, dRepl, dRaise, dCallX, dDelTail, dAugL, dXF, dAsg, dIf, dIfS, dB, dAnd, dOr, dNot, dAndV, dOrV, dNotV, dChain, dOp, dUn, dVar, dC, rdI0, rdI, dCB, dCall, rd1, dCons, dNil, dgName, dgSub, dgTup, dgLst, dSortSet, dgCons, dgNil, rdSetL, dRet, dLst, dLstF, dTup, dDrop, dNext, dPar, dBM, dBM0, dSl, dPart, dNoPart, dstart, dwipe, List.map_cons, List.map_nil, List.length_cons, List.length_nil, List.replicate_succ, List.replicate_zero, List.cons_append, List.nil_append, List.set_cons_zero, List.set_cons_succ, List.getElem?_cons_zero, List.getElem?_cons_succ, Nat.reduceAdd, Nat.reduceSub, Option.some.injEq, D.int.injEq, D.bl.injEq, D.str.injEq, D.ref.injEq, D.ty.injEq, D.tup.injEq, D.lst.injEq, D.rls.injEq, RO.lst.injEq, List.cons.injEq, exists_and_left, exists_eq_left', exists_eq_left, and_true, true_and, put_same, put_put, at0, at1, at2, ix30, ix31, ix32, and_assoc, dLcF, dLc, dLcT, dIRng1, dIRng2, dIRng3, dIStr, dITup, dILst, dYes, if_true, Bool.false_eq_true, if_false, eqS_ii, neS_ii, eqS_ss, neS_ss, decide_eq_true_eq, sq_tup, sq_lst, sq_rls, lo_lst, lo_rls, tr_lst, isi_tt, isi_st, isi_nt, isi_bt, isi_it, isi_lt, isi_ts, isi_ss, isi_ns, isi_bs, isi_is, isi_ls, List.append_nil, sz0, sz1, sz2, sz3, sz4, sz5, sz6, sl0, sl1, sl2, ty_put, ty_str, lo_put, sq_put, tr_put, reduceCtorEq, false_and, and_false, exists_false, or_false, false_or, Bool.not_false, Bool.not_true, List.isEmpty_nil, List.isEmpty_cons, app1_empty, dDispR, dLc2F, dMatch, dGoM, dgFld]
    have hat := h2.at0
    have ir : ∀ m', plPut R2 q a m' r = some (.ins plC dx (plF0 q a)) := fun m' => by unfold plPut; rw [put_ne h2.ar.symm, put_ne h2.qr.symm]; exact h2.i
    refine ⟨hat.insA (by decide +kernel), r, q, a, m00, d, 6, rfl, by decide, by decide, hd, hat, m00_ok, by show 1 + _ ≤ 60; omega, _, rfl, rfl, _, _, rfl, dx, _, ir _, by simp [plF0], _, _, rfl, dx, _, rfl, ?_, rfl, ?_⟩
    · unfold plF0 putD
      rw [if_neg sn2]
      unfold putD
      rw [if_neg sn3]
      simp [putD]
    · have e2 : putD (Str.ofString "ends") (natD (addP 6 d m00).2.2) (putD (Str.ofString "starts") (natD (addP 6 d m00).2.1) (plF0 q a)) = plF1 q a (addP 6 d m00).2.1 (addP 6 d m00).2.2 := by
        simp only [plF0, putD, sn2, sn3, sn4, sn5, sn6, if_false]
        rfl
      rw [e2]
      refine ⟨h2.qr, h2.ar, h2.qa, h2.rq, h2.ra, ?_, put_same, by unfold plPut; rw [put_ne h2.qr, put_ne h2.qa, put_same], by unfold plPut; rw [put_ne h2.ar, put_same]⟩
      exact ((h2.o.put (.inl h2.rq)).put (.inl h2.ra)).put (.inr rfl)
  rintro s3 R3 ⟨h3, rfl⟩
  simp only [dSeq, dGetK, rdInK, dGetT, dInT, rdSetK, dNewK, dDcF, dDc2F, dIEnum, dIZip, dISeq, dStar, dCont, dBrk, dOrT, rdInC, dCallK, dCVal, dMeth, dFld, dSetF, dNewF, dNew0F, dDisp, dPairs, dGet2, dGIndex, DL.keyOf, DL.keysOf, dCallL, dLam, dJoin, dJs, dFmtS, dRepl, dRaise, dCallX, dDelTail, dAugL, dXF, dAsg, dIf, dIfS, dB, dAnd, dOr, dNot, dAndV, dOrV, dNotV, dChain, dOp, dUn, dVar, dC, rdI0, rdI, dCB, dCall, rd1, dCons, dNil, dgName, dgSub, dgTup, dgLst, dSortSet, dgCons, dgNil, rdSetL, dRet, dLst, dLstF, dTup, dDrop, dNext, dPar, dBM, dBM0, dSl, dPart, dNoPart, dstart, dwipe, List.map_cons, List.map_nil, List.length_cons, List.length_nil, List.replicate_succ, List.replicate_zero, List.cons_append, List.nil_append, List.set_cons_zero, List.set_cons_succ, List.getElem?_cons_zero, List.getElem?_cons_succ, Nat.reduceAdd, Nat.reduceSub, Option.some.injEq, D.int.injEq, D.bl.injEq, D.str.injEq, D.ref.injEq, D.ty.injEq, D.tup.injEq, D.lst.injEq, D.rls.injEq, RO.lst.injEq, List.cons.injEq, exists_and_left, exists_eq_left', exists_eq_left, and_true, true_and, put_same, put_put, at0, at1, at2, ix30, ix31, ix32, and_assoc, dLcF, dLc, dLcT, dIRng1, dIRng2, dIRng3, dIStr, dITup, dILst, dYes, if_true, Bool.false_eq_true, if_false, eqS_ii, neS_ii, eqS_ss, neS_ss, decide_eq_true_eq, sq_tup, sq_lst, sq_rls, lo_lst, lo_rls, tr_lst, isi_tt, isi_st, isi_nt, isi_bt, isi_it, isi_lt, isi_ts, isi_ss, isi_ns, isi_bs, isi_is, isi_ls, List.append_nil, sz0, sz1, sz2, sz3, sz4, sz5, sz6, sl0, sl1, sl2, ty_put, ty_str, lo_put, sq_put, tr_put, reduceCtorEq, false_and, and_false, exists_false, or_false, false_or, Bool.not_false, Bool.not_true, List.isEmpty_nil, List.isEmpty_cons, app1_empty, dDispR, dLc2F, dMatch, dGoM, dgFld]
  have hat := h3.at1
  obtain ⟨e0, he0, hn0⟩ : ∃ e : Str × List Nat, (addP 6 d m00).1[0]? = some e ∧ e.1 = ("" : Str) := ⟨(("" : Str), []), add_old 6 hd m00 m00_ok 0 (by decide), rfl⟩
  refine ⟨_, ⟨dx, _, h3.i, lk_pl2.1⟩, _, hat.fafter, a, rfl, _, h3.k, ?_, fin (qq _ ?_ ⟨⟨q, a, ?_⟩, ?_, ?_⟩)⟩
  · rw [aftK_len, (add_ok 6 hd m00 m00_ok).len]
    show 1 + _ < 1000
    omega
  · exact h3.o.put (.inl h3.ra)
  · have eK : putKD (aftK (addP 6 d m00).1) (Sum.inl ((0 : Nat) : Int)) (natD (addP 6 d m00).2.1) = aftK (mchP d).1 := by
      rw [aftK_set he0, hn0]
      rfl
    have eR : rdD (mchP d).1 = rdD (addP 6 d m00).1 := by
      have := rdD_set he0 (addP 6 d m00).2.1
      rw [hn0] at this
      exact this
    refine ⟨⟨dx, _, by rw [put_ne h3.ar.symm]; exact h3.i, lk_pl.1, lk_pl.2, ?_⟩, by rw [put_ne h3.qa, eR]; exact h3.l, by rw [put_same, ← eK]; rfl, h3.qa, h3.qr.symm, h3.ar.symm⟩
    intro x hx
    simp only [plF1, List.map_cons, List.map_nil] at hx
    exact hx
  · exact ⟨dx, _, by rw [put_ne h3.ar.symm]; exact h3.i, lk_pl2.1⟩
  · exact ⟨dx, _, by rw [put_ne h3.ar.symm]; exact h3.i, lk_pl2.2⟩
end

end Law
end
section
set_option Elab.async false
set_option maxRecDepth 100000
set_option maxHeartbeats 4000000
set_option linter.all false
set_option autoImplicit false
namespace Law
open PySem PySem.Spec PyProof.Rows L2 DL TL TrA TrA.Tr
section
variable [TabCtx] {P : Program} {w : World} {K : KB} {mg : Str → Option Value} {base : Heap} {f : Addr} {fd : FuncData} {plC pC : Addr}
def aftN (m : Mch) (p : Nat) : List Nat := (m[p]?.map (·.2)).getD []
def rdN (m : Mch) (g : Nat) : Str := (m[g]?.map (·.1)).getD ""
/-- where a class leads from some places -/
def gLed (m : Mch) (x : Str) (p : Nat) : List Nat := (aftN m p).filter fun g => decide (rdN m g = x)
def ledP (m : Mch) (ps : List Nat) (x : Str) : List Nat := upS m.length (ps.flatMap (gLed m x))
theorem aft_lt {m : Mch} (h : MOk m) {p g : Nat} (hg : g ∈ aftN m p) : g < m.length := by
  unfold aftN at hg
  cases e : m[p]? with
  | none => rw [e] at hg; cases hg
  | some x => rw [e] at hg; exact (h x (List.mem_of_getElem? e)).1 g hg
theorem aft_len {m : Mch} (h : MOk m) (p : Nat) : (aftN m p).length ≤ m.length := by
  unfold aftN
  cases e : m[p]? with
  | none => exact Nat.zero_le _
  | some x => exact (h x (List.mem_of_getElem? e)).2
theorem set_ok {m : Mch} {S : List Nat} (h : MOk m) (hS : (∀ i ∈ S, i < m.length) ∧ S.length ≤ m.length) (x : Str) : MOk (m.set 0 (x, S)) := fun e he => by
  rw [List.length_set]
  rcases List.mem_or_eq_of_mem_set he with z | z
  · exact h e z
  · rw [z]; exact hS
/-- the machine of a pattern is in order -/
theorem mch_ok {d : D} (hd : isN 6 d = true) : MOk (mchP d).1 ∧ (mchP d).1.length = 1 + (clsN 6 d).length := by
  have a := add_ok 6 hd m00 m00_ok
  have al : (addP 6 d m00).1.length = 1 + (clsN 6 d).length := a.len
  have af := a.fl
  exact ⟨set_ok a.ok ⟨fun i hi => (a.f i hi).2, by omega⟩ _, by show (List.set _ _ _).length = _; rw [List.length_set]; exact al⟩
/-- a set that is filled, told by what it has -/
def PSe (xs : List Nat) (R : Rs) (acc : List Int) (R' : Rs) : Prop := R' = R ∧ acc.Nodup ∧ ∀ k : Int, k ∈ acc ↔ ∃ n : Nat, k = n ∧ n ∈ xs
theorem PSe.go {xs ys : List Nat} {R R' : Rs} {n : Nat} {acc : List Int} (h : PSe xs R acc R') (hy : ys = xs ++ [n]) : PSe ys R (insI acc n) R' := ⟨h.1, insI_nodup h.2.1, fun k => by
  rw [insI_mem, h.2.2 k, hy]
  constructor
  · rintro (⟨j, e, hj⟩ | e)
    · exact ⟨j, e, List.mem_append_left _ hj⟩
    · exact ⟨n, e, List.mem_append_right _ (by simp)⟩
  · rintro ⟨j, e, hj⟩
    rcases List.mem_append.mp hj with z | z
    · exact .inl ⟨j, e, z⟩
    · rw [List.mem_singleton.mp z] at e
      exact .inr e⟩
theorem PSe.len {xs : List Nat} {R R' : Rs} {b : Nat} {acc : List Int} (h : PSe xs R acc R') (hb : ∀ x ∈ xs, x < b) : acc.length ≤ b := nodup_len b h.2.1 fun k hk => by
  obtain ⟨n, e, hn⟩ := (h.2.2 k).mp hk
  have := hb n hn
  omega
abbrev s_Places_led_on : Stmt := inClass (top 16) 5
abbrev n_Places_led_on : List Str := ["self", "places", "name", "place", "goal"]
theorem sc_Places_led_on : FnScope n_Places_led_on ["self", "places", "name"] (defScope s_Places_led_on) := ⟨rfl, rfl, rfl, by decide +kernel, rfl, by decide +kernel, by decide +kernel⟩
def spLed (plC : Addr) : DSp := fun ds R Q _ => ∃ (r : Addr) (d : D) (ps : List Nat) (x : Str), ds = [.ref r, natD ps, .str x] ∧ PlOk plC R r d ∧ isN 6 d = true ∧ (clsN 6 d).length ≤ 12 ∧ (∀ p ∈ ps, p < (mchP d).1.length) ∧ Q (natD (ledP (mchP d).1 ps x)) R
theorem ok_led (F : Fun K "led_on" "Places.led_on" s_Places_led_on f fd) (Z : Blt mg bl) (cl_Places : Cls K plC) (na_Places_after : NoAttr K plC "after") (na_Places_read : NoAttr K plC "read") : FnG P w K mg base CX0 1 f fd ["self", "places", "name"] (spOf K (spLed plC)) := by
  refine okD F sc_Places_led_on (fun ds R Q E h => by obtain ⟨r, d, ps, x, rfl, _⟩ := h; rfl) fun cdv A outer s H E gd hr => ?_
  refine ⟨_, (dss_one (ds_ret (de_sortSc2 (own := [("place", 3), ("goal", 4)]) (vs1 := [4]) rfl (by rfl) (Z _ (by decide)) sc_Places_led_on.nd (di_list (dv 1)) (blkOk_by (N := n_Places_led_on) (sc := defScope s_Places_led_on) (by decide +kernel)) (by decide) (fun _ _ _ _ _ => (dgw_name (i := 3) sc_Places_led_on.nd rfl (.inl rfl))) (fun _ _ _ _ _ => dts_nil) (fun _ _ _ _ _ => (di_list (de_dgetK (hu_of hr) (de_fld cl_Places na_Places_after (dv 0)) (dv 3)))) (fun _ _ _ _ _ => (dgw_name (i := 4) sc_Places_led_on.nd rfl (.inl rfl))) (fun _ _ _ _ _ => (dts_one (dt_cmp od_eqS (de_ix xd_seq (de_fld cl_Places na_Places_read (dv 0)) (dv 4) (fun _ _ => rfl)) (dv 2) (nomark _)))) (fun _ _ _ _ _ => (dv 4))))), fun ds R Qd Ed h => ?_⟩
  obtain ⟨r, d, ps, x, rfl, ⟨⟨q, a, hat⟩, _, _⟩, hd, hcl, hps, qq⟩ := h
  obtain ⟨hm, hml⟩ := mch_ok hd
  generalize (mchP d).1 = m at *
  simp only [dSeq, dGetK, rdInK, dGetT, dInT, rdSetK, dNewK, dDcF, dDc2F, dIEnum, dIZip, dISeq, dStar, dCont, dBrk, dOrT, rdInC, dCallK, dCVal, dMeth, dFld, dSetF, dNewF, dNew0F, dDisp, dPairs, dGet2, dGIndex, DL.keyOf, DL.keysOf, dCallL, dLam, dJoin, dJs, dFmtS, dRepl, dRaise, dCallX, dDelTail, dAugL, dXF, dAsg, dIf, dIfS, dB, dAnd, dOr, dNot, dAndV, dOrV, dNotV, dChain, dOp, dUn, dVar, dC, rdI0, rdI, dCB, dCall, rd1, dCons, dNil, dgName, dgSub, dgTup, dgLst, dSortSet, dgCons, dgNil, rdSetL, dRet, dLst, dLstF, dTup, dDrop, dNext, dPar, dBM, dBM0, dSl, dPart, dNoPart, dstart, dwipe, List.map_cons, List.map_nil, List.length_cons, List.length_nil, List.replicate_succ, List.replicate_zero, List.cons_append, List.nil_append, List.set_cons_zero, List.set_cons_succ, List.getElem?_cons_zero, List.getElem?_cons_succ, Nat.reduceAdd, Nat.reduceSub, Option.some.injEq, D.int.injEq, D.bl.injEq, D.str.injEq, D.ref.injEq, D.ty.injEq, D.tup.injEq, D.lst.injEq, D.rls.injEq, RO.lst.injEq, List.cons.injEq, exists_and_left, exists_eq_left', exists_eq_left, and_true, true_and, put_same, put_put, at0, at1, at2, ix30, ix31, ix32, and_assoc, dLcF, dLc, dLcT, dIRng1, dIRng2, dIRng3, dIStr, dITup, dILst, dYes, if_true, Bool.false_eq_true, if_false, eqS_ii, neS_ii, eqS_ss, neS_ss, decide_eq_true_eq, sq_tup, sq_lst, sq_rls, lo_lst, lo_rls, tr_lst, isi_tt, isi_st, isi_nt, isi_bt, isi_it, isi_lt, isi_ts, isi_ss, isi_ns, isi_bs, isi_is, isi_ls, List.append_nil, sz0, sz1, sz2, sz3, sz4, sz5, sz6, sl0, sl1, sl2, ty_put, ty_str, lo_put, sq_put, tr_put, reduceCtorEq, false_and, and_false, exists_false, or_false, false_or, Bool.not_false, Bool.not_true, List.isEmpty_nil, List.isEmpty_cons, app1_empty, dSortSc2]
  have gb : ∀ (l : List Nat), ∀ y ∈ l.flatMap (gLed m x), y < m.length := fun l y hy => by
    obtain ⟨p, _, h⟩ := List.mem_flatMap.mp hy
    exact aft_lt hm (List.mem_filter.mp h).1
  refine ⟨_, .inl ⟨rfl, fun i acc R' => PSe ((ps.take i).flatMap (gLed m x)) R acc R', ⟨rfl, List.nodup_nil, fun k => by simp⟩, fun _ _ _ _ _ => trivial, ?_, ?_⟩⟩
  · rintro i y acc R' hy hp
    obtain ⟨p, rfl, hpm, hpi, hpt⟩ := take_step (c := fun n => D.int (n : Nat)) hy
    have hR := hp.1
    subst hR
    obtain ⟨e, he⟩ : ∃ e : Str × List Nat, m[p]? = some e := ⟨_, List.getElem?_eq_getElem (hps p hpm)⟩
    have ea : aftN m p = e.2 := by unfold aftN; rw [he]; rfl
    have hb1 : ∀ j, ∀ y ∈ (ps.take i).flatMap (gLed m x) ++ (e.2.take j).filter (fun g => decide (rdN m g = x)), y < m.length := fun j y hy => by
      rcases List.mem_append.mp hy with z | z
      · exact gb _ y z
      · exact (hm e (List.mem_of_getElem? he)).1 y (List.mem_of_mem_take (List.mem_filter.mp z).1)
    refine ⟨_, hat.fafter, _, hat.dk, _, rfl, natD e.2, by rw [aftK_val, he]; rfl, _, .inl ⟨rfl, fun j acc R2 => PSe ((ps.take i).flatMap (gLed m x) ++ (e.2.take j).filter (fun g => decide (rdN m g = x))) R' acc R2, by simpa using hp, fun j acc R2 _ h => by have := h.len (hb1 j); omega, ?_, ?_⟩⟩
    · rintro j y acc R2 hy2 h
      obtain ⟨n, rfl, hn, hni, hnt⟩ := take_step (c := fun n => D.int (n : Nat)) hy2
      have hR := h.1
      subst hR
      obtain ⟨e2, he2⟩ : ∃ e2 : Str × List Nat, m[n]? = some e2 := ⟨_, List.getElem?_eq_getElem ((hm e (List.mem_of_getElem? he)).1 n hn)⟩
      have er : rdN m n = e2.1 := by unfold rdN; rw [he2]; rfl
      refine ⟨_, hat.fread, _, sq_ref hat.hq, _, rfl, .str e2.1, atI_nat (by unfold rdD; rw [List.getElem?_map, he2]; rfl), eqS_ss.mpr ⟨_, rfl, ?_⟩⟩
      by_cases hx : e2.1 = x
      · refine iteT (decide_eq_true hx) ⟨_, rfl, h.go ?_⟩
        rw [hnt, List.filter_append, List.filter_cons, if_pos (decide_eq_true (er.trans hx)), List.append_assoc]
        rfl
      · refine iteF (by simpa using hx) ?_
        show PSe ((ps.take i).flatMap (gLed m x) ++ (e.2.take (j + 1)).filter (fun g => decide (rdN m g = x))) _ _ _
        rw [hnt, List.filter_append, List.filter_cons, if_neg (by rw [er]; simpa using hx)]
        simpa using h
    · intro acc R2 h
      rw [List.length_map, List.take_length] at h
      show PSe _ _ _ _
      rw [hpt, List.flatMap_append]
      have : List.flatMap (gLed m x) [p] = e.2.filter (fun g => decide (rdN m g = x)) := by simp [gLed, ea]
      rw [this]
      exact h
  · intro acc R' h
    rw [List.length_map, List.take_length] at h
    have := h.len (gb ps)
    refine ⟨by omega, fun ns h3 h4 => ?_⟩
    have hR := h.1
    subst hR
    rw [natD_asc h3 (gb ps) fun k => by rw [h4 k, h.2.2 k]]
    exact fin qq
theorem aftF_at : ∀ (m : Mch) (i j : Nat), (aftF i m)[j]? = m[j]?.map fun e => (.inl ((i + j : Nat) : Int), natD e.2)
  | [], i, j => by simp [aftF]
  | e :: m, i, 0 => rfl
  | e :: m, i, j + 1 => by
    unfold aftF
    rw [List.getElem?_cons_succ, List.getElem?_cons_succ, aftF_at m (i + 1) j, show i + 1 + j = i + (j + 1) by omega]
theorem aftK_at {m : Mch} {j : Nat} : (aftK m)[j]? = m[j]?.map fun e => (.inl ((j : Nat) : Int), natD e.2) := by
  have := aftF_at m 0 j
  rw [Nat.zero_add] at this
  exact this
/-- ascending places -/
def AAsc (s : Adds) : Prop := s.2.1.Pairwise (· < ·) ∧ s.2.2.Pairwise (· < ·) ∧ ∀ e ∈ s.1, e.2.Pairwise (· < ·)
theorem link_asc {m : Mch} {Z F : List Nat} (h : ∀ e ∈ m, e.2.Pairwise (· < ·)) : ∀ e ∈ linkP m Z F, e.2.Pairwise (· < ·) := fun e he => by
  obtain ⟨j, hj⟩ := List.getElem?_of_mem he
  rw [link_at] at hj
  cases hm : m[j]? with
  | none => rw [hm] at hj; cases hj
  | some e0 =>
    rw [hm] at hj
    have hj : (if j ∈ Z then (e0.1, upS m.length (e0.2 ++ F)) else e0) = e := Option.some.inj hj
    by_cases hZ : j ∈ Z
    · rw [if_pos hZ] at hj
      rw [← hj]; exact upS_asc _ _
    · rw [if_neg hZ] at hj
      rw [← hj]; exact h e0 (List.mem_of_getElem? hm)
theorem seq_asc {f : D → Mch → Adds} {g : D → Nat} : ∀ {ps : List D} {m : Mch}, (∀ p ∈ ps, ∀ m, MOk m → AOk m (f p m) (g p)) → (∀ p ∈ ps, ∀ m, MOk m → (∀ e ∈ m, e.2.Pairwise (· < ·)) → AAsc (f p m)) → MOk m → (∀ e ∈ m, e.2.Pairwise (· < ·)) → AAsc ((seqP f ps m).1, (seqP f ps m).2.flatMap (·.1), (seqP f ps m).2.flatMap (·.2))
  | [], m, _, _, _, hm => ⟨List.Pairwise.nil, List.Pairwise.nil, hm⟩
  | p :: ps, m, h, h2, ho, hm => by
    have a := h p (by simp) m ho
    obtain ⟨a1, a2, a3⟩ := h2 p (by simp) m ho hm
    obtain ⟨b1, b2, b3⟩ := seq_asc (ps := ps) (m := (f p m).1) (fun q hq => h q (by simp [hq])) (fun q hq => h2 q (by simp [hq])) a.ok a3
    have b := seq_ok (ps := ps) (m := (f p m).1) (g := g) (fun q hq => h q (by simp [hq])) a.ok
    refine ⟨?_, ?_, b3⟩
    · show ((f p m).2.1 ++ _).Pairwise _
      exact List.pairwise_append.mpr ⟨a1, b1, fun x hx y hy => by have := (a.f x hx).2; have := (b.f y hy).1; omega⟩
    · show ((f p m).2.2 ++ _).Pairwise _
      exact List.pairwise_append.mpr ⟨a2, b2, fun x hx y hy => by have := (a.z x hx).2; have := (b.z y hy).1; omega⟩
theorem row_asc {f : D → Mch → Adds} {g : D → Nat} : ∀ {ps : List D} {s : Adds}, (∀ p ∈ ps, ∀ m, MOk m → AOk m (f p m) (g p)) → (∀ p ∈ ps, ∀ m, MOk m → (∀ e ∈ m, e.2.Pairwise (· < ·)) → AAsc (f p m)) → MOk s.1 → AAsc s → AAsc (rowP f ps s)
  | [], s, _, _, _, hs => hs
  | p :: ps, (m, S, Z), h, h2, ho, ⟨c1, c2, c3⟩ => by
    have a := h p (by simp) m ho
    obtain ⟨a1, a2, a3⟩ := h2 p (by simp) m ho c3
    exact row_asc (ps := ps) (s := (linkP (f p m).1 Z (f p m).2.1, S, (f p m).2.2)) (fun q hq => h q (by simp [hq])) (fun q hq => h2 q (by simp [hq])) (a.ok.link fun x hx => (a.f x hx).2) ⟨c1, a2, link_asc a3⟩
theorem add_asc : ∀ (k : Nat) {d : D}, isN k d = true → ∀ m, MOk m → (∀ e ∈ m, e.2.Pairwise (· < ·)) → AAsc (addP k d m)
  | 0, _, h, _, _, _ => by cases h
  | k + 1, d, h, m, ho, hm => by
    obtain ⟨x, e, rfl, hc⟩ := isN_form h
    rcases hc with ⟨rfl, y, rfl, hy⟩ | ⟨rfl | rfl, ps, rfl, hp2, hp4, hps⟩ | ⟨rfl, he⟩
    · rw [addP_one]
      refine ⟨List.pairwise_singleton _ _, List.pairwise_singleton _ _, fun e he => ?_⟩
      rcases List.mem_append.mp he with z | z
      · exact hm e z
      · rw [List.mem_singleton.mp z]; exact List.Pairwise.nil
    · rw [addP_any]
      exact seq_asc (g := fun d => (clsN k d).length) (fun p hp m hm => add_ok k (hps p hp) m hm) (fun p hp m ho hm => add_asc k (hps p hp) m ho hm) ho hm
    · match ps, hp2, hps with
      | p :: ps, hp2, hps =>
        rw [addP_row]
        exact row_asc (g := fun d => (clsN k d).length) (fun q hq m hm => add_ok k (hps q (by simp [hq])) m hm) (fun q hq m ho hm => add_asc k (hps q (by simp [hq])) m ho hm) (add_ok k (hps p (by simp)) m ho).ok (add_asc k (hps p (by simp)) m ho hm)
    · rw [addP_many]
      obtain ⟨a1, a2, a3⟩ := add_asc k he m ho hm
      exact ⟨a1, a2, link_asc a3⟩
theorem mch_asc {d : D} (hd : isN 6 d = true) : (mchP d).2.1.Pairwise (· < ·) ∧ (mchP d).2.2.Pairwise (· < ·) ∧ ∀ p, (aftN (mchP d).1 p).Pairwise (· < ·) := by
  obtain ⟨a1, a2, a3⟩ := add_asc 6 hd m00 m00_ok fun e he => by
    have : e = (("" : Str), []) := List.mem_singleton.mp he
    rw [this]; exact List.Pairwise.nil
  refine ⟨a1, a2, fun p => ?_⟩
  unfold aftN
  cases e : (mchP d).1[p]? with
  | none => exact List.Pairwise.nil
  | some x =>
    rcases List.mem_or_eq_of_mem_set (List.mem_of_getElem? e) with z | z
    · exact a3 x z
    · show x.2.Pairwise _
      rw [z]; exact a1
abbrev s_Places_steps : Stmt := inClass (top 16) 4
abbrev n_Places_steps : List Str := ["self", "place", "goals", "goal"]
theorem sc_Places_steps : FnScope n_Places_steps ["self"] (defScope s_Places_steps) := ⟨rfl, rfl, rfl, by decide +kernel, rfl, by decide +kernel, by decide +kernel⟩
def stepD (m : Mch) (p g : Nat) : D := .tup [.int (p : Nat), .int (g : Nat), .str (rdN m g)]
def stepsD (m : Mch) : List D := (List.range m.length).flatMap fun p => (aftN m p).map (stepD m p)
def spSteps (plC : Addr) : DSp := fun ds R Q _ => ∃ (r : Addr) (d : D), ds = [.ref r] ∧ PlOk plC R r d ∧ isN 6 d = true ∧ (clsN 6 d).length ≤ 12 ∧ Q (.lst (stepsD (mchP d).1)) R
theorem step_lt {a b c e : Nat} {x y : Str} (h : a < c ∨ a = c ∧ b < e) : PySem.W.dataLt (.tuple [.int (c : Nat), .int (e : Nat), .str y]) (.tuple [.int (a : Nat), .int (b : Nat), .str x]) = false := by
  rw [PySem.W.dataLt_tuple, PySem.W.dataLt_cons (by simp [PySem.W.alike])]
  by_cases h1 : a = c
  · subst h1
    have h2 : b < e := by rcases h with h | h <;> omega
    rw [if_pos (by simp [PyData.eqv]), PySem.W.dataLt_cons (by simp [PySem.W.alike]), if_neg (by simp [PyData.eqv]; omega), PySem.W.dataLt_int]
    simp; omega
  · rw [if_neg (by simp [PyData.eqv]; omega), PySem.W.dataLt_int]
    simp; omega
theorem py_step (m : Mch) (p g : Nat) : (stepD m p g).py = .tuple [.int (p : Nat), .int (g : Nat), .str (rdN m g)] := by simp [stepD, D.py, D.pys]
theorem steps_mem {m : Mch} {x : D} (h : x ∈ stepsD m) : ∃ p g, x = stepD m p g := by
  obtain ⟨p, _, h⟩ := List.mem_flatMap.mp h
  obtain ⟨g, _, rfl⟩ := List.mem_map.mp h
  exact ⟨p, g, rfl⟩
theorem plains_of : ∀ {xs : List D}, (∀ x ∈ xs, x.plain = true) → D.plains xs = true
  | [], _ => rfl
  | x :: xs, h => by rw [D.plains, h x (by simp), plains_of fun y hy => h y (by simp [hy])]; rfl
theorem steps_pw {m : Mch} (ha : ∀ p, (aftN m p).Pairwise (· < ·)) : (D.pys (stepsD m)).Pairwise (fun a b => PySem.W.dataLt b a = false) := by
  rw [pys_map, List.pairwise_map]
  unfold stepsD
  rw [List.pairwise_flatMap]
  refine ⟨fun p _ => ?_, ?_⟩
  · rw [List.pairwise_map]
    refine (ha p).imp fun {b e} h => ?_
    rw [py_step, py_step]
    exact step_lt (.inr ⟨rfl, h⟩)
  · refine List.pairwise_lt_range.imp fun {p p2} h x hx y hy => ?_
    obtain ⟨g, _, rfl⟩ := List.mem_map.mp hx
    obtain ⟨g2, _, rfl⟩ := List.mem_map.mp hy
    rw [py_step, py_step]
    exact step_lt (.inl h)
theorem steps_len {m : Mch} (hm : MOk m) : ∀ n, ((List.range n).flatMap fun p => (aftN m p).map (stepD m p)).length ≤ n * m.length
  | 0 => by simp
  | n + 1 => by
    have h1 := steps_len hm n
    have h2 := aft_len hm n
    have h3 : ([n].flatMap fun p => (aftN m p).map (stepD m p)).length = (aftN m n).length := by simp
    rw [List.range_succ, List.flatMap_append, List.length_append, Nat.add_mul, h3]
    omega
theorem ok_steps (F : Fun K "steps" "Places.steps" s_Places_steps f fd) (Z : Blt mg bl) (cl_Places : Cls K plC) (na_Places_after : NoAttr K plC "after") (na_Places_read : NoAttr K plC "read") : FnG P w K mg base CX0 1 f fd ["self"] (spOf K (spSteps plC)) := by
  refine okD F sc_Places_steps (fun ds R Q E h => by obtain ⟨r, d, rfl, _⟩ := h; rfl) fun cdv A outer s H E gd hr => ?_
  refine ⟨_, (dss_one (ds_ret (de_callB (cd_sortA hr) (by rfl) (Z _ (by decide)) bt_sorted (da_cons (de_lc2It (own := [("place", 1), ("goals", 2), ("goal", 3)]) (vs1 := [3]) rfl sc_Places_steps.nd (de_fld cl_Places na_Places_after (dv 0)) (blkOk_by (N := n_Places_steps) (sc := defScope s_Places_steps) (by decide +kernel)) (by decide) (fun _ _ _ _ _ => (dgw_tup (n := 2) rfl (dgsw_cons (dgw_name (i := 1) sc_Places_steps.nd rfl (.inl rfl)) (dgsw_cons (dgw_name (i := 2) sc_Places_steps.nd rfl (.inl rfl)) dgsw_nil)))) (fun _ _ _ _ _ => dts_nil) (fun _ _ _ _ _ => (di_list (dv 2))) (fun _ _ _ _ _ => (dgw_name (i := 3) sc_Places_steps.nd rfl (.inl rfl))) (fun _ _ _ _ _ => dts_nil) (fun _ _ _ _ _ => (de_tup (da_cons (dv 1) (da_cons (dv 3) (da_cons (de_ix xd_seq (de_fld cl_Places na_Places_read (dv 0)) (dv 3) (fun _ _ => rfl)) da_nil)))))) da_nil)))), fun ds R Qd Ed h => ?_⟩
  obtain ⟨r, d, rfl, ⟨⟨q, a, hat⟩, _, _⟩, hd, hcl, qq⟩ := h
  obtain ⟨hm, hml⟩ := mch_ok hd
  have hasc := (mch_asc hd).2.2
  generalize (mchP d).1 = m at *
  simp only [dSeq, dGetK, rdInK, dGetT, dInT, rdSetK, dNewK, dDcF, dDc2F, dIEnum, dIZip, dISeq, dStar, dCont, dBrk, dOrT, rdInC, dCallK, dCVal, dMeth, dFld, dSetF, dNewF, dNew0F, dDisp, dPairs, dGet2, dGIndex, DL.keyOf, DL.keysOf, dCallL, dLam, dJoin, dJs, dFmtS, dRepl, dRaise, dCallX, dDelTail, dAugL, dXF, dAsg, dIf, dIfS, dB, dAnd, dOr, dNot, dAndV, dOrV, dNotV, dChain, dOp, dUn, dVar, dC, rdI0, rdI, dCB, dCall, rd1, dCons, dNil, dgName, dgSub, dgTup, dgLst, dSortSet, dgCons, dgNil, rdSetL, dRet, dLst, dLstF, dTup, dDrop, dNext, dPar, dBM, dBM0, dSl, dPart, dNoPart, dstart, dwipe, List.map_cons, List.map_nil, List.length_cons, List.length_nil, List.replicate_succ, List.replicate_zero, List.cons_append, List.nil_append, List.set_cons_zero, List.set_cons_succ, List.getElem?_cons_zero, List.getElem?_cons_succ, Nat.reduceAdd, Nat.reduceSub, Option.some.injEq, D.int.injEq, D.bl.injEq, D.str.injEq, D.ref.injEq, D.ty.injEq, D.tup.injEq, D.lst.injEq, D.rls.injEq, RO.lst.injEq, List.cons.injEq, exists_and_left, exists_eq_left', exists_eq_left, and_true, true_and, put_same, put_put, at0, at1, at2, ix30, ix31, ix32, and_assoc, dLcF, dLc, dLcT, dIRng1, dIRng2, dIRng3, dIStr, dITup, dILst, dYes, if_true, Bool.false_eq_true, if_false, eqS_ii, neS_ii, eqS_ss, neS_ss, decide_eq_true_eq, sq_tup, sq_lst, sq_rls, lo_lst, lo_rls, tr_lst, isi_tt, isi_st, isi_nt, isi_bt, isi_it, isi_lt, isi_ts, isi_ss, isi_ns, isi_bs, isi_is, isi_ls, List.append_nil, sz0, sz1, sz2, sz3, sz4, sz5, sz6, sl0, sl1, sl2, ty_put, ty_str, lo_put, sq_put, tr_put, reduceCtorEq, false_and, and_false, exists_false, or_false, false_or, Bool.not_false, Bool.not_true, List.isEmpty_nil, List.isEmpty_cons, app1_empty, dSortSc2, dLc2It]
  refine ⟨a, aftK m, hat.ha, fun u => ⟨_, ?_, rfl, fun i acc R' => R' = put R a (.raw u) ∧ acc = (List.range i).flatMap fun p => (aftN m p).map (stepD m p), ⟨rfl, rfl⟩, fun i acc R' _ h => by rw [h.1, put_same], ?_, ?_⟩⟩
  · obtain ⟨dx, fs, i1, _, i3, _⟩ := hat.ins
    exact ⟨dx, fs, by rw [put_ne hat.ra]; exact i1, i3⟩
  · rintro i k v acc R' hk ⟨rfl, rfl⟩
    rw [aftK_at] at hk
    cases hmi : m[i]? with
    | none => rw [hmi] at hk; cases hk
    | some e =>
      rw [hmi] at hk
      cases hk
      have ea : aftN m i = e.2 := by unfold aftN; rw [hmi]; rfl
      have hlt := (List.getElem?_eq_some_iff.mp hmi).1
      have hok := hm e (List.mem_of_getElem? hmi)
      have hsl := steps_len hm i
      have hmm : i * m.length ≤ 13 * 13 := Nat.mul_le_mul (by omega) (by omega)
      refine ⟨_, .inl ⟨rfl, fun j acc R2 => R2 = put R a (.raw u) ∧ acc = ((List.range i).flatMap fun p => (aftN m p).map (stepD m p)) ++ (e.2.take j).map (stepD m i), ⟨rfl, by simp⟩, ?_, ?_, ?_⟩⟩
      · rintro j acc R2 hj ⟨rfl, rfl⟩
        rw [List.length_append, List.length_map, List.length_take]
        omega
      · rintro j y acc R2 hy ⟨rfl, rfl⟩
        obtain ⟨n, rfl, hn, hni, hnt⟩ := take_step (c := fun n => D.int (n : Nat)) hy
        obtain ⟨e2, he2⟩ : ∃ e2 : Str × List Nat, m[n]? = some e2 := ⟨_, List.getElem?_eq_getElem (hok.1 n hn)⟩
        have er : rdN m n = e2.1 := by unfold rdN; rw [he2]; rfl
        obtain ⟨dx, fs, i1, i2, _, _⟩ := hat.ins
        refine ⟨_, ⟨dx, fs, by rw [put_ne hat.ra]; exact i1, i2⟩, _, sq_ref (by rw [put_ne hat.qa]; exact hat.hq), _, rfl, .str e2.1, atI_nat (by unfold rdD; rw [List.getElem?_map, he2]; rfl), rfl, ?_⟩
        rw [hnt, List.map_append, ← List.append_assoc]
        rw [← er]
        rfl
      · rintro acc R2 ⟨rfl, rfl⟩
        rw [List.length_map, List.take_length]
        refine ⟨rfl, ?_⟩
        rw [List.range_succ, List.flatMap_append, ← ea]
        simp
  · rintro acc R' ⟨rfl, rfl⟩
    rw [aftK_len]
    have e1 : put (put R a (RO.raw u)) a (RO.dK (aftK m)) = R := by rw [put_put, put_self hat.ha]
    rw [e1]
    have hsl := steps_len hm m.length
    have hmm : m.length * m.length ≤ 13 * 13 := Nat.mul_le_mul (by omega) (by omega)
    have hmem : ∀ y ∈ D.pys (stepsD m), ∃ p g, y = .tuple [.int (p : Nat), .int (g : Nat), .str (rdN m g)] := fun y hy => by
      rw [pys_map] at hy
      obtain ⟨x, hx, rfl⟩ := List.mem_map.mp hy
      obtain ⟨p, g, rfl⟩ := steps_mem hx
      exact ⟨p, g, py_step m p g⟩
    refine ⟨plains_of fun x hx => ?_, ?_, .inl fun y hy => ?_, by simp only [sizeLine]; omega, fun x hx => ?_, steps_pw hasc, fin qq⟩
    · obtain ⟨p, g, rfl⟩ := steps_mem hx
      rfl
    · intro y hy z hz
      obtain ⟨p, g, rfl⟩ := hmem y hy
      obtain ⟨p2, g2, rfl⟩ := hmem z hz
      simp [PySem.W.alike, PySem.W.alikeAll]
    · obtain ⟨p, g, rfl⟩ := hmem y hy
      exact ⟨_, _, rfl⟩
    · obtain ⟨p, g, rfl⟩ := steps_mem hx
      rw [py_step]
      simp [PyData.depth, PyData.depthAll]
end

end Law
end
section
set_option Elab.async false
set_option maxRecDepth 100000
set_option maxHeartbeats 4000000
set_option linter.all false
set_option autoImplicit false
namespace Law
open PySem PySem.Spec PyProof.Rows L2 DL TL TrA TrA.Tr
section
open PySem PySem.W PySem.Calls PyProof.Rows PySem.HandSPX PySem.LX
def iA_NoPattern : Arguments := { posonlyargs := [], args := [{ arg := "self", annotation := none, pos := ⟨4, 17, 4, 21⟩ }, { arg := "pattern", annotation := none, pos := ⟨4, 23, 4, 30⟩ }], vararg := none, kwonlyargs := [], kw_defaults := [], kwarg := none, defaults := [] }
def iB_NoPattern : List Stmt := [.Assign [.Attribute (.Name "self" ⟨5, 8, 5, 12⟩) "pattern" ⟨5, 8, 5, 20⟩] (.Name "pattern" ⟨5, 23, 5, 30⟩) ⟨5, 8, 5, 30⟩]
def iS_NoPattern : Scope := { kind := .function, names := [(PySem.Str.ofString "self", .local), (PySem.Str.ofString "pattern", .local)], isGenerator := false, isCoroutine := false, more := [] }
theorem low_NoPattern {K : Frag} {mg : Str → Option Value} {C fI : Addr} {nm q : Str} {N : Addr} {bs : List Value} {sn : List Str} {sub : List Value} {ab : Bool} {col : Option Bool} {dd : Option Addr} {k0 k1 k2 k3 k5 : Option Value} {oc : Value} {od : Option Addr} {doc pm : Value} {an : Option Addr} {cdv ct : Value} {osl : Array (Option Value)}
    (aC : mg "NoPattern" = some (.ref C)) (hC : K.lookup C = some (excClassObj nm q C N bs [.type "ValueError", .type "Exception", .type "BaseException", .type "object"] true sn sub ab col dd k0 k1 k2 k3 k5 "ValueError.__new__"))
    (sa : findIn K (.ref C) "__setattr__" = some (some (.builtin "object.__setattr__"))) (ga : findIn K (.ref C) "__getattribute__" = some (some (.builtin "BaseException.__getattribute__"))) (gg : findIn K (.ref C) "__getattr__" = some none) (noN : findIn K (.ref C) "pattern" = some none)
    (iC : findIn K (.ref C) "__init__" = some (some (.ref fI))) (tC : typeIn K (.ref fI) = some (.type "function"))
    (ho : K.lookup fI = some ⟨oc, od, .func (fnOf "__init__" "NoPattern.__init__" iA_NoPattern iB_NoPattern iS_NoPattern .none .none doc pm an cdv ct), osl⟩) (hcd : codeIn K cdv "NoPattern.__init__" = true)
    (kC : keepIn K (.ref C) = true) (exC : subIn K (.ref C) (.type "BaseException") = some true) (tyC : typeIn K (.ref C) = some (.type "type")) (hdC : hasDictIn K C = true) (icC : isClsIn K C = true) (sC : subIn K (.ref C) (.ref C) = some true) : PySem.LX.Low K mg "NoPattern" "pattern" C := by
  have hcl : clsIn K C = some { name := nm, bases := bs, mro := .ref C :: [.type "ValueError", .type "Exception", .type "BaseException", .type "object"], ns := N, qualname := q, hasDict := true, slotNames := sn, subclasses := sub, abstract := ab, collection := col, hasDel := false } := by unfold clsIn; rw [hC] <;> rfl
  have init : ∀ (prog : Program) (w : World) (A : Around) (R : Result → Shared → Prop) (s : Shared) (x t0 : Addr) (v : Value), K.In s.heap → s.heap.NoLimit → s.heap.get? x = some (excO C t0) → A.depth < recursionLimit →
      (∀ h' tk dx, InitEnd s.heap h' x C dx t0 "pattern" v → R (.ok (.ret .none)) { s with heap := h', toks := tk }) → codeAny (model prog w) A (.call (.ref fI) ⟨[.ref x, v], []⟩) R s := by
    intro prog w A R s x t0 v X hlim hx hroom hq
    refine Att.call_fn (binds := [("self", .ref x), ("pattern", v)]) X hlim ho hcd hroom (BindsTo.of_eq (by first | rfl | with_unfolding_all rfl)) (by first | rfl | decide | with_unfolding_all rfl) (fun s₁ IC => ?_) rfl rfl rfl
    obtain ⟨h₁, tk₁, rfl⟩ := IC.toInCall.same
    have k : ∀ b o, s.heap.get? b = some o → h₁.get? b = some o := IC.toInCall.keep
    have hn := IC.toInCall.ns
    have X₁ : K.In h₁ := X.keeps k
    have hx₁ := k _ _ hx
    show wpAny _ _ (execs _ _) _ _ _
    refine wpAny_execs_cons (plainObj_wpAny_Assign_Attribute ?_)
    refine ldC (v := v) hn (by first | rfl | with_unfolding_all rfl | kernel_rfl) (ldC (v := .ref x) hn (by first | rfl | with_unfolding_all rfl | kernel_rfl) ?_)
    refine set_plain X₁ (ox := excO C t0) (od := none) ⟨hx₁, rfl, rfl, trivial⟩ sa ?_
    refine PySem.LX.exc_osa X₁ hx₁ hcl rfl F.store_ValueError.passes (by decide +kernel) rfl noN (fun h₃ tk₃ dx k₃ dn dne hx₃ hn₃ => ?_)
    show wpAny _ _ (execs _ _) _ _ _
    have z : s.heap.objs.size < h₁.objs.size := hn.lt
    exact wpAny_execs_nil (hq h₃ tk₃ dx ⟨fun b o hb e => k₃ b o hb (k b o e), hx₃, Nat.le_of_lt (Nat.lt_of_lt_of_le z dn), dne, hn₃⟩)
  refine { gC := aC, ga := ga, gg := gg, noN := noN, kC := kC, exC := exC, tyC := tyC, hdC := hdC, te := exm_self exC icC tyC sC, made := ?_ }
  intro prog w A R s v X hlim hroom hq
  obtain ⟨hp, g, dr, tk, os⟩ := s
  have k : ∀ b o, hp.get? b = some o → ((hp.push (kdv_tup [v])).push (excO C hp.objs.size)).get? b = some o := fun b o e => Heap.get?_push_of_some _ (Heap.get?_push_of_some _ e)
  have hget : ((hp.push (kdv_tup [v])).push (excO C hp.objs.size)).get? (hp.objs.size + 1) = some (excO C hp.objs.size) := by heap_get
  refine call_own F.excBase_ValueError (fun X => rfl) (X _ _ hC) (looks_findIn X iC) (fun self => bind_fn X self tC) (one_size v) ?_
  refine init _ _ _ _ ⟨(hp.push (kdv_tup [v])).push (excO C hp.objs.size), g, dr, tk, os⟩ _ _ _ (X.keeps k) (hlim.keeps k) hget ?_ fun h' tk' dx ⟨k', hx, dn, dne, hns⟩ => ?_
  · show A.depth + 1 < recursionLimit
    exact hroom
  · have old : ∀ b o, hp.get? b = some o → h'.get? b = some o := fun b o e => k' b o (Nat.ne_of_lt (Nat.lt_succ_of_lt (Heap.lt_size e))) (k b o e)
    have z : hp.objs.size + 1 + 1 ≤ dx := by
      first
        | (simpa only [Heap.size_push] using dn)
        | exact dn
        | (have q := dn; rw [Heap.size_push, Heap.size_push] at q; exact q)
    exact ⟨rfl, hq h' tk' (hp.objs.size + 1) dx ⟨old, Nat.le_succ _, ⟨_, _, hx, rfl, rfl, rfl, rfl, rfl, (by decide : (4 : Nat) < 6)⟩, Nat.le_trans (Nat.le_trans (Nat.le_succ _) (Nat.le_succ _)) z, dne, hns⟩⟩
end

section
variable [TabCtx] {P : Program} {w : World} {K : KB} {mg : Str → Option Value} {base : Heap} {f : Addr} {fd : FuncData} {plC pC : Addr}
abbrev s_check_pattern : Stmt := top 15
abbrev n_check_pattern : List Str := ["pattern", "known", "classes", "name"]
theorem sc_check_pattern : FnScope n_check_pattern ["pattern", "known"] (defScope s_check_pattern) := ⟨rfl, rfl, rfl, by decide +kernel, rfl, by decide +kernel, by decide +kernel⟩
def spChk (pC : Addr) : DSp := fun ds R Q E => ∃ d : D, ds = [d, .tup []] ∧ gdB d = true ∧ (patB d = false → E (.ref pC) [("pattern", d)] R) ∧ (patB d = true → Q .non R)
theorem bind_chk (kV doc pm : Value) (an : Option Addr) (cdv ct : Value) : ∀ us rest : List Value, us.length = (["pattern"] : List Str).length → bindArgs (PySem.W.fnOf "check_pattern" "check_pattern" (defArgs s_check_pattern) (defBody s_check_pattern) (defScope s_check_pattern) .none kV doc pm an cdv ct) ⟨us ++ rest, []⟩ = (newTuple rest >>= fun t => pure ((["pattern"] : List Str).zip us ++ [(("known" : Str), t)])) :=
  StX.bind_star1 (B := fun vs => bindArgs (PySem.W.fnOf "check_pattern" "check_pattern" (defArgs s_check_pattern) (defBody s_check_pattern) (defScope s_check_pattern) .none kV doc pm an cdv ct) ⟨vs, []⟩) (fun _ => rfl) (fun _ _ _ => rfl)
theorem ok_chk (F : Fun K "check_pattern" "check_pattern" s_check_pattern f fd) (Z : Blt mg bl) (x_NoPattern : PySem.LX.Low K mg "NoPattern" "pattern" pC) (c_is_pattern : Cal P w K mg base 10 "is_pattern" spPat) (c_classes_in : Cal P w K mg base 9 "classes_in" (spCls 7)) : FnSt P w K mg base (L2.CX P w) 11 f (spOf K (starD 1 (spChk pC))) := by
  refine okXS F (ps := ["pattern"]) (pv := "known") sc_check_pattern bind_chk fun cdv A outer s H E Ed gd hr tk => ?_
  refine ⟨_, (dss_cut (ds_if (dt_not (dt_val (de_c c_is_pattern gd hr (by omega) (by rfl) (da_cons (dv 0) da_nil)))) (dss_one (ds_raise rfl x_NoPattern hr tk (da_cons (dv 0) da_nil) (by rfl))) dss_nil)
    (dss_one (ds_for (passes_of rfl) rfl (di_tup (dv 1)) (dg_name (i := 2) sc_check_pattern.nd rfl (.inr rfl)) (dss_one (ds_if (dt_not (dt_val (de_callB (cd_all rfl) (by rfl) (Z _ (by decide)) bt_all (da_cons (de_lcF (own := [("name", 3)]) rfl sc_check_pattern.nd (lcd (di_list (de_c c_classes_in gd hr (by omega) (by rfl) (da_cons (dv 0) da_nil))) (blkOk_by (N := n_check_pattern) (sc := defScope s_check_pattern) (by decide +kernel)) (fun _ _ _ _ _ => (dgw_name (i := 3) sc_check_pattern.nd rfl (.inl rfl))) (fun _ _ _ _ _ => dts_nil) (fun _ _ _ _ _ => (de_cmp (od_inD (DL.Room.c65 hr)) (dv 3) (dv 2) (by with_unfolding_all rfl))))) da_nil)))) (dss_one (ds_raise rfl x_NoPattern hr tk (da_cons (dv 0) da_nil) (by rfl))) dss_nil))))), fun ds R Qd h => ?_⟩
  obtain ⟨d, rfl, hd, qE, q⟩ := h
  refine (show dCut _ _ _ _ _ from ?_)
  refine ⟨fun s' R' => R' = R ∧ patB d = true ∧ ∃ j1 j2, s' = [some d, some (.tup []), j1, j2], ?_, ?_⟩
  · simp only [dSeq, dGetK, rdInK, dGetT, dInT, rdSetK, dNewK, dDcF, dDc2F, dIEnum, dIZip, dISeq, dStar, dCont, dBrk, dOrT, rdInC, dCallK, dCVal, dMeth, dFld, dSetF, dNewF, dNew0F, dDisp, dPairs, dGet2, dGIndex, DL.keyOf, DL.keysOf, dCallL, dLam, dJoin, dJs, dFmtS, dRepl, dRaise, dCallX, dDelTail, dAugL, dXF, dAsg, dIf, dIfS, dB, dAnd, dOr, dNot, dAndV, dOrV, dNotV, dChain, dOp, dUn, dVar, dC, rdI0, rdI, dCB, dCall, rd1, dCons, dNil, dgName, dgSub, dgTup, dgLst, dSortSet, dgCons, dgNil, rdSetL, dRet, dLst, dLstF, dTup, dDrop, dNext, dPar, dBM, dBM0, dSl, dPart, dNoPart, dstart, dwipe, List.map_cons, List.map_nil, List.length_cons, List.length_nil, List.replicate_succ, List.replicate_zero, List.cons_append, List.nil_append, List.set_cons_zero, List.set_cons_succ, List.getElem?_cons_zero, List.getElem?_cons_succ, Nat.reduceAdd, Nat.reduceSub, Option.some.injEq, D.int.injEq, D.bl.injEq, D.str.injEq, D.ref.injEq, D.ty.injEq, D.tup.injEq, D.lst.injEq, D.rls.injEq, RO.lst.injEq, List.cons.injEq, exists_and_left, exists_eq_left', exists_eq_left, and_true, true_and, put_same, put_put, at0, at1, at2, ix30, ix31, ix32, and_assoc, dLcF, dLc, dLcT, dIRng1, dIRng2, dIRng3, dIStr, dITup, dILst, dYes, if_true, Bool.false_eq_true, if_false, eqS_ii, neS_ii, eqS_ss, neS_ss, decide_eq_true_eq, sq_tup, sq_lst, sq_rls, lo_lst, lo_rls, tr_lst, isi_tt, isi_st, isi_nt, isi_bt, isi_it, isi_lt, isi_ts, isi_ss, isi_ns, isi_bs, isi_is, isi_ls, List.append_nil, sz0, sz1, sz2, sz3, sz4, sz5, sz6, sl0, sl1, sl2, ty_put, ty_str, lo_put, sq_put, tr_put, reduceCtorEq, false_and, and_false, exists_false, or_false, false_or, Bool.not_false, Bool.not_true, List.isEmpty_nil, List.isEmpty_cons, app1_empty]
    refine ⟨d, rfl, hd, _, rfl, ?_⟩
    cases hp : patB d with
    | false => exact iteT rfl (finX (qE hp))
    | true => exact iteF (by decide) ⟨rfl, rfl, _, rfl⟩
  rintro s1 R1 ⟨rfl, hp, j1, j2, rfl⟩
  simp only [dFor, dSeq, dGetK, rdInK, dGetT, dInT, rdSetK, dNewK, dDcF, dDc2F, dIEnum, dIZip, dISeq, dStar, dCont, dBrk, dOrT, rdInC, dCallK, dCVal, dMeth, dFld, dSetF, dNewF, dNew0F, dDisp, dPairs, dGet2, dGIndex, DL.keyOf, DL.keysOf, dCallL, dLam, dJoin, dJs, dFmtS, dRepl, dRaise, dCallX, dDelTail, dAugL, dXF, dAsg, dIf, dIfS, dB, dAnd, dOr, dNot, dAndV, dOrV, dNotV, dChain, dOp, dUn, dVar, dC, rdI0, rdI, dCB, dCall, rd1, dCons, dNil, dgName, dgSub, dgTup, dgLst, dSortSet, dgCons, dgNil, rdSetL, dRet, dLst, dLstF, dTup, dDrop, dNext, dPar, dBM, dBM0, dSl, dPart, dNoPart, dstart, dwipe, List.map_cons, List.map_nil, List.length_cons, List.length_nil, List.replicate_succ, List.replicate_zero, List.cons_append, List.nil_append, List.set_cons_zero, List.set_cons_succ, List.getElem?_cons_zero, List.getElem?_cons_succ, Nat.reduceAdd, Nat.reduceSub, Option.some.injEq, D.int.injEq, D.bl.injEq, D.str.injEq, D.ref.injEq, D.ty.injEq, D.tup.injEq, D.lst.injEq, D.rls.injEq, RO.lst.injEq, List.cons.injEq, exists_and_left, exists_eq_left', exists_eq_left, and_true, true_and, put_same, put_put, at0, at1, at2, ix30, ix31, ix32, and_assoc, dLcF, dLc, dLcT, dIRng1, dIRng2, dIRng3, dIStr, dITup, dILst, dYes, if_true, Bool.false_eq_true, if_false, eqS_ii, neS_ii, eqS_ss, neS_ss, decide_eq_true_eq, sq_tup, sq_lst, sq_rls, lo_lst, lo_rls, tr_lst, isi_tt, isi_st, isi_nt, isi_bt, isi_it, isi_lt, isi_ts, isi_ss, isi_ns, isi_bs, isi_is, isi_ls, List.append_nil, sz0, sz1, sz2, sz3, sz4, sz5, sz6, sl0, sl1, sl2, ty_put, ty_str, lo_put, sq_put, tr_put, reduceCtorEq, false_and, and_false, exists_false, or_false, false_or, Bool.not_false, Bool.not_true, List.isEmpty_nil, List.isEmpty_cons, app1_empty]
  exact ⟨fun i s' R' => R' = R1, rfl, fun _ _ _ _ _ => trivial, (fun i x s R h => by simp at h), fun s R e => by rw [e]; exact fin (q hp)⟩
theorem chk_ok {d : D} {R : Rs} {Q : DK} {E : DXK} (hd : gdB d = true) (qE : patB d = false → E (.ref pC) [("pattern", d)] R) (q : patB d = true → Q .non R) : starD 1 (spChk pC) [d] R Q E := ⟨[d], [], rfl, rfl, by simp [sizeLine], d, rfl, hd, qE, q⟩
theorem pat6 {d : D} (h : patB d = true) : isN 6 d = true ∧ (clsN 6 d).length ≤ 12 := by
  unfold patB at h
  rw [Bool.and_eq_true, decide_eq_true_eq] at h
  exact h
theorem PlOk.insA {R : Rs} {r : Addr} {d : D} {x : Str} (h : PlOk plC R r d) (hx : x ∉ (["read", "after", "starts", "ends"] : List Str)) : insAt R (.ref r) plC x := by
  obtain ⟨q, a, hat⟩ := h.at_
  exact hat.insA hx
theorem oth_new {R R' : Rs} {r : Addr} {o : RO} (h : ∀ x ro, put R r o x = some ro → x ≠ r → R' x = some ro) (h0 : R r = none) : ∀ a ro, R a = some ro → R' a = some ro := fun a ro e => by
  have hn : a ≠ r := by rintro rfl; rw [h0] at e; cases e
  exact h a ro (by rw [put_ne hn]; exact e) hn
abbrev s_steps : Stmt := top 17
abbrev n_steps : List Str := ["pattern"]
theorem sc_steps : FnScope n_steps ["pattern"] (defScope s_steps) := ⟨rfl, rfl, rfl, by decide +kernel, rfl, by decide +kernel, by decide +kernel⟩
def spStepsF (pC : Addr) : DSp := fun ds R Q E => ∃ d : D, ds = [d] ∧ gdB d = true ∧ (patB d = false → E (.ref pC) [("pattern", d)] R) ∧ (patB d = true → Q (.lst (stepsD (mchP d).1)) R)
theorem ok_stepsF (F : Fun K "steps" "steps" s_steps f fd) (Z : Blt mg bl) (c_check_pattern : CalS P w K mg base 11 "check_pattern" (starD 1 (spChk pC))) (n_Places : MakDX P w K mg base 17 "Places" plC (spPlInit plC)) (m_Places_steps : MetD P w K mg base 1 plC "steps" (spSteps plC)) : FnG P w K mg base (L2.CX P w) 19 f fd ["pattern"] (spOf K (spStepsF pC)) := by
  refine okX F sc_steps (fun ds R Q E h => by obtain ⟨d, rfl, _⟩ := h; rfl) fun cdv A outer s H E Ed gd hr tk => ?_
  refine ⟨_, (dss_cons (ds_expr (de_cS c_check_pattern gd hr (by omega) tk (by rfl) (da_cons (dv 0) da_nil)))
    (dss_one (ds_ret (de_meth0 m_Places_steps gd hr (by omega) (de_newR n_Places gd hr (by omega) tk (by rfl) (da_cons (dv 0) da_nil)))))), fun ds R Qd h => ?_⟩
  obtain ⟨d, rfl, hd, qE, q⟩ := h
  simp only [dSeq, dGetK, rdInK, dGetT, dInT, rdSetK, dNewK, dDcF, dDc2F, dIEnum, dIZip, dISeq, dStar, dCont, dBrk, dOrT, rdInC, dCallK, dCVal, dMeth, dFld, dSetF, dNewF, dNew0F, dDisp, dPairs, dGet2, dGIndex, DL.keyOf, DL.keysOf, dCallL, dLam, dJoin, dJs, dFmtS, dRepl, dRaise, dCallX, dDelTail, dAugL, dXF, dAsg, dIf, dIfS, dB, dAnd, dOr, dNot, dAndV, dOrV, dNotV, dChain, dOp, dUn, dVar, dC, rdI0, rdI, dCB, dCall, rd1, dCons, dNil, dgName, dgSub, dgTup, dgLst, dSortSet, dgCons, dgNil, rdSetL, dRet, dLst, dLstF, dTup, dDrop, dNext, dPar, dBM, dBM0, dSl, dPart, dNoPart, dstart, dwipe, List.map_cons, List.map_nil, List.length_cons, List.length_nil, List.replicate_succ, List.replicate_zero, List.cons_append, List.nil_append, List.set_cons_zero, List.set_cons_succ, List.getElem?_cons_zero, List.getElem?_cons_succ, Nat.reduceAdd, Nat.reduceSub, Option.some.injEq, D.int.injEq, D.bl.injEq, D.str.injEq, D.ref.injEq, D.ty.injEq, D.tup.injEq, D.lst.injEq, D.rls.injEq, RO.lst.injEq, List.cons.injEq, exists_and_left, exists_eq_left', exists_eq_left, and_true, true_and, put_same, put_put, at0, at1, at2, ix30, ix31, ix32, and_assoc, dLcF, dLc, dLcT, dIRng1, dIRng2, dIRng3, dIStr, dITup, dILst, dYes, if_true, Bool.false_eq_true, if_false, eqS_ii, neS_ii, eqS_ss, neS_ss, decide_eq_true_eq, sq_tup, sq_lst, sq_rls, lo_lst, lo_rls, tr_lst, isi_tt, isi_st, isi_nt, isi_bt, isi_it, isi_lt, isi_ts, isi_ss, isi_ns, isi_bs, isi_is, isi_ls, List.append_nil, sz0, sz1, sz2, sz3, sz4, sz5, sz6, sl0, sl1, sl2, ty_put, ty_str, lo_put, sq_put, tr_put, reduceCtorEq, false_and, and_false, exists_false, or_false, false_or, Bool.not_false, Bool.not_true, List.isEmpty_nil, List.isEmpty_cons, app1_empty, dNew]
  refine chk_ok hd (fun e => finX (qE e)) fun hp r dx hr0 => ?_
  obtain ⟨h6, hcl⟩ := pat6 hp
  refine ⟨r, dx, d, rfl, h6, hcl, put_same, fun R' ho ok => ⟨rfl, ok.insA (by decide +kernel), r, d, rfl, ok, h6, hcl, finS (oth_new ho hr0) (q hp)⟩⟩
abbrev s_ends : Stmt := top 18
abbrev n_ends : List Str := ["pattern"]
theorem sc_ends : FnScope n_ends ["pattern"] (defScope s_ends) := ⟨rfl, rfl, rfl, by decide +kernel, rfl, by decide +kernel, by decide +kernel⟩
def spEnds (pC : Addr) : DSp := fun ds R Q E => ∃ d : D, ds = [d] ∧ gdB d = true ∧ (patB d = false → E (.ref pC) [("pattern", d)] R) ∧ (patB d = true → Q (natD (mchP d).2.2) R)
theorem ok_ends (F : Fun K "ends" "ends" s_ends f fd) (Z : Blt mg bl) (cl_Places : Cls K plC) (na_Places_ends : NoAttr K plC "ends") (c_check_pattern : CalS P w K mg base 11 "check_pattern" (starD 1 (spChk pC))) (n_Places : MakDX P w K mg base 17 "Places" plC (spPlInit plC)) : FnG P w K mg base (L2.CX P w) 19 f fd ["pattern"] (spOf K (spEnds pC)) := by
  refine okX F sc_ends (fun ds R Q E h => by obtain ⟨d, rfl, _⟩ := h; rfl) fun cdv A outer s H E Ed gd hr tk => ?_
  refine ⟨_, (dss_cons (ds_expr (de_cS c_check_pattern gd hr (by omega) tk (by rfl) (da_cons (dv 0) da_nil)))
    (dss_one (ds_ret (de_callB cd_sortedI (by rfl) (Z _ (by decide)) bt_sorted (da_cons (de_fld cl_Places na_Places_ends (de_newR n_Places gd hr (by omega) tk (by rfl) (da_cons (dv 0) da_nil))) da_nil))))), fun ds R Qd h => ?_⟩
  obtain ⟨d, rfl, hd, qE, q⟩ := h
  simp only [dSeq, dGetK, rdInK, dGetT, dInT, rdSetK, dNewK, dDcF, dDc2F, dIEnum, dIZip, dISeq, dStar, dCont, dBrk, dOrT, rdInC, dCallK, dCVal, dMeth, dFld, dSetF, dNewF, dNew0F, dDisp, dPairs, dGet2, dGIndex, DL.keyOf, DL.keysOf, dCallL, dLam, dJoin, dJs, dFmtS, dRepl, dRaise, dCallX, dDelTail, dAugL, dXF, dAsg, dIf, dIfS, dB, dAnd, dOr, dNot, dAndV, dOrV, dNotV, dChain, dOp, dUn, dVar, dC, rdI0, rdI, dCB, dCall, rd1, dCons, dNil, dgName, dgSub, dgTup, dgLst, dSortSet, dgCons, dgNil, rdSetL, dRet, dLst, dLstF, dTup, dDrop, dNext, dPar, dBM, dBM0, dSl, dPart, dNoPart, dstart, dwipe, List.map_cons, List.map_nil, List.length_cons, List.length_nil, List.replicate_succ, List.replicate_zero, List.cons_append, List.nil_append, List.set_cons_zero, List.set_cons_succ, List.getElem?_cons_zero, List.getElem?_cons_succ, Nat.reduceAdd, Nat.reduceSub, Option.some.injEq, D.int.injEq, D.bl.injEq, D.str.injEq, D.ref.injEq, D.ty.injEq, D.tup.injEq, D.lst.injEq, D.rls.injEq, RO.lst.injEq, List.cons.injEq, exists_and_left, exists_eq_left', exists_eq_left, and_true, true_and, put_same, put_put, at0, at1, at2, ix30, ix31, ix32, and_assoc, dLcF, dLc, dLcT, dIRng1, dIRng2, dIRng3, dIStr, dITup, dILst, dYes, if_true, Bool.false_eq_true, if_false, eqS_ii, neS_ii, eqS_ss, neS_ss, decide_eq_true_eq, sq_tup, sq_lst, sq_rls, lo_lst, lo_rls, tr_lst, isi_tt, isi_st, isi_nt, isi_bt, isi_it, isi_lt, isi_ts, isi_ss, isi_ns, isi_bs, isi_is, isi_ls, List.append_nil, sz0, sz1, sz2, sz3, sz4, sz5, sz6, sl0, sl1, sl2, ty_put, ty_str, lo_put, sq_put, tr_put, reduceCtorEq, false_and, and_false, exists_false, or_false, false_or, Bool.not_false, Bool.not_true, List.isEmpty_nil, List.isEmpty_cons, app1_empty, dNew]
  refine chk_ok hd (fun e => finX (qE e)) fun hp r dx hr0 => ?_
  obtain ⟨h6, hcl⟩ := pat6 hp
  refine ⟨r, dx, d, rfl, h6, hcl, put_same, fun R' ho ok => ⟨rfl, _, ok.en, (mchP d).2.2.map (fun n => ((n : Nat) : Int)), by simp [lstOf, natD], ?_, fun ys hy hs => ?_⟩⟩
  · rw [List.length_map]
    have := (add_ok 6 h6 m00 m00_ok).zl
    have : (mchP d).2.2.length ≤ 12 := Nat.le_trans this hcl
    omega
  · have hz := (mch_asc h6).2.1
    have e : ys = (mchP d).2.2.map fun n => ((n : Nat) : Int) := by
      have hz2 : ((mchP d).2.2.map fun n => ((n : Nat) : Int)).Pairwise (· < ·) := by
        rw [List.pairwise_map]
        exact hz.imp fun h => by omega
      have hn : ys.Nodup := (hy.nodup_iff).mpr (hz2.imp fun h => by omega)
      have hlt : ys.Pairwise (· < ·) := (List.pairwise_and_iff.mpr ⟨hs, hn⟩).imp fun h => by have := h.1; have := h.2; omega
      exact asc_uniq hlt hz2 fun k => hy.mem_iff
    rw [e]
    have e2 : D.lst (((mchP d).2.2.map fun n => ((n : Nat) : Int)).map D.int) = natD (mchP d).2.2 := by unfold natD; rw [List.map_map]; rfl
    rw [e2]
    exact finS (oth_new ho hr0) (q hp)
abbrev s_matches : Stmt := top 19
abbrev n_matches : List Str := ["pattern", "row", "machine", "places", "name", "place"]
theorem sc_matches : FnScope n_matches ["pattern", "row"] (defScope s_matches) := ⟨rfl, rfl, rfl, by decide +kernel, rfl, by decide +kernel, by decide +kernel⟩
/-- where a row leads -/
def runP (m : Mch) (xs : List Str) : List Nat := xs.foldl (ledP m) [0]
def accP (d : D) (xs : List Str) : Bool := (runP (mchP d).1 xs).any fun p => decide (p ∈ (mchP d).2.2)
def strsOf : List D → Option (List Str)
  | [] => some []
  | .str x :: l => if nmB x then (strsOf l).map (x :: ·) else none
  | _ :: _ => none
theorem strsOf_map : ∀ {ys : List Str}, (∀ y ∈ ys, nmB y = true) → strsOf (ys.map D.str) = some ys
  | [], _ => rfl
  | y :: ys, h => by
    show (if nmB y then (strsOf (ys.map D.str)).map (y :: ·) else none) = _
    rw [if_pos (h y (by simp)), strsOf_map fun z hz => h z (by simp [hz])]
    rfl
theorem strsOf_none : ∀ {xs : List D}, xs.all nmD = false → strsOf xs = none
  | [], h => by cases h
  | .str x :: l, h => by
    have h : (nmB x && l.all nmD) = false := h
    show (if nmB x then (strsOf l).map (x :: ·) else none) = none
    cases hx : nmB x with
    | false => rfl
    | true =>
      rw [hx, Bool.true_and] at h
      rw [strsOf_none h]; rfl
  | .non :: _, _ => rfl
  | .bl _ :: _, _ => rfl
  | .int _ :: _, _ => rfl
  | .tup _ :: _, _ => rfl
  | .lst _ :: _, _ => rfl
  | .ref _ :: _, _ => rfl
  | .ty _ :: _, _ => rfl
  | .rls _ :: _, _ => rfl
  | .ins _ _ _ :: _, _ => rfl
  | .dK _ _ :: _, _ => rfl
  | .dT _ _ :: _, _ => rfl
  | .lam _ :: _, _ => rfl
theorem all_nmD : ∀ {xs : List D}, xs.all nmD = true → ∃ ys : List Str, xs = ys.map D.str ∧ ∀ y ∈ ys, nmB y = true
  | [], _ => ⟨[], rfl, fun _ h => by cases h⟩
  | x :: l, h => by
    rw [List.all_cons, Bool.and_eq_true] at h
    obtain ⟨ys, rfl, hys⟩ := all_nmD h.2
    have hx := h.1
    cases x with
    | str x => exact ⟨x :: ys, rfl, fun y hy => (List.mem_cons.mp hy).elim (fun e => e ▸ hx) (hys y)⟩
    | _ => cases hx
def matD (d : D) : D → Bool
  | .tup xs => match strsOf xs with
    | some [] => false
    | some ys => accP d ys
    | none => false
  | _ => false
theorem matD_no {d : D} {xs : List D} (h : xs.all nmD = false) : matD d (.tup xs) = false := by
  unfold matD
  simp only [strsOf_none h]
theorem matD_ok {d : D} {ys : List Str} (hne : ys ≠ []) (h : ∀ y ∈ ys, nmB y = true) : matD d (.tup (ys.map D.str)) = accP d ys := by
  unfold matD
  cases ys with
  | nil => exact (hne rfl).elim
  | cons y ys => simp only [strsOf_map h]
theorem led_lt {m : Mch} {ps : List Nat} {x : Str} : ∀ p ∈ ledP m ps x, p < m.length := fun p hp => List.mem_range.mp (List.mem_filter.mp hp).1
theorem run_lt {m : Mch} : ∀ (ys : List Str) (ps : List Nat), (∀ p ∈ ps, p < m.length) → ∀ p ∈ ys.foldl (ledP m) ps, p < m.length
  | [], ps, h => h
  | y :: ys, ps, _ => run_lt ys _ led_lt
theorem run_snoc {m : Mch} {ys : List Str} {y : Str} : runP m (ys ++ [y]) = ledP m (runP m ys) y := by unfold runP; rw [List.foldl_append]; rfl
theorem run_in {m : Mch} (h : 0 < m.length) (ys : List Str) : ∀ p ∈ runP m ys, p < m.length := run_lt ys [0] fun p hp => by rw [List.mem_singleton.mp hp]; exact h
theorem run_len {m : Mch} (ys : List Str) : (runP m ys).length ≤ m.length + 1 := by
  by_cases h : ys = []
  · subst h; exact Nat.le_add_left 1 _
  · obtain ⟨l, y, rfl⟩ : ∃ l y, ys = l ++ [y] := ⟨_, _, (List.dropLast_concat_getLast h).symm⟩
    rw [run_snoc]
    exact Nat.le_trans (upS_len _ _) (Nat.le_succ _)
def spMat (pC : Addr) : DSp := fun ds R Q E => ∃ d e : D, ds = [d, e] ∧ gdB d = true ∧ gdB e = true ∧ (patB d = false → E (.ref pC) [("pattern", d)] R) ∧ (patB d = true → Q (.bl (matD d e)) R)
theorem ok_mat (F : Fun K "matches" "matches" s_matches f fd) (Z : Blt mg bl) (cl_Places : Cls K plC) (na_Places_ends : NoAttr K plC "ends") (c_check_pattern : CalS P w K mg base 11 "check_pattern" (starD 1 (spChk pC))) (c_is_class_name : Cal P w K mg base 1 "is_class_name" spIsName) (n_Places : MakDX P w K mg base 17 "Places" plC (spPlInit plC)) (m_Places_led_on : MetD P w K mg base 1 plC "led_on" (spLed plC)) : FnG P w K mg base (L2.CX P w) 19 f fd ["pattern", "row"] (spOf K (spMat pC)) := by
  refine okX F sc_matches (fun ds R Q E h => by obtain ⟨d, e, rfl, _⟩ := h; rfl) fun cdv A outer s H E Ed gd hr tk => ?_
  refine ⟨_, (dss_cut (ds_expr (de_cS c_check_pattern gd hr (by omega) tk (by rfl) (da_cons (dv 0) da_nil)))
    (dss_cut (ds_if (dw_or (dt_not (dt_val (de_callB cd_isi (by rfl) (Z _ (by decide)) bt_isi (da_cons (dv 1) (da_cons (de_ty (by rfl) (Z _ (by decide)) bt_tuple) da_nil))))) (dw_or (dt_cmp (od_eqNilT (DL.Room.cl hr)) (dv 1) (de_tup da_nil) (nomark _)) (dw_or1 (dt_not (dt_val (de_callB (cd_all rfl) (by rfl) (Z _ (by decide)) bt_all (da_cons (de_lcF (own := [("name", 4)]) rfl sc_matches.nd (lcd (di_tup (dv 1)) (blkOk_by (N := n_matches) (sc := defScope s_matches) (by decide +kernel)) (fun _ _ _ _ _ => (dgw_name (i := 4) sc_matches.nd rfl (.inl rfl))) (fun _ _ _ _ _ => dts_nil) (fun _ _ _ _ _ => (de_c c_is_class_name gd hr (by omega) (by rfl) (da_cons (dv 4) da_nil))))) da_nil))))))).dt (dss_one (ds_ret de_bl)) dss_nil)
    (dss_cut (ds_asg (de_newR n_Places gd hr (by omega) tk (by rfl) (da_cons (dv 0) da_nil)) (dg_name (i := 2) sc_matches.nd rfl (.inr rfl)))
    (dss_cut (ds_asg (de_lstF (da_cons de_int da_nil)) (dg_name (i := 3) sc_matches.nd rfl (.inl rfl)))
    (dss_cut (ds_for (passes_of rfl) rfl (di_tup (dv 1)) (dg_name (i := 4) sc_matches.nd rfl (.inl rfl)) (dss_one (ds_asg (de_meth m_Places_led_on gd hr (by omega) (dv 2) (da_cons (dv 3) (da_cons (dv 4) da_nil))) (dg_name (i := 3) sc_matches.nd rfl (.inl rfl)))))
    (dss_one (ds_ret (de_callB (cd_any rfl) (by rfl) (Z _ (by decide)) bt_any (da_cons (de_lcF (own := [("place", 5)]) rfl sc_matches.nd (lcd (di_list (dv 3)) (blkOk_by (N := n_matches) (sc := defScope s_matches) (by decide +kernel)) (fun _ _ _ _ _ => (dgw_name (i := 5) sc_matches.nd rfl (.inl rfl))) (fun _ _ _ _ _ => dts_nil) (fun _ _ _ _ _ => (de_cmp od_inI (dv 5) (de_fld cl_Places na_Places_ends (dv 2)) (by with_unfolding_all rfl))))) da_nil))))))))), fun ds R Qd h => ?_⟩
  obtain ⟨d, e, rfl, hd, he, qE, q⟩ := h
  refine (show dCut _ _ _ _ _ from ?_)
  refine ⟨fun s' R' => R' = R ∧ patB d = true ∧ s' = [some d, some e, none, none, none, none], ?_, ?_⟩
  · simp only [dSeq, dGetK, rdInK, dGetT, dInT, rdSetK, dNewK, dDcF, dDc2F, dIEnum, dIZip, dISeq, dStar, dCont, dBrk, dOrT, rdInC, dCallK, dCVal, dMeth, dFld, dSetF, dNewF, dNew0F, dDisp, dPairs, dGet2, dGIndex, DL.keyOf, DL.keysOf, dCallL, dLam, dJoin, dJs, dFmtS, dRepl, dRaise, dCallX, dDelTail, dAugL, dXF, dAsg, dIf, dIfS, dB, dAnd, dOr, dNot, dAndV, dOrV, dNotV, dChain, dOp, dUn, dVar, dC, rdI0, rdI, dCB, dCall, rd1, dCons, dNil, dgName, dgSub, dgTup, dgLst, dSortSet, dgCons, dgNil, rdSetL, dRet, dLst, dLstF, dTup, dDrop, dNext, dPar, dBM, dBM0, dSl, dPart, dNoPart, dstart, dwipe, List.map_cons, List.map_nil, List.length_cons, List.length_nil, List.replicate_succ, List.replicate_zero, List.cons_append, List.nil_append, List.set_cons_zero, List.set_cons_succ, List.getElem?_cons_zero, List.getElem?_cons_succ, Nat.reduceAdd, Nat.reduceSub, Option.some.injEq, D.int.injEq, D.bl.injEq, D.str.injEq, D.ref.injEq, D.ty.injEq, D.tup.injEq, D.lst.injEq, D.rls.injEq, RO.lst.injEq, List.cons.injEq, exists_and_left, exists_eq_left', exists_eq_left, and_true, true_and, put_same, put_put, at0, at1, at2, ix30, ix31, ix32, and_assoc, dLcF, dLc, dLcT, dIRng1, dIRng2, dIRng3, dIStr, dITup, dILst, dYes, if_true, Bool.false_eq_true, if_false, eqS_ii, neS_ii, eqS_ss, neS_ss, decide_eq_true_eq, sq_tup, sq_lst, sq_rls, lo_lst, lo_rls, tr_lst, isi_tt, isi_st, isi_nt, isi_bt, isi_it, isi_lt, isi_ts, isi_ss, isi_ns, isi_bs, isi_is, isi_ls, List.append_nil, sz0, sz1, sz2, sz3, sz4, sz5, sz6, sl0, sl1, sl2, ty_put, ty_str, lo_put, sq_put, tr_put, reduceCtorEq, false_and, and_false, exists_false, or_false, false_or, Bool.not_false, Bool.not_true, List.isEmpty_nil, List.isEmpty_cons, app1_empty, dNew, rdInI]
    exact chk_ok hd (fun e => finX (qE e)) fun hp => ⟨rfl, hp⟩
  rintro s1 R1 ⟨rfl, hp, rfl⟩
  have q := q hp
  obtain ⟨h6, hcl⟩ := pat6 hp
  refine (show dCut _ _ _ _ _ from ?_)
  refine ⟨fun s' R' => R' = R1 ∧ (∃ ys : List Str, ys ≠ [] ∧ (∀ y ∈ ys, nmB y = true) ∧ ys.length ≤ 1000 ∧ e = .tup (ys.map D.str)) ∧ s' = [some d, some e, none, none, none, none], ?_, ?_⟩
  · simp only [dSeq, dGetK, rdInK, dGetT, dInT, rdSetK, dNewK, dDcF, dDc2F, dIEnum, dIZip, dISeq, dStar, dCont, dBrk, dOrT, rdInC, dCallK, dCVal, dMeth, dFld, dSetF, dNewF, dNew0F, dDisp, dPairs, dGet2, dGIndex, DL.keyOf, DL.keysOf, dCallL, dLam, dJoin, dJs, dFmtS, dRepl, dRaise, dCallX, dDelTail, dAugL, dXF, dAsg, dIf, dIfS, dB, dAnd, dOr, dNot, dAndV, dOrV, dNotV, dChain, dOp, dUn, dVar, dC, rdI0, rdI, dCB, dCall, rd1, dCons, dNil, dgName, dgSub, dgTup, dgLst, dSortSet, dgCons, dgNil, rdSetL, dRet, dLst, dLstF, dTup, dDrop, dNext, dPar, dBM, dBM0, dSl, dPart, dNoPart, dstart, dwipe, List.map_cons, List.map_nil, List.length_cons, List.length_nil, List.replicate_succ, List.replicate_zero, List.cons_append, List.nil_append, List.set_cons_zero, List.set_cons_succ, List.getElem?_cons_zero, List.getElem?_cons_succ, Nat.reduceAdd, Nat.reduceSub, Option.some.injEq, D.int.injEq, D.bl.injEq, D.str.injEq, D.ref.injEq, D.ty.injEq, D.tup.injEq, D.lst.injEq, D.rls.injEq, RO.lst.injEq, List.cons.injEq, exists_and_left, exists_eq_left', exists_eq_left, and_true, true_and, put_same, put_put, at0, at1, at2, ix30, ix31, ix32, and_assoc, dLcF, dLc, dLcT, dIRng1, dIRng2, dIRng3, dIStr, dITup, dILst, dYes, if_true, Bool.false_eq_true, if_false, eqS_ii, neS_ii, eqS_ss, neS_ss, decide_eq_true_eq, sq_tup, sq_lst, sq_rls, lo_lst, lo_rls, tr_lst, isi_tt, isi_st, isi_nt, isi_bt, isi_it, isi_lt, isi_ts, isi_ss, isi_ns, isi_bs, isi_is, isi_ls, List.append_nil, sz0, sz1, sz2, sz3, sz4, sz5, sz6, sl0, sl1, sl2, ty_put, ty_str, lo_put, sq_put, tr_put, reduceCtorEq, false_and, and_false, exists_false, or_false, false_or, Bool.not_false, Bool.not_true, List.isEmpty_nil, List.isEmpty_cons, app1_empty, dNew, rdInI, isi_tup he]
    cases e with
    | tup xs =>
      have hl := gd_len he
      have hg := gd_tup he
      refine iteF (by simp [isTup]) ⟨xs, rfl, rfl, _, rfl, ?_⟩
      by_cases hx : xs = []
      · subst hx
        exact iteT rfl (fin q)
      refine iteF (by simpa using hx) ⟨xs, rfl, by simp only [sizeLine]; omega, PvM xs (fun d => .bl (nmD d)) R1, ⟨rfl, rfl⟩, fun _ _ _ _ _ => trivial, ?_, ?_⟩
      · rintro i x acc R' hx hlk ⟨rfl, rfl⟩
        exact ⟨x, rfl, gd_vk (hg x (List.mem_of_getElem? hx)), PvM.go (g := fun d => .bl (nmD d)) (by rw [List.take_add_one, hx]; rfl)⟩
      · rintro acc R' hlk hP
        obtain ⟨rfl, rfl⟩ := hP.end rfl
        refine ⟨xs.map nmD, by rw [List.map_map]; rfl, ?_⟩
        rw [List.all_map]
        show if (!xs.all nmD) = true then _ else _
        cases ha : xs.all nmD with
        | false =>
          rw [matD_no ha] at q
          exact iteT rfl (fin q)
        | true =>
          obtain ⟨ys, rfl, hys⟩ := all_nmD ha
          exact iteF (by decide) ⟨rfl, ys, fun e => hx (by rw [e]; rfl), hys, by simpa using hl, rfl⟩
    | _ => first | exact iteT rfl (fin q) | (simp [gdB] at he)
  rintro s2 R2 ⟨rfl, ⟨ys, hne, hys, hl, rfl⟩, rfl⟩
  rw [matD_ok hne hys] at q
  obtain ⟨hmo, hml⟩ := mch_ok h6
  refine (show dCut _ _ _ _ _ from ?_)
  refine ⟨fun s' R' => ∃ r, PlOk plC R' r d ∧ (∀ a ro, R2 a = some ro → R' a = some ro) ∧ s' = [some d, some (.tup (ys.map D.str)), some (.ref r), none, none, none], ?_, ?_⟩
  · simp only [dSeq, dGetK, rdInK, dGetT, dInT, rdSetK, dNewK, dDcF, dDc2F, dIEnum, dIZip, dISeq, dStar, dCont, dBrk, dOrT, rdInC, dCallK, dCVal, dMeth, dFld, dSetF, dNewF, dNew0F, dDisp, dPairs, dGet2, dGIndex, DL.keyOf, DL.keysOf, dCallL, dLam, dJoin, dJs, dFmtS, dRepl, dRaise, dCallX, dDelTail, dAugL, dXF, dAsg, dIf, dIfS, dB, dAnd, dOr, dNot, dAndV, dOrV, dNotV, dChain, dOp, dUn, dVar, dC, rdI0, rdI, dCB, dCall, rd1, dCons, dNil, dgName, dgSub, dgTup, dgLst, dSortSet, dgCons, dgNil, rdSetL, dRet, dLst, dLstF, dTup, dDrop, dNext, dPar, dBM, dBM0, dSl, dPart, dNoPart, dstart, dwipe, List.map_cons, List.map_nil, List.length_cons, List.length_nil, List.replicate_succ, List.replicate_zero, List.cons_append, List.nil_append, List.set_cons_zero, List.set_cons_succ, List.getElem?_cons_zero, List.getElem?_cons_succ, Nat.reduceAdd, Nat.reduceSub, Option.some.injEq, D.int.injEq, D.bl.injEq, D.str.injEq, D.ref.injEq, D.ty.injEq, D.tup.injEq, D.lst.injEq, D.rls.injEq, RO.lst.injEq, List.cons.injEq, exists_and_left, exists_eq_left', exists_eq_left, and_true, true_and, put_same, put_put, at0, at1, at2, ix30, ix31, ix32, and_assoc, dLcF, dLc, dLcT, dIRng1, dIRng2, dIRng3, dIStr, dITup, dILst, dYes, if_true, Bool.false_eq_true, if_false, eqS_ii, neS_ii, eqS_ss, neS_ss, decide_eq_true_eq, sq_tup, sq_lst, sq_rls, lo_lst, lo_rls, tr_lst, isi_tt, isi_st, isi_nt, isi_bt, isi_it, isi_lt, isi_ts, isi_ss, isi_ns, isi_bs, isi_is, isi_ls, List.append_nil, sz0, sz1, sz2, sz3, sz4, sz5, sz6, sl0, sl1, sl2, ty_put, ty_str, lo_put, sq_put, tr_put, reduceCtorEq, false_and, and_false, exists_false, or_false, false_or, Bool.not_false, Bool.not_true, List.isEmpty_nil, List.isEmpty_cons, app1_empty, dNew, rdInI]
    intro r dx hr0
    exact ⟨r, dx, d, rfl, h6, hcl, put_same, fun R' ho ok => ⟨rfl, r, ok, oth_new ho hr0, rfl⟩⟩
  rintro s3 R3 ⟨r, ok, ho, rfl⟩
  refine (show dCut _ _ _ _ _ from ?_)
  refine ⟨fun s' R' => R' = R3 ∧ s' = [some d, some (.tup (ys.map D.str)), some (.ref r), some (natD [0]), none, none], ?_, ?_⟩
  · simp only [dSeq, dGetK, rdInK, dGetT, dInT, rdSetK, dNewK, dDcF, dDc2F, dIEnum, dIZip, dISeq, dStar, dCont, dBrk, dOrT, rdInC, dCallK, dCVal, dMeth, dFld, dSetF, dNewF, dNew0F, dDisp, dPairs, dGet2, dGIndex, DL.keyOf, DL.keysOf, dCallL, dLam, dJoin, dJs, dFmtS, dRepl, dRaise, dCallX, dDelTail, dAugL, dXF, dAsg, dIf, dIfS, dB, dAnd, dOr, dNot, dAndV, dOrV, dNotV, dChain, dOp, dUn, dVar, dC, rdI0, rdI, dCB, dCall, rd1, dCons, dNil, dgName, dgSub, dgTup, dgLst, dSortSet, dgCons, dgNil, rdSetL, dRet, dLst, dLstF, dTup, dDrop, dNext, dPar, dBM, dBM0, dSl, dPart, dNoPart, dstart, dwipe, List.map_cons, List.map_nil, List.length_cons, List.length_nil, List.replicate_succ, List.replicate_zero, List.cons_append, List.nil_append, List.set_cons_zero, List.set_cons_succ, List.getElem?_cons_zero, List.getElem?_cons_succ, Nat.reduceAdd, Nat.reduceSub, Option.some.injEq, D.int.injEq, D.bl.injEq, D.str.injEq, D.ref.injEq, D.ty.injEq, D.tup.injEq, D.lst.injEq, D.rls.injEq, RO.lst.injEq, List.cons.injEq, exists_and_left, exists_eq_left', exists_eq_left, and_true, true_and, put_same, put_put, at0, at1, at2, ix30, ix31, ix32, and_assoc, dLcF, dLc, dLcT, dIRng1, dIRng2, dIRng3, dIStr, dITup, dILst, dYes, if_true, Bool.false_eq_true, if_false, eqS_ii, neS_ii, eqS_ss, neS_ss, decide_eq_true_eq, sq_tup, sq_lst, sq_rls, lo_lst, lo_rls, tr_lst, isi_tt, isi_st, isi_nt, isi_bt, isi_it, isi_lt, isi_ts, isi_ss, isi_ns, isi_bs, isi_is, isi_ls, List.append_nil, sz0, sz1, sz2, sz3, sz4, sz5, sz6, sl0, sl1, sl2, ty_put, ty_str, lo_put, sq_put, tr_put, reduceCtorEq, false_and, and_false, exists_false, or_false, false_or, Bool.not_false, Bool.not_true, List.isEmpty_nil, List.isEmpty_cons, app1_empty, dNew, rdInI]
    rfl
  rintro s4 R4 ⟨rfl, rfl⟩
  refine (show dCut _ _ _ _ _ from ?_)
  refine ⟨fun s' R' => R' = R4 ∧ ∃ j, s' = [some d, some (.tup (ys.map D.str)), some (.ref r), some (natD (runP (mchP d).1 ys)), j, none], ?_, ?_⟩
  · simp only [dFor, dSeq, dGetK, rdInK, dGetT, dInT, rdSetK, dNewK, dDcF, dDc2F, dIEnum, dIZip, dISeq, dStar, dCont, dBrk, dOrT, rdInC, dCallK, dCVal, dMeth, dFld, dSetF, dNewF, dNew0F, dDisp, dPairs, dGet2, dGIndex, DL.keyOf, DL.keysOf, dCallL, dLam, dJoin, dJs, dFmtS, dRepl, dRaise, dCallX, dDelTail, dAugL, dXF, dAsg, dIf, dIfS, dB, dAnd, dOr, dNot, dAndV, dOrV, dNotV, dChain, dOp, dUn, dVar, dC, rdI0, rdI, dCB, dCall, rd1, dCons, dNil, dgName, dgSub, dgTup, dgLst, dSortSet, dgCons, dgNil, rdSetL, dRet, dLst, dLstF, dTup, dDrop, dNext, dPar, dBM, dBM0, dSl, dPart, dNoPart, dstart, dwipe, List.map_cons, List.map_nil, List.length_cons, List.length_nil, List.replicate_succ, List.replicate_zero, List.cons_append, List.nil_append, List.set_cons_zero, List.set_cons_succ, List.getElem?_cons_zero, List.getElem?_cons_succ, Nat.reduceAdd, Nat.reduceSub, Option.some.injEq, D.int.injEq, D.bl.injEq, D.str.injEq, D.ref.injEq, D.ty.injEq, D.tup.injEq, D.lst.injEq, D.rls.injEq, RO.lst.injEq, List.cons.injEq, exists_and_left, exists_eq_left', exists_eq_left, and_true, true_and, put_same, put_put, at0, at1, at2, ix30, ix31, ix32, and_assoc, dLcF, dLc, dLcT, dIRng1, dIRng2, dIRng3, dIStr, dITup, dILst, dYes, if_true, Bool.false_eq_true, if_false, eqS_ii, neS_ii, eqS_ss, neS_ss, decide_eq_true_eq, sq_tup, sq_lst, sq_rls, lo_lst, lo_rls, tr_lst, isi_tt, isi_st, isi_nt, isi_bt, isi_it, isi_lt, isi_ts, isi_ss, isi_ns, isi_bs, isi_is, isi_ls, List.append_nil, sz0, sz1, sz2, sz3, sz4, sz5, sz6, sl0, sl1, sl2, ty_put, ty_str, lo_put, sq_put, tr_put, reduceCtorEq, false_and, and_false, exists_false, or_false, false_or, Bool.not_false, Bool.not_true, List.isEmpty_nil, List.isEmpty_cons, app1_empty, dNew, rdInI]
    refine ⟨fun i s' R' => R' = R4 ∧ ∃ j, s' = [some d, some (.tup (ys.map D.str)), some (.ref r), some (natD (runP (mchP d).1 (ys.take i))), j, none], ⟨rfl, _, rfl⟩, fun _ _ _ _ _ => trivial, ?_, ?_⟩
    · rintro i x s' R' hx ⟨rfl, j, rfl⟩
      obtain ⟨y, rfl, hy, hyi, hyt⟩ := take_step (c := D.str) hx
      refine ⟨.ref r, rfl, ok.insA (by decide +kernel), _, rfl, _, rfl, r, d, _, y, rfl, ok, h6, hcl, run_in (by omega) _, rfl, some (.str y), ?_⟩
      rw [hyt, run_snoc]
      rfl
    · rintro s' R' ⟨rfl, j, rfl⟩
      rw [List.length_map, List.take_length]
      exact ⟨rfl, j, rfl⟩
  rintro s5 R5 ⟨rfl, j, rfl⟩
  simp only [dSeq, dGetK, rdInK, dGetT, dInT, rdSetK, dNewK, dDcF, dDc2F, dIEnum, dIZip, dISeq, dStar, dCont, dBrk, dOrT, rdInC, dCallK, dCVal, dMeth, dFld, dSetF, dNewF, dNew0F, dDisp, dPairs, dGet2, dGIndex, DL.keyOf, DL.keysOf, dCallL, dLam, dJoin, dJs, dFmtS, dRepl, dRaise, dCallX, dDelTail, dAugL, dXF, dAsg, dIf, dIfS, dB, dAnd, dOr, dNot, dAndV, dOrV, dNotV, dChain, dOp, dUn, dVar, dC, rdI0, rdI, dCB, dCall, rd1, dCons, dNil, dgName, dgSub, dgTup, dgLst, dSortSet, dgCons, dgNil, rdSetL, dRet, dLst, dLstF, dTup, dDrop, dNext, dPar, dBM, dBM0, dSl, dPart, dNoPart, dstart, dwipe, List.map_cons, List.map_nil, List.length_cons, List.length_nil, List.replicate_succ, List.replicate_zero, List.cons_append, List.nil_append, List.set_cons_zero, List.set_cons_succ, List.getElem?_cons_zero, List.getElem?_cons_succ, Nat.reduceAdd, Nat.reduceSub, Option.some.injEq, D.int.injEq, D.bl.injEq, D.str.injEq, D.ref.injEq, D.ty.injEq, D.tup.injEq, D.lst.injEq, D.rls.injEq, RO.lst.injEq, List.cons.injEq, exists_and_left, exists_eq_left', exists_eq_left, and_true, true_and, put_same, put_put, at0, at1, at2, ix30, ix31, ix32, and_assoc, dLcF, dLc, dLcT, dIRng1, dIRng2, dIRng3, dIStr, dITup, dILst, dYes, if_true, Bool.false_eq_true, if_false, eqS_ii, neS_ii, eqS_ss, neS_ss, decide_eq_true_eq, sq_tup, sq_lst, sq_rls, lo_lst, lo_rls, tr_lst, isi_tt, isi_st, isi_nt, isi_bt, isi_it, isi_lt, isi_ts, isi_ss, isi_ns, isi_bs, isi_is, isi_ls, List.append_nil, sz0, sz1, sz2, sz3, sz4, sz5, sz6, sl0, sl1, sl2, ty_put, ty_str, lo_put, sq_put, tr_put, reduceCtorEq, false_and, and_false, exists_false, or_false, false_or, Bool.not_false, Bool.not_true, List.isEmpty_nil, List.isEmpty_cons, app1_empty, dNew, rdInI]
  have hrl := run_len (m := (mchP d).1) ys
  refine ⟨_, .inl ⟨rfl, by rw [List.length_map]; simp only [sizeLine]; omega, PvM (runP (mchP d).1 ys) (fun p => .bl (decide (p ∈ (mchP d).2.2))) R5, ⟨rfl, rfl⟩, fun _ _ _ _ _ => trivial, ?_, ?_⟩⟩
  · rintro i x acc R' hx hlk hP
    obtain ⟨p, rfl, hp, hpi, hpt⟩ := take_step (c := fun n => D.int (n : Nat)) hx
    obtain ⟨rfl, rfl⟩ := hP
    refine ⟨_, ok.en, _, rfl, (mchP d).2.2.map (fun n => ((n : Nat) : Int)), by simp [seqOf, natD], ?_⟩
    have e : decide (((p : Nat) : Int) ∈ (mchP d).2.2.map (fun n => ((n : Nat) : Int))) = decide (p ∈ (mchP d).2.2) := by
      refine decide_eq_decide.mpr ⟨fun h => ?_, fun h => List.mem_map.mpr ⟨p, h, rfl⟩⟩
      obtain ⟨n, hn, e⟩ := List.mem_map.mp h
      have : n = p := by omega
      exact this ▸ hn
    rw [e]
    exact PvM.go (g := fun p => .bl (decide (p ∈ (mchP d).2.2))) hpt
  · rintro acc R' hlk hP
    obtain ⟨rfl, rfl⟩ := hP.end (by rw [List.length_map])
    refine ⟨(runP (mchP d).1 ys).map fun p => decide (p ∈ (mchP d).2.2), by rw [List.map_map]; rfl, finS ho ?_⟩
    rw [List.any_map]
    exact q
end

end Law
end
section
set_option Elab.async false
set_option maxRecDepth 100000
set_option maxHeartbeats 4000000
set_option linter.all false
set_option autoImplicit false
namespace Law
open PySem PySem.Spec PyProof.Rows L2 DL TL TrA TrA.Tr
section
variable [TabCtx] {P : Program} {w : World} {K : KB} {mg : Str → Option Value} {base : Heap} {f : Addr} {fd : FuncData}
abbrev s_law_pattern : Stmt := top 24
abbrev n_law_pattern : List Str := ["_law_bag_here", "_law_names_here", "_law_deep", "_law_way", "_law_parts", "_law_turn"]
theorem sc_law_pattern : FnScope n_law_pattern ["_law_bag_here", "_law_names_here", "_law_deep"] (defScope s_law_pattern) := ⟨rfl, rfl, rfl, by decide +kernel, rfl, by decide +kernel, by decide +kernel⟩
theorem pow4 (k : Nat) : 4 ≤ 4 ^ (k + 1) := by
  have : 1 ≤ 4 ^ k := Nat.pow_pos (by decide)
  rw [Nat.pow_succ]; omega
def spPattern (n : Nat) : DSp := fun ds R Q _ => ∃ (b : Addr) (ns : List Str) (k m : Nat), ds = [.ref b, .lst (ns.map D.str), .int (k + 1 : Nat)] ∧ k < n ∧ k ≤ 5 ∧ Bag m R b ∧ m + 4 ^ (k + 1) ≤ 999900000 ∧ ns ≠ [] ∧ ns.length ≤ 26 ∧ (∀ x ∈ ns, nmB x = true) ∧ ∀ (d : D) (o : RO), isN (k + 1) d = true → (∀ x ∈ clsN (k + 1) d, x ∈ ns) → Bag (m + 4 ^ (k + 1)) (put R b o) b → Q d (put R b o)
def MPat (b : Addr) (ns : List Str) (k m : Nat) (R : Rs) (s' : DSt) (R' : Rs) : Prop := ∃ (way : Nat) (o : RO), way < 6 ∧ (way ≠ 0 → 1 ≤ k) ∧ Bag (m + 1) (put R b o) b ∧ R' = put R b o ∧ s' = [some (.ref b), some (.lst (ns.map D.str)), some (.int (k + 1 : Nat)), some (.int way), none, none]
def PPat (b : Addr) (ns : List Str) (k m : Nat) (R : Rs) (i : Nat) (acc : List D) (R' : Rs) : Prop := ∃ o : RO, acc.length = i ∧ (∀ d ∈ acc, isN (k + 1) d = true ∧ ∀ x ∈ clsN (k + 1) d, x ∈ ns) ∧ Bag (m + i * 4 ^ (k + 1)) (put R b o) b ∧ R' = put R b o
theorem step_pattern {n : Nat} (F : Fun K "_law_pattern" "_law_pattern" s_law_pattern f fd) (Z : Blt mg bl) (c_law_take : Cal P w K mg base 1 "_law_take" spTake) (c_law_pattern : Cal P w K mg base (n + 2) "_law_pattern" (spPattern n)) : FnG P w K mg base CX0 (n + 3) f fd ["_law_bag_here", "_law_names_here", "_law_deep"] (spOf K (spPattern (n + 1))) := by
  refine okD F sc_law_pattern (fun ds R Q E h => by obtain ⟨b, ns, k, m, rfl, _⟩ := h; rfl) fun cdv A outer s H E gd hr => ?_
  refine ⟨_, (dss_cut (ds_asg (de_if (dt_cmp od_gt (dv 2) de_int (nomark _)) (de_c c_law_take gd hr (by omega) (by rfl) (da_cons (dv 0) (da_cons de_int da_nil))) de_int) (dg_name (i := 3) sc_law_pattern.nd rfl (.inl rfl)))
    (dss_cons (ds_if (dt_cmp od_lt (dv 3) de_int (nomark _)) (dss_one (ds_ret (de_tup (da_cons de_str (da_cons (de_ix xd_seq (dv 1) (de_c c_law_take gd hr (by omega) (by rfl) (da_cons (dv 0) (da_cons (de_callB cd_len (by rfl) (Z _ (by decide)) bt_len (da_cons (dv 1) da_nil)) da_nil))) (fun _ _ => rfl)) da_nil))))) dss_nil)
    (dss_cons (ds_if (dt_cmp od_eqS (dv 3) de_int (nomark _)) (dss_one (ds_ret (de_tup (da_cons de_str (da_cons (de_c c_law_pattern gd hr (by omega) (by rfl) (da_cons (dv 0) (da_cons (dv 1) (da_cons (de_op od_sub (dv 2) de_int) da_nil)))) da_nil))))) dss_nil)
    (dss_cons (ds_setLcF (i := 4) (own := [("_law_turn", 5)]) rfl sc_law_pattern.nd rfl rfl (sw_true rfl rfl rfl (by decide +kernel)) (lcd (di_range1 (by rfl) (Z _ (by decide)) (de_op od_add de_int (de_callTy cd_intB (by rfl) (Z _ (by decide)) bt_int (da_cons (de_cmp od_eqS (de_c c_law_take gd hr (by omega) (by rfl) (da_cons (dv 0) (da_cons de_int da_nil))) de_int (nomark _)) da_nil)))) (blkOk_by (N := n_law_pattern) (sc := defScope s_law_pattern) (by decide +kernel)) (fun _ _ _ _ _ => (dgw_name (i := 5) sc_law_pattern.nd rfl (.inl rfl))) (fun _ _ _ _ _ => dts_nil) (fun _ _ _ _ _ => (de_c c_law_pattern gd hr (by omega) (by rfl) (da_cons (dv 0) (da_cons (dv 1) (da_cons (de_op od_sub (dv 2) de_int) da_nil)))))))
    (dss_one (ds_ret (de_tup (da_cons (de_ix xd_seq (de_lstF (da_cons de_str (da_cons de_str (da_cons de_str da_nil)))) (de_op od_sub (dv 3) de_int) (fun _ _ => rfl)) (da_cons (de_callTy cd_tuple (by rfl) (Z _ (by decide)) bt_tuple (da_cons (dv 4) da_nil)) da_nil))))))))), fun ds R Qd Ed h => ?_⟩
  obtain ⟨b, ns, k, m, rfl, hk, hk5, hB, hm, hne, hns, hnb, q⟩ := h
  have hp4 : 4 ^ (k + 1) ≤ 4 ^ 6 := Nat.pow_le_pow_right (by decide) (by omega)
  have e46 : 4 ^ 6 = 4096 := by decide
  have hp1 := pow4 k
  refine (show dCut _ _ _ _ _ from ?_)
  refine ⟨MPat b ns k m R, ?_, ?_⟩
  · simp only [dSeq, dGetK, rdInK, dGetT, dInT, rdSetK, dNewK, dDcF, dDc2F, dIEnum, dIZip, dISeq, dStar, dCont, dBrk, dOrT, rdInC, dCallK, dCVal, dMeth, dFld, dSetF, dNewF, dNew0F, dDisp, dPairs, dGet2, dGIndex, DL.keyOf, DL.keysOf, dCallL, dLam, dJoin, dJs, dFmtS, dRepl, dRaise, dCallX, dDelTail, dAugL, dXF, dAsg, dIf, dIfS, dB, dAnd, dOr, dNot, dAndV, dOrV, dNotV, dChain, dOp, dUn, dVar, dC, rdI0, rdI, dCB, dCall, rd1, dCons, dNil, dgName, dgSub, dgTup, dgLst, dSortSet, dgCons, dgNil, rdSetL, dRet, dLst, dLstF, dTup, dDrop, dNext, dPar, dBM, dBM0, dSl, dPart, dNoPart, dstart, dwipe, List.map_cons, List.map_nil, List.length_cons, List.length_nil, List.replicate_succ, List.replicate_zero, List.cons_append, List.nil_append, List.set_cons_zero, List.set_cons_succ, List.getElem?_cons_zero, List.getElem?_cons_succ, Nat.reduceAdd, Nat.reduceSub, Option.some.injEq, D.int.injEq, D.bl.injEq, D.str.injEq, D.ref.injEq, D.ty.injEq, D.tup.injEq, D.lst.injEq, D.rls.injEq, RO.lst.injEq, List.cons.injEq, exists_and_left, exists_eq_left', exists_eq_left, and_true, true_and, put_same, put_put, at0, at1, at2, ix30, ix31, ix32, and_assoc, dLcF, dLc, dLcT, dIRng1, dIRng2, dIRng3, dIStr, dITup, dILst, dYes, if_true, Bool.false_eq_true, if_false, eqS_ii, neS_ii, eqS_ss, neS_ss, decide_eq_true_eq, sq_tup, sq_lst, sq_rls, lo_lst, lo_rls, tr_lst, isi_tt, isi_st, isi_nt, isi_bt, isi_it, isi_lt, isi_ts, isi_ss, isi_ns, isi_bs, isi_is, isi_ls, List.append_nil, sz0, sz1, sz2, sz3, sz4, sz5, sz6, sl0, sl1, sl2, ty_put, ty_str, lo_put, sq_put, tr_put, reduceCtorEq, false_and, and_false, exists_false, or_false, false_or, Bool.not_false, Bool.not_true, List.isEmpty_nil, List.isEmpty_cons, app1_empty]
    by_cases hk0 : 1 ≤ k
    · refine iteT (by omega) (take_ok hB (by omega) (by decide) (by decide) fun v o h0 h1 hB1 => ?_)
      obtain ⟨v, rfl⟩ := Int.eq_ofNat_of_zero_le h0
      exact ⟨v, o, by omega, fun _ => hk0, hB1, rfl, rfl⟩
    · refine iteF (by omega) ?_
      obtain ⟨o, ho⟩ := hB.self
      exact ⟨0, o, by decide, fun z => (z rfl).elim, by rw [ho]; exact Bag.mono hB (by omega), ho.symm, rfl⟩
  rintro s1 R1 ⟨way, o, hw, hwk, hB1, rfl, rfl⟩
  simp only [dSeq, dGetK, rdInK, dGetT, dInT, rdSetK, dNewK, dDcF, dDc2F, dIEnum, dIZip, dISeq, dStar, dCont, dBrk, dOrT, rdInC, dCallK, dCVal, dMeth, dFld, dSetF, dNewF, dNew0F, dDisp, dPairs, dGet2, dGIndex, DL.keyOf, DL.keysOf, dCallL, dLam, dJoin, dJs, dFmtS, dRepl, dRaise, dCallX, dDelTail, dAugL, dXF, dAsg, dIf, dIfS, dB, dAnd, dOr, dNot, dAndV, dOrV, dNotV, dChain, dOp, dUn, dVar, dC, rdI0, rdI, dCB, dCall, rd1, dCons, dNil, dgName, dgSub, dgTup, dgLst, dSortSet, dgCons, dgNil, rdSetL, dRet, dLst, dLstF, dTup, dDrop, dNext, dPar, dBM, dBM0, dSl, dPart, dNoPart, dstart, dwipe, List.map_cons, List.map_nil, List.length_cons, List.length_nil, List.replicate_succ, List.replicate_zero, List.cons_append, List.nil_append, List.set_cons_zero, List.set_cons_succ, List.getElem?_cons_zero, List.getElem?_cons_succ, Nat.reduceAdd, Nat.reduceSub, Option.some.injEq, D.int.injEq, D.bl.injEq, D.str.injEq, D.ref.injEq, D.ty.injEq, D.tup.injEq, D.lst.injEq, D.rls.injEq, RO.lst.injEq, List.cons.injEq, exists_and_left, exists_eq_left', exists_eq_left, and_true, true_and, put_same, put_put, at0, at1, at2, ix30, ix31, ix32, and_assoc, dLcF, dLc, dLcT, dIRng1, dIRng2, dIRng3, dIStr, dITup, dILst, dYes, if_true, Bool.false_eq_true, if_false, eqS_ii, neS_ii, eqS_ss, neS_ss, decide_eq_true_eq, sq_tup, sq_lst, sq_rls, lo_lst, lo_rls, tr_lst, isi_tt, isi_st, isi_nt, isi_bt, isi_it, isi_lt, isi_ts, isi_ss, isi_ns, isi_bs, isi_is, isi_ls, List.append_nil, sz0, sz1, sz2, sz3, sz4, sz5, sz6, sl0, sl1, sl2, ty_put, ty_str, lo_put, sq_put, tr_put, reduceCtorEq, false_and, and_false, exists_false, or_false, false_or, Bool.not_false, Bool.not_true, List.isEmpty_nil, List.isEmpty_cons, app1_empty]
  have hl0 : 0 < ns.length := List.length_pos_iff.mpr hne
  by_cases hw2 : way < 2
  · refine iteT (by omega) ?_
    rw [List.length_map]
    refine take_ok hB1 (by omega) (by omega) (by omega) fun v o2 h0 h1 hB2 => ?_
    obtain ⟨a, ea, ma, _⟩ := at_lt (l := ns) h0 h1
    rw [put_put] at hB2 ⊢
    refine ⟨v, rfl, _, at_map D.str ea, fin (q _ o2 (by rw [isN_one]; exact hnb a ma) (fun x hx => ?_) (hB2.mono (by omega)))⟩
    rw [clsN_one, List.mem_singleton] at hx
    rw [hx]; exact ma
  refine iteF (by omega) ?_
  obtain ⟨k, rfl⟩ : ∃ j, k = j + 1 := ⟨k - 1, by have := hwk (by omega); omega⟩
  have hp2 : 4 ^ (k + 1 + 1) = 4 * 4 ^ (k + 1) := by rw [Nat.pow_succ 4 (k + 1), Nat.mul_comm]
  have hp3 := pow4 k
  by_cases hw3 : way = 2
  · refine iteT (by omega) ⟨b, ns, k, m + 1, by rw [show (((k + 1 + 1 : Nat) : Int) - 1) = ((k + 1 : Nat) : Int) by omega], by omega, by omega, hB1, by omega, hne, hns, hnb, fun d o2 hd hc hB2 => fin ?_⟩
    rw [put_put] at hB2 ⊢
    exact q _ o2 (by rw [isN_many]; exact hd) (by rw [clsN_many]; exact hc) (hB2.mono (by omega))
  refine iteF (by omega) (take_ok hB1 (by omega) (by decide) (by decide) fun v o2 h0 h1 hB2 => eqS_ii.mpr ⟨_, rfl, ?_⟩)
  rw [put_put] at hB2 ⊢
  obtain ⟨n1, en1, hn1, hn2⟩ : ∃ n1 : Nat, (2 + if decide (v = 0) = true then 1 else 0 : Int) = n1 ∧ 2 ≤ n1 ∧ n1 ≤ 3 := by
    by_cases hv : v = 0
    · exact ⟨3, by rw [if_pos (decide_eq_true hv)]; rfl, by decide, by decide⟩
    · exact ⟨2, by rw [if_neg (by simpa using hv)]; rfl, by decide, by decide⟩
  refine ⟨n1, en1, by omega, by rw [List.length_map, List.length_range]; simp only [sizeLine]; omega, PPat b ns k (m + 2) R, ⟨o2, rfl, by simp, hB2.mono (by omega), rfl⟩, fun _ _ _ _ _ => trivial, ?_, ?_⟩
  · rintro i x acc R' hx hlk ⟨o3, hl, hall, hB3, rfl⟩
    obtain ⟨rfl, hi⟩ := range_step hx
    have hi3 : i * 4 ^ (k + 1) ≤ 2 * 4 ^ (k + 1) := Nat.mul_le_mul_right _ (by omega)
    refine ⟨b, ns, k, m + 2 + i * 4 ^ (k + 1), by rw [show (((k + 1 + 1 : Nat) : Int) - 1) = ((k + 1 : Nat) : Int) by omega], by omega, by omega, hB3, by omega, hne, hns, hnb, fun d o4 hd hc hB4 => ⟨o4, by rw [List.length_append, hl]; rfl, fun y hy => ?_, ?_, by rw [put_put]⟩⟩
    · rcases List.mem_append.mp hy with z | z
      · exact hall y z
      · rw [List.mem_singleton.mp z]; exact ⟨hd, hc⟩
    · rw [put_put] at hB4
      rw [Nat.add_mul, Nat.one_mul, ← Nat.add_assoc]
      exact hB4
  · rintro acc R' hlk ⟨o3, hl, hall, hB3, rfl⟩
    rw [List.length_map, List.length_range] at hl hB3
    have hi3 : n1 * 4 ^ (k + 1) ≤ 3 * 4 ^ (k + 1) := Nat.mul_le_mul_right _ hn2
    have hB5 : Bag (m + 4 ^ (k + 1 + 1)) (put R b o3) b := hB3.mono (by omega)
    have hcl : ∀ x ∈ acc.flatMap (clsN (k + 1)), x ∈ ns := fun x hx => by
      obtain ⟨d, hd, hx⟩ := List.mem_flatMap.mp hx
      exact (hall d hd).2 x hx
    have hal : (decide (2 ≤ acc.length) && decide (acc.length ≤ 4) && acc.all (isN (k + 1))) = true := by
      rw [decide_eq_true (by omega), decide_eq_true (by omega)]
      exact List.all_eq_true.mpr fun d hd => (hall d hd).1
    have hrow := fin (q (.tup [.str "row", .tup acc]) o3 (by rw [isN_row]; exact hal) (by rw [clsN_row]; exact hcl) hB5)
    have hany := fin (q (.tup [.str "any", .tup acc]) o3 (by rw [isN_any]; exact hal) (by rw [clsN_any]; exact hcl) hB5)
    rcases (by omega : way = 3 ∨ way = 4 ∨ way = 5) with rfl | rfl | rfl
    · exact ⟨_, rfl, hrow⟩
    · exact ⟨_, rfl, hany⟩
    · exact ⟨_, rfl, hrow⟩
theorem ok_pattern (F : Fun K "_law_pattern" "_law_pattern" s_law_pattern f fd) (Z : Blt mg bl) (c_law_take : Cal P w K mg base 1 "_law_take" spTake) (hm : mg "_law_pattern" = some (.ref f)) (bd : Binds K fd ["_law_bag_here", "_law_names_here", "_law_deep"] []) : ∀ n : Nat, FnG P w K mg base CX0 (n + 2) f fd ["_law_bag_here", "_law_names_here", "_law_deep"] (spOf K (spPattern n))
  | 0 => fnG_none fun ds R Q E ⟨b, ns, k, m, _, hk, _⟩ => by omega
  | n + 1 => step_pattern F Z c_law_take ⟨_, _, _, ok_pattern F Z c_law_take hm bd n, hm, F.kp, bd⟩
end

end Law
end
section
set_option Elab.async false
set_option maxRecDepth 100000
set_option maxHeartbeats 4000000
set_option linter.all false
set_option autoImplicit false
namespace Law
open PySem PySem.Spec PyProof.Rows L2 DL TL TrA TrA.Tr
section
variable [TabCtx]
/-! ### the language of a pattern, and that its places answer it (plain) -/
inductive Plus (L : List Str → Prop) : List Str → Prop
  | one {v : List Str} : L v → Plus L v
  | more {v w : List Str} : L v → Plus L w → Plus L (v ++ w)
def Cat (L M : List Str → Prop) (w : List Str) : Prop := ∃ u v, w = u ++ v ∧ L u ∧ M v
def RowL (L : D → List Str → Prop) : List D → List Str → Prop
  | [], w => w = []
  | p :: ps, w => Cat (L p) (RowL L ps) w
def Lang : Nat → D → List Str → Prop
  | 0, _, _ => False
  | k + 1, d, w => match d with
    | .tup [.str x, e] => if x = "one" then (match e with | .str y => w = [y] | _ => False)
      else if x = "any" then (match e with | .tup ps => ∃ p ∈ ps, Lang k p w | _ => False)
      else if x = "row" then (match e with | .tup ps => RowL (Lang k) ps w | _ => False)
      else Plus (Lang k e) w
    | _ => False
theorem lang_s {k : Nat} {x : Str} {e : D} {w : List Str} : Lang (k + 1) (.tup [.str x, e]) w = if x = "one" then (match e with | .str y => w = [y] | _ => False)
      else if x = "any" then (match e with | .tup ps => ∃ p ∈ ps, Lang k p w | _ => False)
      else if x = "row" then (match e with | .tup ps => RowL (Lang k) ps w | _ => False)
      else Plus (Lang k e) w := rfl
theorem lang_one {k : Nat} {y : Str} {w : List Str} : Lang (k + 1) (.tup [.str "one", .str y]) w = (w = [y]) := by rw [lang_s, if_pos rfl]
theorem lang_any {k : Nat} {ps : List D} {w : List Str} : Lang (k + 1) (.tup [.str "any", .tup ps]) w = ∃ p ∈ ps, Lang k p w := by rw [lang_s, if_neg (by decide +kernel), if_pos rfl]
theorem lang_row {k : Nat} {ps : List D} {w : List Str} : Lang (k + 1) (.tup [.str "row", .tup ps]) w = RowL (Lang k) ps w := by rw [lang_s, if_neg (by decide +kernel), if_neg (by decide +kernel), if_pos rfl]
theorem lang_many {k : Nat} {e : D} {w : List Str} : Lang (k + 1) (.tup [.str "many", e]) w = Plus (Lang k e) w := by rw [lang_s, if_neg (by decide +kernel), if_neg (by decide +kernel), if_neg (by decide +kernel)]
theorem Plus.cut {L : List Str → Prop} {w : List Str} (h : Plus L w) : ∃ v r, w = v ++ r ∧ L v ∧ (r = [] ∨ Plus L r) := by
  cases h with
  | one h => exact ⟨w, [], by simp, h, .inl rfl⟩
  | more h1 h2 => exact ⟨_, _, rfl, h1, .inr h2⟩
theorem Plus.mk {L : List Str → Prop} {v r : List Str} (h : L v) (h2 : r = [] ∨ Plus L r) : Plus L (v ++ r) := by
  rcases h2 with rfl | h2
  · rw [List.append_nil]; exact .one h
  · exact .more h h2
theorem Plus.app {L : List Str → Prop} {v r : List Str} (h : Plus L v) (h2 : Plus L r) : Plus L (v ++ r) := by
  induction h with
  | one h => exact .more h h2
  | more h1 _ ih => rw [List.append_assoc]; exact .more h1 ih
theorem Plus.flat {L : List Str → Prop} {w : List Str} (h : Plus (Plus L) w) : Plus L w := by
  induction h with
  | one h => exact h
  | more h1 _ ih => exact h1.app ih
theorem Plus.imp {L M : List Str → Prop} (hi : ∀ w, L w → M w) {w : List Str} (h : Plus L w) : Plus M w := by
  induction h with
  | one h => exact .one (hi _ h)
  | more h1 _ ih => exact .more (hi _ h1) ih
/-- the last piece -/
theorem Plus.last {L : List Str → Prop} {w : List Str} (h : Plus L w) : ∃ v r, w = v ++ r ∧ L r ∧ (v = [] ∨ Plus L v) := by
  induction h with
  | one h => exact ⟨[], _, rfl, h, .inl rfl⟩
  | more h1 h2 ih =>
    obtain ⟨v, r, rfl, hr, hv⟩ := ih
    refine ⟨_ ++ v, r, (List.append_assoc _ _ _).symm, hr, .inr (Plus.mk h1 hv)⟩
/-! ### ways -/
def Pth (m : Mch) : Nat → List Str → Nat → Prop
  | p, [], q => p = q
  | p, x :: u, q => ∃ g ∈ aftN m p, rdN m g = x ∧ Pth m g u q
def Acc (m : Mch) (F Z : List Nat) : List Str → Prop
  | [] => False
  | x :: u => ∃ f ∈ F, rdN m f = x ∧ ∃ z ∈ Z, Pth m f u z
theorem pth_same {M m : Mch} {lo hi : Nat} (h : ∀ i, lo ≤ i → i < hi → M[i]? = m[i]?) (hc : ∀ i, lo ≤ i → i < hi → ∀ j ∈ aftN m i, lo ≤ j ∧ j < hi) : ∀ (u : List Str) (i z : Nat), lo ≤ i → i < hi → (Pth M i u z ↔ Pth m i u z)
  | [], i, z, _, _ => Iff.rfl
  | x :: u, i, z, h1, h2 => by
    have ea : aftN M i = aftN m i := by unfold aftN; rw [h i h1 h2]
    show (∃ g ∈ aftN M i, rdN M g = x ∧ Pth M g u z) ↔ (∃ g ∈ aftN m i, rdN m g = x ∧ Pth m g u z)
    rw [ea]
    have key : ∀ g ∈ aftN m i, (rdN M g = x ∧ Pth M g u z ↔ rdN m g = x ∧ Pth m g u z) := fun g hg => by
      obtain ⟨g1, g2⟩ := hc i h1 h2 g hg
      have er : rdN M g = rdN m g := by unfold rdN; rw [h g g1 g2]
      rw [er, pth_same h hc u g z g1 g2]
    exact ⟨fun ⟨g, hg, r⟩ => ⟨g, hg, (key g hg).mp r⟩, fun ⟨g, hg, r⟩ => ⟨g, hg, (key g hg).mpr r⟩⟩
theorem acc_same {M m : Mch} {F Z : List Nat} {lo hi : Nat} (h : ∀ i, lo ≤ i → i < hi → M[i]? = m[i]?) (hc : ∀ i, lo ≤ i → i < hi → ∀ j ∈ aftN m i, lo ≤ j ∧ j < hi) (hF : ∀ i ∈ F, lo ≤ i ∧ i < hi) : ∀ w, Acc M F Z w ↔ Acc m F Z w
  | [] => Iff.rfl
  | x :: u => by
    show (∃ f ∈ F, rdN M f = x ∧ ∃ z ∈ Z, Pth M f u z) ↔ (∃ f ∈ F, rdN m f = x ∧ ∃ z ∈ Z, Pth m f u z)
    have key : ∀ f ∈ F, (rdN M f = x ∧ (∃ z ∈ Z, Pth M f u z) ↔ rdN m f = x ∧ ∃ z ∈ Z, Pth m f u z) := fun f hf => by
      obtain ⟨g1, g2⟩ := hF f hf
      have er : rdN M f = rdN m f := by unfold rdN; rw [h f g1 g2]
      rw [er]
      exact and_congr Iff.rfl ⟨fun ⟨z, hz, r⟩ => ⟨z, hz, (pth_same h hc u f z g1 g2).mp r⟩, fun ⟨z, hz, r⟩ => ⟨z, hz, (pth_same h hc u f z g1 g2).mpr r⟩⟩
    exact ⟨fun ⟨g, hg, r⟩ => ⟨g, hg, (key g hg).mp r⟩, fun ⟨g, hg, r⟩ => ⟨g, hg, (key g hg).mpr r⟩⟩
theorem pth_in {m : Mch} {lo : Nat} (hc : ∀ i, lo ≤ i → ∀ j ∈ aftN m i, lo ≤ j) : ∀ (u : List Str) (i z : Nat), lo ≤ i → Pth m i u z → lo ≤ z
  | [], i, z, h, e => by have e : i = z := e; omega
  | x :: u, i, z, h, ⟨g, hg, _, r⟩ => pth_in hc u g z (hc i h g hg) r
theorem pth_lt {m : Mch} (hm : MOk m) : ∀ (u : List Str) (i z : Nat), i < m.length → Pth m i u z → z < m.length
  | [], i, z, h, e => by have e : i = z := e; omega
  | x :: u, i, z, h, ⟨g, hg, _, r⟩ => pth_lt hm u g z (aft_lt hm hg) r
theorem aft_link {m : Mch} {Z F : List Nat} (hm : MOk m) (hF : ∀ x ∈ F, x < m.length) {i j : Nat} : j ∈ aftN (linkP m Z F) i ↔ j ∈ aftN m i ∨ (i ∈ Z ∧ i < m.length ∧ j ∈ F) := by
  unfold aftN
  rw [link_at]
  cases e : m[i]? with
  | none =>
    have : m.length ≤ i := List.getElem?_eq_none_iff.mp e
    refine ⟨fun h => by simp at h, fun h => ?_⟩
    rcases h with h | ⟨_, h, _⟩
    · simp at h
    · omega
  | some x =>
    have hi := (List.getElem?_eq_some_iff.mp e).1
    show j ∈ (if i ∈ Z then (x.1, upS m.length (x.2 ++ F)) else x).2 ↔ j ∈ x.2 ∨ _
    have hx := (hm x (List.mem_of_getElem? e)).1
    by_cases hz : i ∈ Z
    · rw [if_pos hz]
      show j ∈ upS m.length (x.2 ++ F) ↔ _
      rw [upS_mem fun y hy => (List.mem_append.mp hy).elim (hx y) (hF y), List.mem_append]
      exact ⟨fun h => h.imp id fun h => ⟨hz, hi, h⟩, fun h => h.imp id fun h => h.2.2⟩
    · rw [if_neg hz]
      exact ⟨.inl, fun h => h.elim id fun h => (hz h.1).elim⟩
theorem rd_link {m : Mch} {Z F : List Nat} {i : Nat} : rdN (linkP m Z F) i = rdN m i := by
  unfold rdN
  rw [link_at]
  cases m[i]? with
  | none => rfl
  | some x => show (if i ∈ Z then (x.1, upS m.length (x.2 ++ F)) else x).1 = x.1; split <;> rfl
theorem aft_out {m : Mch} {i : Nat} (h : m.length ≤ i) : aftN m i = [] := by
  unfold aftN
  rw [List.getElem?_eq_none_iff.mpr h]
  rfl
/-- the new places answer L -/
structure AL (m : Mch) (s : Adds) (n : Nat) (L : List Str → Prop) : Prop where
  a : AOk m s n
  o : AOld m s
  c : ∀ i, m.length ≤ i → ∀ j ∈ aftN s.1 i, m.length ≤ j
  l : ∀ w, Acc s.1 s.2.1 s.2.2 w ↔ L w
theorem AL.box {m : Mch} {s : Adds} {n : Nat} {L : List Str → Prop} (h : AL m s n L) : ∀ i, m.length ≤ i → i < s.1.length → ∀ j ∈ aftN s.1 i, m.length ≤ j ∧ j < s.1.length := fun i h1 _ j hj => ⟨h.c i h1 j hj, aft_lt h.a.ok hj⟩
theorem AL.ne {m : Mch} {s : Adds} {n : Nat} {L : List Str → Prop} (h : AL m s n L) : ¬ L [] := fun z => (h.l []).mpr z
theorem seq_lang {f : D → Mch → Adds} {g : D → Nat} {L : D → List Str → Prop} : ∀ {ps : List D} {m : Mch}, (∀ p ∈ ps, ∀ m, MOk m → AL m (f p m) (g p) (L p)) → MOk m → AL m ((seqP f ps m).1, (seqP f ps m).2.flatMap (·.1), (seqP f ps m).2.flatMap (·.2)) ((ps.map g).sum) (fun w => ∃ p ∈ ps, L p w)
  | [], m, _, hm => ⟨seq_ok (fun p hp => by cases hp) hm, (fun i _ => rfl), (fun i hi j hj => by
      have hj : j ∈ aftN m i := hj
      rw [aft_out hi] at hj; cases hj), fun w => by
        refine ⟨fun h => ?_, fun ⟨p, hp, _⟩ => by cases hp⟩
        cases w with
        | nil => cases h
        | cons x u => obtain ⟨f, hf, _⟩ := h; cases hf⟩
  | p :: ps, m, h, hm => by
    have a := h p (by simp) m hm
    have b := seq_lang (ps := ps) (m := (f p m).1) (fun q hq => h q (by simp [hq])) a.a.ok
    have ao := seq_ok (g := g) (ps := p :: ps) (m := m) (fun q hq m hm => (h q hq m hm).a) hm
    have so := seq_old (g := g) (ps := p :: ps) (m := m) (fun q hq m hm => ⟨(h q hq m hm).a, (h q hq m hm).o⟩) hm
    have al := a.a.len
    have bl := b.a.len
    have bl : (seqP f ps (f p m).1).1.length = (f p m).1.length + (ps.map g).sum := bl
    have bo : ∀ i, i < (f p m).1.length → (seqP f ps (f p m).1).1[i]? = (f p m).1[i]? := b.o
    have hbox := a.box
    refine ⟨ao, so, fun i hi j hj => ?_, fun w => ?_⟩
    · have hj : j ∈ aftN (seqP f ps (f p m).1).1 i := hj
      by_cases h1 : i < (f p m).1.length
      · refine a.c i hi j ?_
        unfold aftN at hj ⊢
        rw [← bo i h1]; exact hj
      · have := b.c i (by omega) j hj
        omega
    · have e1 : Acc (seqP f ps (f p m).1).1 (f p m).2.1 (f p m).2.2 w ↔ L p w := (acc_same (fun i _ h2 => bo i h2) hbox a.a.f w).trans (a.l w)
      have e2 := b.l w
      show Acc (seqP f ps (f p m).1).1 ((f p m).2.1 ++ (seqP f ps (f p m).1).2.flatMap (·.1)) ((f p m).2.2 ++ (seqP f ps (f p m).1).2.flatMap (·.2)) w ↔ ∃ q ∈ p :: ps, L q w
      have e3 : (∃ q ∈ p :: ps, L q w) ↔ L p w ∨ ∃ q ∈ ps, L q w := by simp
      rw [e3, ← e1, ← e2]
      cases w with
      | nil => exact ⟨fun h => h.elim, fun h => h.elim id id⟩
      | cons x u =>
        constructor
        · rintro ⟨s, hs, hr, z, hz, hp⟩
          rcases List.mem_append.mp hs with hs | hs
          · refine .inl ⟨s, hs, hr, z, ?_, hp⟩
            rcases List.mem_append.mp hz with hz | hz
            · exact hz
            · have z1 := (b.a.z z hz).1
              have z2 := (pth_same (fun i _ h2 => bo i h2) hbox u s z (a.a.f s hs).1 (a.a.f s hs).2).mp hp
              have := pth_lt a.a.ok u s z (a.a.f s hs).2 z2
              omega
          · refine .inr ⟨s, hs, hr, z, ?_, hp⟩
            rcases List.mem_append.mp hz with hz | hz
            · have z1 := (a.a.z z hz).2
              have := pth_in b.c u s z (b.a.f s hs).1 hp
              omega
            · exact hz
        · rintro (⟨s, hs, hr, z, hz, hp⟩ | ⟨s, hs, hr, z, hz, hp⟩)
          · exact ⟨s, List.mem_append_left _ hs, hr, z, List.mem_append_left _ hz, hp⟩
          · exact ⟨s, List.mem_append_right _ hs, hr, z, List.mem_append_right _ hz, hp⟩
/-- one more in the row -/
theorem AL.row {m0 : Mch} {s t : Adds} {n g : Nat} {L1 L2 : List Str → Prop} (hs : AL m0 s n L1) (ht : AL s.1 t g L2) : AL m0 (linkP t.1 s.2.2 t.2.1, s.2.1, t.2.2) (n + g) (Cat L1 L2) := by
  have tf : ∀ x ∈ t.2.1, x < t.1.length := fun x hx => (ht.a.f x hx).2
  have al := ht.a.len
  have sl := hs.a.len
  have out : ∀ i, s.1.length ≤ i → i ∉ s.2.2 := fun i h z => by have := (hs.a.z i z).2; omega
  have A : ∀ (u : List Str) (i z : Nat), s.1.length ≤ i → i < t.1.length → (Pth (linkP t.1 s.2.2 t.2.1) i u z ↔ Pth t.1 i u z) := pth_same (fun i h1 _ => link_out (out i h1)) ht.box
  have ea : ∀ i, i < s.1.length → aftN t.1 i = aftN s.1 i := fun i hi => by unfold aftN; rw [ht.o i hi]
  have er : ∀ i, i < s.1.length → rdN t.1 i = rdN s.1 i := fun i hi => by unfold rdN; rw [ht.o i hi]
  have B : ∀ (u : List Str) (i z : Nat), i < s.1.length → s.1.length ≤ z → (Pth (linkP t.1 s.2.2 t.2.1) i u z ↔ ∃ u1 x u2, u = u1 ++ x :: u2 ∧ (∃ y ∈ s.2.2, Pth s.1 i u1 y) ∧ ∃ f ∈ t.2.1, rdN t.1 f = x ∧ Pth t.1 f u2 z) := by
    intro u
    induction u with
    | nil =>
      intro i z hi hz
      refine ⟨fun e => ?_, fun ⟨u1, x, u2, e, _⟩ => by cases u1 <;> cases e⟩
      have e : i = z := e
      omega
    | cons x u ih =>
      intro i z hi hz
      constructor
      · rintro ⟨g, hg, hr, hp⟩
        rw [rd_link] at hr
        rcases (aft_link ht.a.ok tf).mp hg with hg | ⟨hiz, _, hg⟩
        · rw [ea i hi] at hg
          have gl := aft_lt hs.a.ok hg
          obtain ⟨u1, y, u2, rfl, ⟨q, hq, hq2⟩, hf⟩ := (ih g z gl hz).mp hp
          exact ⟨x :: u1, y, u2, rfl, ⟨q, hq, g, hg, by rw [← er g gl]; exact hr, hq2⟩, hf⟩
        · have hg' := ht.a.f g hg
          exact ⟨[], x, u, rfl, ⟨i, hiz, rfl⟩, g, hg, hr, (A u g z hg'.1 hg'.2).mp hp⟩
      · rintro ⟨u1, y, u2, e, ⟨q, hq, hq2⟩, f, hf, hr, hp⟩
        have hf' := ht.a.f f hf
        cases u1 with
        | nil =>
          obtain ⟨rfl, rfl⟩ := List.cons.inj e
          have hq2 : i = q := hq2
          subst hq2
          exact ⟨f, (aft_link ht.a.ok tf).mpr (.inr ⟨hq, by omega, hf⟩), by rw [rd_link]; exact hr, (A u f z hf'.1 hf'.2).mpr hp⟩
        | cons x2 u1 =>
          obtain ⟨rfl, rfl⟩ := List.cons.inj e
          obtain ⟨g, hg, hr2, hp2⟩ := hq2
          have gl := aft_lt hs.a.ok hg
          exact ⟨g, (aft_link ht.a.ok tf).mpr (.inl (by rw [ea i hi]; exact hg)), by rw [rd_link, er g gl]; exact hr2, (ih g z gl hz).mpr ⟨u1, y, u2, rfl, ⟨q, hq, hp2⟩, f, hf, hr, hp⟩⟩
  refine ⟨hs.a.row ht.a, fun i hi => ?_, fun i hi j hj => ?_, fun w => ?_⟩
  · show (linkP t.1 s.2.2 t.2.1)[i]? = _
    rw [link_out fun z => by have := (hs.a.z i z).1; omega, ht.o i (by omega)]
    exact hs.o i hi
  · rcases (aft_link ht.a.ok tf).mp hj with hj | ⟨_, _, hj⟩
    · by_cases h1 : i < s.1.length
      · rw [ea i h1] at hj; exact hs.c i hi j hj
      · have := ht.c i (by omega) j hj; omega
    · have := (ht.a.f j hj).1; omega
  · show Acc (linkP t.1 s.2.2 t.2.1) s.2.1 t.2.2 w ↔ _
    cases w with
    | nil => exact ⟨fun h => h.elim, fun ⟨u, v, e, hu, hv⟩ => by
        obtain ⟨rfl, rfl⟩ := List.append_eq_nil_iff.mp e.symm
        exact hs.ne hu⟩
    | cons x u =>
      constructor
      · rintro ⟨f, hf, hr, z, hz, hp⟩
        have hf' := (hs.a.f f hf).2
        obtain ⟨u1, y, u2, rfl, ⟨q, hq, hq2⟩, f2, hf2, hr2, hp2⟩ := (B u f z hf' (ht.a.z z hz).1).mp hp
        rw [rd_link, er f hf'] at hr
        exact ⟨x :: u1, y :: u2, rfl, (hs.l _).mp ⟨f, hf, hr, q, hq, hq2⟩, (ht.l _).mp ⟨f2, hf2, hr2, z, hz, hp2⟩⟩
      · rintro ⟨u1, v, e, h1, h2⟩
        cases u1 with
        | nil => exact (hs.ne h1).elim
        | cons x1 u1 =>
          cases v with
          | nil => exact (ht.ne h2).elim
          | cons y u2 =>
            obtain ⟨rfl, rfl⟩ := List.cons.inj e
            obtain ⟨f, hf, hr, q, hq, hq2⟩ := (hs.l _).mpr h1
            obtain ⟨f2, hf2, hr2, z, hz, hp2⟩ := (ht.l _).mpr h2
            have hf' := (hs.a.f f hf).2
            exact ⟨f, hf, by rw [rd_link, er f hf']; exact hr, z, hz, (B _ f z hf' (ht.a.z z hz).1).mpr ⟨u1, y, u2, rfl, ⟨q, hq, hq2⟩, f2, hf2, hr2, hp2⟩⟩
theorem row_lang {f : D → Mch → Adds} {g : D → Nat} {L : D → List Str → Prop} {m0 : Mch} : ∀ {ps : List D} {s : Adds} {n : Nat} {L0 : List Str → Prop}, (∀ p ∈ ps, ∀ m, MOk m → AL m (f p m) (g p) (L p)) → AL m0 s n L0 → AL m0 (rowP f ps s) (n + (ps.map g).sum) (Cat L0 (RowL L ps))
  | [], s, n, L0, _, hs => ⟨hs.a, hs.o, hs.c, fun w => (hs.l w).trans ⟨fun h => ⟨w, [], by simp, h, rfl⟩, fun ⟨u, v, e, hu, hv⟩ => by
      have hv : v = [] := hv
      subst hv; subst e
      rw [List.append_nil]; exact hu⟩⟩
  | p :: ps, (m, S, Z), n, L0, h, hs => by
    have r := row_lang (ps := ps) (fun q hq => h q (by simp [hq])) (hs.row (h p (by simp) m hs.a.ok))
    have e : n + ((p :: ps).map g).sum = n + g p + (ps.map g).sum := by rw [List.map_cons, List.sum_cons]; omega
    rw [e]
    refine ⟨r.a, r.o, r.c, fun w => (r.l w).trans ?_⟩
    constructor
    · rintro ⟨a, c, rfl, ⟨a1, a2, rfl, h1, h2⟩, h3⟩
      exact ⟨a1, a2 ++ c, List.append_assoc _ _ _, h1, a2, c, rfl, h2, h3⟩
    · rintro ⟨a, c, rfl, h1, a2, c2, rfl, h2, h3⟩
      exact ⟨a ++ a2, c2, (List.append_assoc _ _ _).symm, ⟨a, a2, rfl, h1, h2⟩, h3⟩
theorem AL.many {m : Mch} {s : Adds} {n : Nat} {L : List Str → Prop} (h : AL m s n L) : AL m (linkP s.1 s.2.2 s.2.1, s.2.1, s.2.2) n (Plus L) := by
  have sf : ∀ x ∈ s.2.1, x < s.1.length := fun x hx => (h.a.f x hx).2
  have sl := h.a.len
  have B : ∀ (u : List Str) (i : Nat), i < s.1.length → ((∃ z ∈ s.2.2, Pth (linkP s.1 s.2.2 s.2.1) i u z) ↔ ∃ u1 u2, u = u1 ++ u2 ∧ (∃ y ∈ s.2.2, Pth s.1 i u1 y) ∧ (u2 = [] ∨ Plus L u2)) := by
    intro u
    induction u with
    | nil =>
      intro i hi
      constructor
      · rintro ⟨z, hz, e⟩
        exact ⟨[], [], rfl, ⟨z, hz, e⟩, .inl rfl⟩
      · rintro ⟨u1, u2, e, ⟨y, hy, hp⟩, _⟩
        obtain ⟨rfl, rfl⟩ := List.append_eq_nil_iff.mp e.symm
        exact ⟨y, hy, hp⟩
    | cons x u ih =>
      intro i hi
      constructor
      · rintro ⟨z, hz, g, hg, hr, hp⟩
        rw [rd_link] at hr
        rcases (aft_link h.a.ok sf).mp hg with hg | ⟨hiz, _, hg⟩
        · obtain ⟨u1, u2, rfl, ⟨y, hy, hp2⟩, h2⟩ := (ih g (aft_lt h.a.ok hg)).mp ⟨z, hz, hp⟩
          exact ⟨x :: u1, u2, rfl, ⟨y, hy, g, hg, hr, hp2⟩, h2⟩
        · obtain ⟨u1, u2, rfl, ⟨y, hy, hp2⟩, h2⟩ := (ih g (sf g hg)).mp ⟨z, hz, hp⟩
          exact ⟨[], x :: (u1 ++ u2), rfl, ⟨i, hiz, rfl⟩, .inr (Plus.mk (v := x :: u1) ((h.l _).mp ⟨g, hg, hr, y, hy, hp2⟩) h2)⟩
      · rintro ⟨u1, u2, e, ⟨y, hy, hp⟩, h2⟩
        cases u1 with
        | cons x1 u1 =>
          obtain ⟨rfl, rfl⟩ := List.cons.inj e
          obtain ⟨g, hg, hr, hp2⟩ := hp
          obtain ⟨z, hz, hp3⟩ := (ih g (aft_lt h.a.ok hg)).mpr ⟨u1, u2, rfl, ⟨y, hy, hp2⟩, h2⟩
          exact ⟨z, hz, g, (aft_link h.a.ok sf).mpr (.inl hg), by rw [rd_link]; exact hr, hp3⟩
        | nil =>
          have hp : i = y := hp
          subst hp
          have e : x :: u = u2 := e
          subst e
          have h2 : Plus L (x :: u) := h2.resolve_left (by simp)
          obtain ⟨v, r, e, hv, hr⟩ := h2.cut
          cases v with
          | nil => exact (h.ne hv).elim
          | cons x1 v =>
            obtain ⟨rfl, rfl⟩ := List.cons.inj e
            obtain ⟨f, hf, hrd, z, hz, hpz⟩ := (h.l _).mpr hv
            obtain ⟨z2, hz2, hp3⟩ := (ih f (sf f hf)).mpr ⟨v, r, rfl, ⟨z, hz, hpz⟩, hr⟩
            exact ⟨z2, hz2, f, (aft_link h.a.ok sf).mpr (.inr ⟨hy, hi, hf⟩), by rw [rd_link]; exact hrd, hp3⟩
  refine ⟨⟨h.a.ok.link sf, by show (linkP _ _ _).length = _; rw [link_len]; exact h.a.len, fun i hi => by show _ ∧ i < (linkP _ _ _).length; rw [link_len]; exact h.a.f i hi, fun i hi => by show _ ∧ i < (linkP _ _ _).length; rw [link_len]; exact h.a.z i hi, h.a.fl, h.a.zl⟩, fun i hi => ?_, fun i hi j hj => ?_, fun w => ?_⟩
  · show (linkP s.1 s.2.2 s.2.1)[i]? = _
    rw [link_out fun z => by have := (h.a.z i z).1; omega]
    exact h.o i hi
  · rcases (aft_link h.a.ok sf).mp hj with hj | ⟨_, _, hj⟩
    · exact h.c i hi j hj
    · exact (h.a.f j hj).1
  · show Acc (linkP s.1 s.2.2 s.2.1) s.2.1 s.2.2 w ↔ _
    cases w with
    | nil => exact ⟨fun h => h.elim, fun z => by
        obtain ⟨v, r, e, hv, _⟩ := z.cut
        obtain ⟨rfl, rfl⟩ := List.append_eq_nil_iff.mp e.symm
        exact h.ne hv⟩
    | cons x u =>
      constructor
      · rintro ⟨f, hf, hr, hz⟩
        rw [rd_link] at hr
        obtain ⟨u1, u2, rfl, ⟨y, hy, hp⟩, h2⟩ := (B u f (sf f hf)).mp hz
        exact Plus.mk (v := x :: u1) ((h.l _).mp ⟨f, hf, hr, y, hy, hp⟩) h2
      · intro z
        obtain ⟨v, r, e, hv, hr⟩ := z.cut
        cases v with
        | nil => exact (h.ne hv).elim
        | cons x1 v =>
          obtain ⟨rfl, rfl⟩ := List.cons.inj e
          obtain ⟨f, hf, hrd, z, hz, hpz⟩ := (h.l _).mpr hv
          exact ⟨f, hf, by rw [rd_link]; exact hrd, (B _ f (sf f hf)).mpr ⟨v, r, rfl, ⟨z, hz, hpz⟩, hr⟩⟩
theorem add_lang : ∀ (k : Nat) {d : D}, isN k d = true → ∀ m, MOk m → AL m (addP k d m) (clsN k d).length (Lang k d)
  | 0, _, h, _, _ => by cases h
  | k + 1, d, h, m, hm => by
    have h0 := h
    obtain ⟨x, e, rfl, hc⟩ := isN_form h
    rcases hc with ⟨rfl, y, rfl, hy⟩ | ⟨rfl | rfl, ps, rfl, hp2, hp4, hps⟩ | ⟨rfl, he⟩
    · have ao := add_ok (k + 1) h0 m hm
      have oo := add_old (k + 1) h0 m hm
      rw [addP_one] at ao oo ⊢
      have eat : (m ++ [(y, ([] : List Nat))])[m.length]? = some (y, []) := by rw [List.getElem?_append_right (Nat.le_refl _), Nat.sub_self]; rfl
      refine ⟨ao, oo, fun i hi j hj => ?_, fun w => ?_⟩
      · have hj : j ∈ aftN (m ++ [(y, ([] : List Nat))]) i := hj
        by_cases hi2 : i = m.length
        · subst hi2
          unfold aftN at hj
          rw [eat] at hj
          cases hj
        · rw [aft_out (by rw [List.length_append]; show m.length + 1 ≤ i; omega)] at hj
          cases hj
      · rw [lang_one]
        show Acc (m ++ [(y, ([] : List Nat))]) [m.length] [m.length] w ↔ _
        have erd : rdN (m ++ [(y, ([] : List Nat))]) m.length = y := by unfold rdN; rw [eat]; rfl
        have eaf : aftN (m ++ [(y, ([] : List Nat))]) m.length = [] := by unfold aftN; rw [eat]; rfl
        constructor
        · intro h
          match w, h with
          | [x], ⟨f, hf, hr, z, hz, hp⟩ =>
            rw [List.mem_singleton.mp hf, erd] at hr
            rw [hr]
          | x :: x2 :: u, ⟨f, hf, hr, z, hz, g, hg, _⟩ =>
            rw [List.mem_singleton.mp hf, eaf] at hg
            cases hg
        · rintro rfl
          exact ⟨m.length, by simp, erd, m.length, by simp, rfl⟩
    · rw [addP_any, clsN_any, ← sum_len (fun d => (clsN k d).length) (clsN k) fun _ _ => rfl]
      have r := seq_lang (L := Lang k) (g := fun d => (clsN k d).length) (fun p hp m hm => add_lang k (hps p hp) m hm) hm
      exact ⟨r.a, r.o, r.c, fun w => (r.l w).trans (by rw [lang_any])⟩
    · match ps, hp2, hps with
      | p :: ps, hp2, hps =>
        rw [addP_row, clsN_row, List.flatMap_cons, List.length_append, ← sum_len (fun d => (clsN k d).length) (clsN k) fun _ _ => rfl]
        have r := row_lang (L := Lang k) (ps := ps) (fun q hq m hm => add_lang k (hps q (by simp [hq])) m hm) (add_lang k (hps p (by simp)) m hm)
        exact ⟨r.a, r.o, r.c, fun w => (r.l w).trans (by rw [lang_row]; rfl)⟩
    · rw [addP_many, clsN_many]
      have r := (add_lang k he m hm).many
      exact ⟨r.a, r.o, r.c, fun w => (r.l w).trans (by rw [lang_many])⟩
/-! ### what matches answers -/
theorem led_mem {m : Mch} (hm : MOk m) {ps : List Nat} {x : Str} {g : Nat} : g ∈ ledP m ps x ↔ ∃ q ∈ ps, g ∈ aftN m q ∧ rdN m g = x := by
  unfold ledP
  rw [upS_mem fun y hy => by
    obtain ⟨p, _, h⟩ := List.mem_flatMap.mp hy
    exact aft_lt hm (List.mem_filter.mp h).1, List.mem_flatMap]
  unfold gLed
  simp only [List.mem_filter, decide_eq_true_eq]
theorem run_mem {m : Mch} (hm : MOk m) {p : Nat} : ∀ (ys : List Str) (ps : List Nat), p ∈ ys.foldl (ledP m) ps ↔ ∃ q ∈ ps, Pth m q ys p
  | [], ps => ⟨fun h => ⟨p, h, rfl⟩, fun ⟨q, hq, e⟩ => by have e : q = p := e; exact e ▸ hq⟩
  | y :: ys, ps => by
    refine (run_mem hm ys (ledP m ps y)).trans ?_
    constructor
    · rintro ⟨g, hg, hp⟩
      obtain ⟨q, hq, h1, h2⟩ := (led_mem hm).mp hg
      exact ⟨q, hq, g, h1, h2, hp⟩
    · rintro ⟨q, hq, g, h1, h2, hp⟩
      exact ⟨g, (led_mem hm).mpr ⟨q, hq, h1, h2⟩, hp⟩
theorem accP_lang {d : D} (hd : isN 6 d = true) {ys : List Str} (hne : ys ≠ []) : accP d ys = true ↔ Lang 6 d ys := by
  have al := add_lang 6 hd m00 m00_ok
  obtain ⟨hmo, hml⟩ := mch_ok hd
  have l1 : m00.length = 1 := rfl
  have len := al.a.len
  have hat : ∀ i, 1 ≤ i → (mchP d).1[i]? = (addP 6 d m00).1[i]? := fun i hi => by
    show ((addP 6 d m00).1.set 0 _)[i]? = _
    rw [List.getElem?_set, if_neg (by omega)]
  have h0 : aftN (mchP d).1 0 = (addP 6 d m00).2.1 := by
    unfold aftN
    show (Option.map _ ((addP 6 d m00).1.set 0 _)[0]?).getD [] = _
    rw [List.getElem?_set, if_pos rfl, if_pos (by omega)]
    rfl
  rw [← al.l]
  cases ys with
  | nil => exact (hne rfl).elim
  | cons x u =>
    have S := pth_same (M := (mchP d).1) (m := (addP 6 d m00).1) (lo := 1) (hi := (addP 6 d m00).1.length) (fun i h1 _ => hat i h1) (fun i h1 h2 => al.box i h1 h2)
    have er : ∀ f ∈ (addP 6 d m00).2.1, rdN (mchP d).1 f = rdN (addP 6 d m00).1 f := fun f hf => by unfold rdN; rw [hat f (al.a.f f hf).1]
    unfold accP runP
    rw [List.any_eq_true]
    constructor
    · rintro ⟨p, hp, hz⟩
      obtain ⟨q, hq, g, hg, hr, hpt⟩ := (run_mem hmo _ _).mp hp
      rw [List.mem_singleton.mp hq, h0] at hg
      exact ⟨g, hg, by rw [← er g hg]; exact hr, p, of_decide_eq_true hz, (S u g p (al.a.f g hg).1 (al.a.f g hg).2).mp hpt⟩
    · rintro ⟨g, hg, hr, p, hz, hpt⟩
      exact ⟨p, (run_mem hmo _ _).mpr ⟨0, by simp, g, by rw [h0]; exact hg, by rw [er g hg]; exact hr, (S u g p (al.a.f g hg).1 (al.a.f g hg).2).mpr hpt⟩, decide_eq_true hz⟩
theorem rowL_congr {L M : D → List Str → Prop} : ∀ {ps : List D}, (∀ p ∈ ps, ∀ w, L p w ↔ M p w) → ∀ w, RowL L ps w ↔ RowL M ps w
  | [], _, w => Iff.rfl
  | p :: ps, h, w => by
    have h1 := h p (by simp)
    have h2 := rowL_congr (ps := ps) fun q hq => h q (by simp [hq])
    exact ⟨fun ⟨u, v, e, a, b⟩ => ⟨u, v, e, (h1 u).mp a, (h2 v).mp b⟩, fun ⟨u, v, e, a, b⟩ => ⟨u, v, e, (h1 u).mpr a, (h2 v).mpr b⟩⟩
theorem up1 : ∀ (k : Nat) {d : D}, isN k d = true → isN (k + 1) d = true ∧ clsN (k + 1) d = clsN k d ∧ ∀ w, Lang (k + 1) d w ↔ Lang k d w
  | 0, _, h => by cases h
  | k + 1, d, h => by
    obtain ⟨x, e, rfl, hc⟩ := isN_form h
    rcases hc with ⟨rfl, y, rfl, hy⟩ | ⟨hx, ps, rfl, hp2, hp4, hps⟩ | ⟨rfl, he⟩
    · exact ⟨by rw [isN_one]; exact hy, by rw [clsN_one, clsN_one], fun w => by rw [lang_one, lang_one]⟩
    · have ha : (decide (2 ≤ ps.length) && decide (ps.length ≤ 4) && ps.all (isN (k + 1))) = true := by
        rw [decide_eq_true hp2, decide_eq_true hp4]
        exact List.all_eq_true.mpr fun p hp => (up1 k (hps p hp)).1
      have hcl : ps.flatMap (clsN (k + 1)) = ps.flatMap (clsN k) := by
        unfold List.flatMap
        exact congrArg _ (List.map_congr_left fun p hp => (up1 k (hps p hp)).2.1)
      rcases hx with rfl | rfl
      · refine ⟨by rw [isN_any]; exact ha, by rw [clsN_any, clsN_any]; exact hcl, fun w => ?_⟩
        rw [lang_any, lang_any]
        exact ⟨fun ⟨p, hp, h⟩ => ⟨p, hp, ((up1 k (hps p hp)).2.2 w).mp h⟩, fun ⟨p, hp, h⟩ => ⟨p, hp, ((up1 k (hps p hp)).2.2 w).mpr h⟩⟩
      · refine ⟨by rw [isN_row]; exact ha, by rw [clsN_row, clsN_row]; exact hcl, fun w => ?_⟩
        rw [lang_row, lang_row]
        exact rowL_congr (fun p hp w => (up1 k (hps p hp)).2.2 w) w
    · obtain ⟨h1, h2, h3⟩ := up1 k he
      refine ⟨by rw [isN_many]; exact h1, by rw [clsN_many, clsN_many]; exact h2, fun w => ?_⟩
      rw [lang_many, lang_many]
      exact ⟨fun h => h.imp fun w => (h3 w).mp, fun h => h.imp fun w => (h3 w).mpr⟩
theorem upK {k : Nat} {d : D} (h : isN k d = true) : ∀ {n : Nat}, k ≤ n → isN n d = true ∧ clsN n d = clsN k d ∧ ∀ w, Lang n d w ↔ Lang k d w := fun {n} hn => by
  induction n with
  | zero => have : k = 0 := by omega
            subst this; exact ⟨h, rfl, fun _ => Iff.rfl⟩
  | succ n ih =>
    by_cases e : k = n + 1
    · subst e; exact ⟨h, rfl, fun _ => Iff.rfl⟩
    · obtain ⟨h1, h2, h3⟩ := ih (by omega)
      obtain ⟨g1, g2, g3⟩ := up1 n h1
      exact ⟨g1, g2.trans h2, fun w => (g3 w).trans (h3 w)⟩
end

end Law
end
section
set_option Elab.async false
set_option maxRecDepth 100000
set_option maxHeartbeats 4000000
set_option linter.all false
set_option autoImplicit false
namespace Law
open PySem PySem.Spec PyProof.Rows L2 DL TL TrA TrA.Tr
section
variable [TabCtx] {P : Program} {w : World} {K : KB} {mg : Str → Option Value} {base : Heap} {f : Addr} {fd : FuncData} {plC pC : Addr}
theorem isN_gd : ∀ (k : Nat) {d : D}, isN k d = true → gdB d = true
  | 0, _, h => by cases h
  | k + 1, d, h => by
    obtain ⟨x, e, rfl, hc⟩ := isN_form h
    have two : ∀ {x : Str} {e : D}, x.length ≤ 2000 → gdB e = true → gdB (.tup [.str x, e]) = true := fun {x e} h1 h2 => by
      rw [gdB, gdBs_all]
      show (decide (2 ≤ 1000) && (decide (x.length ≤ 2000) && (gdB e && true))) = true
      rw [h2, decide_eq_true h1]; rfl
    rcases hc with ⟨rfl, y, rfl, hy⟩ | ⟨hx, ps, rfl, hp2, hp4, hps⟩ | ⟨rfl, he⟩
    · exact two (by decide +kernel) (decide_eq_true (by have := nmB_len hy; omega))
    · refine two (by rcases hx with rfl | rfl <;> decide +kernel) ?_
      rw [gdB, gdBs_all, decide_eq_true (by omega)]
      exact List.all_eq_true.mpr fun p hp => isN_gd k (hps p hp)
    · exact two (by decide +kernel) (isN_gd k he)
theorem row_gd {ys : List Str} (h : ∀ y ∈ ys, nmB y = true) (hl : ys.length ≤ 5) : gdB (.tup (ys.map D.str)) = true := by
  rw [gdB, gdBs_all, List.length_map, decide_eq_true (by omega)]
  refine List.all_eq_true.mpr fun d hd => ?_
  obtain ⟨y, hy, rfl⟩ := List.mem_map.mp hd
  exact decide_eq_true (by have := nmB_len (h y hy); omega)
/-- the question of a row of names -/
theorem mat_ok {d : D} {ys : List Str} {R : Rs} {Q : DK} {E : DXK} (hd : patB d = true) (h : ∀ y ∈ ys, nmB y = true) (hl : ys.length ≤ 5) (hne : ys ≠ []) (q : Q (.bl (accP d ys)) R) : spMat pC [d, .tup (ys.map D.str)] R Q E :=
  ⟨d, _, rfl, isN_gd 6 (pat6 hd).1, row_gd h hl, (fun z => by rw [hd] at z; cases z), (fun _ => by rw [matD_ok hne h]; exact q)⟩
theorem cut_seg {xs : List D} {a b : Nat} (h1 : a ≤ b) (h2 : b ≤ xs.length) : DL.cutD xs (some (a : Int)) (some (b : Int)) = (xs.take b).drop a := by
  unfold DL.cutD
  rw [HT.sIx_nat, HT.sIx_nat, Nat.min_eq_left h2, Nat.min_eq_left (Nat.le_trans h1 h2), List.drop_take]
abbrev s_law_cuts : Stmt := top 27
abbrev n_law_cuts : List Str := ["_law_one", "_law_other", "_law_row", "_law_at"]
theorem sc_law_cuts : FnScope n_law_cuts ["_law_one", "_law_other", "_law_row"] (defScope s_law_cuts) := ⟨rfl, rfl, rfl, by decide +kernel, rfl, by decide +kernel, by decide +kernel⟩
def cutsB (d e : D) (ys : List Str) : Bool := (List.range (ys.length - 1)).any fun k => accP d (ys.take (k + 1)) && accP e (ys.drop (k + 1))
def spCuts : DSp := fun ds R Q _ => ∃ (d e : D) (ys : List Str), ds = [d, e, .tup (ys.map D.str)] ∧ patB d = true ∧ patB e = true ∧ (∀ y ∈ ys, nmB y = true) ∧ ys.length ≤ 5 ∧ ys ≠ [] ∧ Q (.bl (cutsB d e ys)) R
theorem ok_cuts (F : Fun K "_law_cuts" "_law_cuts" s_law_cuts f fd) (Z : Blt mg bl) (c_matches : CalX P w K mg base 19 "matches" (spMat pC)) : FnG P w K mg base CX0 20 f fd ["_law_one", "_law_other", "_law_row"] (spOf K spCuts) := by
  refine okD F sc_law_cuts (fun ds R Q E h => by obtain ⟨d, e, ys, rfl, _⟩ := h; rfl) fun cdv A outer s H E gd hr => ?_
  refine ⟨_, (dss_one (ds_ret (de_callB (cd_any rfl) (by rfl) (Z _ (by decide)) bt_any (da_cons (de_lcF (own := [("_law_at", 3)]) rfl sc_law_cuts.nd (lcd (di_range2 (by rfl) (Z _ (by decide)) de_int (de_callB cd_len (by rfl) (Z _ (by decide)) bt_len (da_cons (dv 2) da_nil))) (blkOk_by (N := n_law_cuts) (sc := defScope s_law_cuts) (by decide +kernel)) (fun _ _ _ _ _ => (dgw_name (i := 3) sc_law_cuts.nd rfl (.inl rfl))) (fun _ _ _ _ _ => dts_nil) (fun _ _ _ _ _ => (de_and (de_cX c_matches gd hr (by omega) takesNo (by rfl) (da_cons (dv 0) (da_cons (de_slice sd_tup (dv 2) do_none (do_some (dv 3))) da_nil))) (de_one (de_cX c_matches gd hr (by omega) takesNo (by rfl) (da_cons (dv 1) (da_cons (de_slice sd_tup (dv 2) (do_some (dv 3)) do_none) da_nil)))))))) da_nil)))), fun ds R Qd Ed h => ?_⟩
  obtain ⟨d, e, ys, rfl, hd, he, hys, hl, hne, q⟩ := h
  have hl0 : 0 < ys.length := List.length_pos_iff.mpr hne
  simp only [dSeq, dGetK, rdInK, dGetT, dInT, rdSetK, dNewK, dDcF, dDc2F, dIEnum, dIZip, dISeq, dStar, dCont, dBrk, dOrT, rdInC, dCallK, dCVal, dMeth, dFld, dSetF, dNewF, dNew0F, dDisp, dPairs, dGet2, dGIndex, DL.keyOf, DL.keysOf, dCallL, dLam, dJoin, dJs, dFmtS, dRepl, dRaise, dCallX, dDelTail, dAugL, dXF, dAsg, dIf, dIfS, dB, dAnd, dOr, dNot, dAndV, dOrV, dNotV, dChain, dOp, dUn, dVar, dC, rdI0, rdI, dCB, dCall, rd1, dCons, dNil, dgName, dgSub, dgTup, dgLst, dSortSet, dgCons, dgNil, rdSetL, dRet, dLst, dLstF, dTup, dDrop, dNext, dPar, dBM, dBM0, dSl, dPart, dNoPart, dstart, dwipe, List.map_cons, List.map_nil, List.length_cons, List.length_nil, List.replicate_succ, List.replicate_zero, List.cons_append, List.nil_append, List.set_cons_zero, List.set_cons_succ, List.getElem?_cons_zero, List.getElem?_cons_succ, Nat.reduceAdd, Nat.reduceSub, Option.some.injEq, D.int.injEq, D.bl.injEq, D.str.injEq, D.ref.injEq, D.ty.injEq, D.tup.injEq, D.lst.injEq, D.rls.injEq, RO.lst.injEq, List.cons.injEq, exists_and_left, exists_eq_left', exists_eq_left, and_true, true_and, put_same, put_put, at0, at1, at2, ix30, ix31, ix32, and_assoc, dLcF, dLc, dLcT, dIRng1, dIRng2, dIRng3, dIStr, dITup, dILst, dYes, if_true, Bool.false_eq_true, if_false, eqS_ii, neS_ii, eqS_ss, neS_ss, decide_eq_true_eq, sq_tup, sq_lst, sq_rls, lo_lst, lo_rls, tr_lst, isi_tt, isi_st, isi_nt, isi_bt, isi_it, isi_lt, isi_ts, isi_ss, isi_ns, isi_bs, isi_is, isi_ls, List.append_nil, sz0, sz1, sz2, sz3, sz4, sz5, sz6, sl0, sl1, sl2, ty_put, ty_str, lo_put, sq_put, tr_put, reduceCtorEq, false_and, and_false, exists_false, or_false, false_or, Bool.not_false, Bool.not_true, List.isEmpty_nil, List.isEmpty_cons, app1_empty]
  rw [List.length_map, show ((ys.length : Int) - 1).toNat = ys.length - 1 by omega]
  refine ⟨by decide, by decide, by omega, by omega, by rw [List.length_map, List.length_range]; simp only [sizeLine]; omega, PvM (List.range (ys.length - 1)) (fun k => .bl (accP d (ys.take (k + 1)) && accP e (ys.drop (k + 1)))) R, ⟨rfl, rfl⟩, fun _ _ _ _ _ => trivial, ?_, ?_⟩
  · rintro i x acc R' hx hlk hP
    obtain ⟨k, rfl, hk, hki, hkt⟩ := take_step (c := fun k : Nat => D.int (1 + (k : Int))) hx
    have hk := List.mem_range.mp hk
    have go := PvM.go (g := fun k => D.bl (accP d (ys.take (k + 1)) && accP e (ys.drop (k + 1)))) (R := R) hkt
    obtain ⟨rfl, rfl⟩ := hP
    refine ⟨_, rfl, ?_⟩
    rw [cut_take (by omega) (by rw [List.length_map]; omega), show (1 + (k : Int)).toNat = k + 1 by omega, ← List.map_take]
    refine mat_ok hd (fun y hy => hys y (List.mem_of_mem_take hy)) (by rw [List.length_take]; omega) (fun z => by have := congrArg List.length z; rw [List.length_take] at this; have : min (k + 1) ys.length = 0 := this; omega) ⟨_, rfl, ?_⟩
    cases ha : accP d (ys.take (k + 1)) with
    | false =>
      rw [ha, Bool.false_and] at go
      exact iteF (by decide) go
    | true =>
      rw [ha, Bool.true_and] at go
      refine iteT rfl ⟨_, rfl, ?_⟩
      rw [cut_drop (by omega) (by rw [List.length_map]; omega), show (1 + (k : Int)).toNat = k + 1 by omega, ← List.map_drop]
      exact mat_ok he (fun y hy => hys y (List.mem_of_mem_drop hy)) (by rw [List.length_drop]; omega) (fun z => by have := congrArg List.length z; rw [List.length_drop] at this; have : ys.length - (k + 1) = 0 := this; omega) go
  · rintro acc R' hlk hP
    obtain ⟨rfl, rfl⟩ := hP.end (by rw [List.length_map])
    refine ⟨(List.range (ys.length - 1)).map fun k => accP d (ys.take (k + 1)) && accP e (ys.drop (k + 1)), by rw [List.map_map]; rfl, fin ?_⟩
    rw [List.any_map]
    exact q
abbrev s_law_repeats : Stmt := top 28
abbrev n_law_repeats : List Str := ["_law_pattern_here", "_law_row", "_law_good", "_law_end", "_law_at"]
theorem sc_law_repeats : FnScope n_law_repeats ["_law_pattern_here", "_law_row"] (defScope s_law_repeats) := ⟨rfl, rfl, rfl, by decide +kernel, rfl, by decide +kernel, by decide +kernel⟩
/-- which starts of the row are made of pieces -/
def goodL (d : D) (ys : List Str) : Nat → List Bool
  | 0 => [true]
  | n + 1 => goodL d ys n ++ [(List.range (n + 1)).any fun a => (goodL d ys n)[a]?.getD false && accP d ((ys.take (n + 1)).drop a)]
theorem good_len (d : D) (ys : List Str) : ∀ n, (goodL d ys n).length = n + 1
  | 0 => rfl
  | n + 1 => by unfold goodL; rw [List.length_append, good_len d ys n]; rfl
def spRepeats : DSp := fun ds R Q _ => ∃ (d : D) (ys : List Str), ds = [d, .tup (ys.map D.str)] ∧ patB d = true ∧ (∀ y ∈ ys, nmB y = true) ∧ ys.length ≤ 5 ∧ Q (.bl ((goodL d ys ys.length)[ys.length]?.getD false)) R
theorem ok_repeats (F : Fun K "_law_repeats" "_law_repeats" s_law_repeats f fd) (Z : Blt mg bl) (c_matches : CalX P w K mg base 19 "matches" (spMat pC)) : FnG P w K mg base CX0 20 f fd ["_law_pattern_here", "_law_row"] (spOf K spRepeats) := by
  refine okD F sc_law_repeats (fun ds R Q E h => by obtain ⟨d, ys, rfl, _⟩ := h; rfl) fun cdv A outer s H E gd hr => ?_
  refine ⟨_, (dss_cut (ds_asg (de_lst (da_cons de_bl da_nil)) (dg_name (i := 2) sc_law_repeats.nd rfl (.inr rfl)))
    (dss_cut (ds_for PassesOwn.never rfl (di_range2 (by rfl) (Z _ (by decide)) de_int (de_op od_add (de_callB cd_len (by rfl) (Z _ (by decide)) bt_len (da_cons (dv 1) da_nil)) de_int)) (dg_name (i := 3) sc_law_repeats.nd rfl (.inr rfl)) (dss_one (ds_expr (de_bm PySem.F.plainAttrs_list PySem.F.slot_list_append PySem.F.type_list_append md_append (dv 2) (da_cons (de_callB (cd_any rfl) (by rfl) (Z _ (by decide)) bt_any (da_cons (de_lcF (own := [("_law_at", 4)]) rfl sc_law_repeats.nd (lcd (di_range1 (by rfl) (Z _ (by decide)) (dv 3)) (blkOk_by (N := n_law_repeats) (sc := defScope s_law_repeats) (by decide +kernel)) (fun _ _ _ _ _ => (dgw_name (i := 4) sc_law_repeats.nd rfl (.inl rfl))) (fun _ _ _ _ _ => dts_nil) (fun _ _ _ _ _ => (de_and (de_ix xd_seq (dv 2) (dv 4) (fun _ _ => rfl)) (de_one (de_cX c_matches gd hr (by omega) takesNo (by rfl) (da_cons (dv 0) (da_cons (de_slice sd_tup (dv 1) (do_some (dv 4)) (do_some (dv 3))) da_nil)))))))) da_nil)) da_nil)))))
    (dss_one (ds_ret (de_ix xd_seq (dv 2) (de_callB cd_len (by rfl) (Z _ (by decide)) bt_len (da_cons (dv 1) da_nil)) (fun _ _ => rfl)))))), fun ds R Qd Ed h => ?_⟩
  obtain ⟨d, ys, rfl, hd, hys, hl, q⟩ := h
  refine (show dCut _ _ _ _ _ from ?_)
  refine ⟨fun s' R' => ∃ l, R l = none ∧ R' = put R l (.lst ((goodL d ys 0).map D.bl)) ∧ s' = [some d, some (.tup (ys.map D.str)), some (.ref l), none, none], ?_, ?_⟩
  · simp only [dSeq, dGetK, rdInK, dGetT, dInT, rdSetK, dNewK, dDcF, dDc2F, dIEnum, dIZip, dISeq, dStar, dCont, dBrk, dOrT, rdInC, dCallK, dCVal, dMeth, dFld, dSetF, dNewF, dNew0F, dDisp, dPairs, dGet2, dGIndex, DL.keyOf, DL.keysOf, dCallL, dLam, dJoin, dJs, dFmtS, dRepl, dRaise, dCallX, dDelTail, dAugL, dXF, dAsg, dIf, dIfS, dB, dAnd, dOr, dNot, dAndV, dOrV, dNotV, dChain, dOp, dUn, dVar, dC, rdI0, rdI, dCB, dCall, rd1, dCons, dNil, dgName, dgSub, dgTup, dgLst, dSortSet, dgCons, dgNil, rdSetL, dRet, dLst, dLstF, dTup, dDrop, dNext, dPar, dBM, dBM0, dSl, dPart, dNoPart, dstart, dwipe, List.map_cons, List.map_nil, List.length_cons, List.length_nil, List.replicate_succ, List.replicate_zero, List.cons_append, List.nil_append, List.set_cons_zero, List.set_cons_succ, List.getElem?_cons_zero, List.getElem?_cons_succ, Nat.reduceAdd, Nat.reduceSub, Option.some.injEq, D.int.injEq, D.bl.injEq, D.str.injEq, D.ref.injEq, D.ty.injEq, D.tup.injEq, D.lst.injEq, D.rls.injEq, RO.lst.injEq, List.cons.injEq, exists_and_left, exists_eq_left', exists_eq_left, and_true, true_and, put_same, put_put, at0, at1, at2, ix30, ix31, ix32, and_assoc, dLcF, dLc, dLcT, dIRng1, dIRng2, dIRng3, dIStr, dITup, dILst, dYes, if_true, Bool.false_eq_true, if_false, eqS_ii, neS_ii, eqS_ss, neS_ss, decide_eq_true_eq, sq_tup, sq_lst, sq_rls, lo_lst, lo_rls, tr_lst, isi_tt, isi_st, isi_nt, isi_bt, isi_it, isi_lt, isi_ts, isi_ss, isi_ns, isi_bs, isi_is, isi_ls, List.append_nil, sz0, sz1, sz2, sz3, sz4, sz5, sz6, sl0, sl1, sl2, ty_put, ty_str, lo_put, sq_put, tr_put, reduceCtorEq, false_and, and_false, exists_false, or_false, false_or, Bool.not_false, Bool.not_true, List.isEmpty_nil, List.isEmpty_cons, app1_empty]
    intro l hl0
    exact ⟨l, hl0, rfl, rfl⟩
  rintro s1 R1 ⟨l, hl0, rfl, rfl⟩
  refine (show dCut _ _ _ _ _ from ?_)
  refine ⟨fun s' R' => R' = put R l (.lst ((goodL d ys ys.length).map D.bl)) ∧ ∃ j, s' = [some d, some (.tup (ys.map D.str)), some (.ref l), j, none], ?_, ?_⟩
  · simp only [dFor, dSeq, dGetK, rdInK, dGetT, dInT, rdSetK, dNewK, dDcF, dDc2F, dIEnum, dIZip, dISeq, dStar, dCont, dBrk, dOrT, rdInC, dCallK, dCVal, dMeth, dFld, dSetF, dNewF, dNew0F, dDisp, dPairs, dGet2, dGIndex, DL.keyOf, DL.keysOf, dCallL, dLam, dJoin, dJs, dFmtS, dRepl, dRaise, dCallX, dDelTail, dAugL, dXF, dAsg, dIf, dIfS, dB, dAnd, dOr, dNot, dAndV, dOrV, dNotV, dChain, dOp, dUn, dVar, dC, rdI0, rdI, dCB, dCall, rd1, dCons, dNil, dgName, dgSub, dgTup, dgLst, dSortSet, dgCons, dgNil, rdSetL, dRet, dLst, dLstF, dTup, dDrop, dNext, dPar, dBM, dBM0, dSl, dPart, dNoPart, dstart, dwipe, List.map_cons, List.map_nil, List.length_cons, List.length_nil, List.replicate_succ, List.replicate_zero, List.cons_append, List.nil_append, List.set_cons_zero, List.set_cons_succ, List.getElem?_cons_zero, List.getElem?_cons_succ, Nat.reduceAdd, Nat.reduceSub, Option.some.injEq, D.int.injEq, D.bl.injEq, D.str.injEq, D.ref.injEq, D.ty.injEq, D.tup.injEq, D.lst.injEq, D.rls.injEq, RO.lst.injEq, List.cons.injEq, exists_and_left, exists_eq_left', exists_eq_left, and_true, true_and, put_same, put_put, at0, at1, at2, ix30, ix31, ix32, and_assoc, dLcF, dLc, dLcT, dIRng1, dIRng2, dIRng3, dIStr, dITup, dILst, dYes, if_true, Bool.false_eq_true, if_false, eqS_ii, neS_ii, eqS_ss, neS_ss, decide_eq_true_eq, sq_tup, sq_lst, sq_rls, lo_lst, lo_rls, tr_lst, isi_tt, isi_st, isi_nt, isi_bt, isi_it, isi_lt, isi_ts, isi_ss, isi_ns, isi_bs, isi_is, isi_ls, List.append_nil, sz0, sz1, sz2, sz3, sz4, sz5, sz6, sl0, sl1, sl2, ty_put, ty_str, lo_put, sq_put, tr_put, reduceCtorEq, false_and, and_false, exists_false, or_false, false_or, Bool.not_false, Bool.not_true, List.isEmpty_nil, List.isEmpty_cons, app1_empty]
    rw [List.length_map, show ((ys.length : Int) + 1 - 1).toNat = ys.length by omega]
    refine ⟨by decide, by decide, by omega, by omega, fun i s' R' => R' = put R l (.lst ((goodL d ys i).map D.bl)) ∧ ∃ j, s' = [some d, some (.tup (ys.map D.str)), some (.ref l), j, none], ⟨rfl, _, rfl⟩, fun _ _ _ _ _ => trivial, ?_, ?_⟩
    · rintro i x s' R' hx ⟨rfl, j, rfl⟩
      obtain ⟨rfl, hi⟩ := range_step hx
      refine ⟨_, rfl, ?_, _, rfl, i + 1, by rw [Int.natCast_add]; exact congrArg _ (Int.add_comm _ _), by omega, by rw [List.length_map, List.length_range]; simp only [sizeLine]; omega, PvM (List.range (i + 1)) (fun a => .bl ((goodL d ys i)[a]?.getD false && accP d ((ys.take (i + 1)).drop a))) (put R l (.lst ((goodL d ys i).map D.bl))), ⟨rfl, rfl⟩, fun _ _ _ _ _ => trivial, ?_, ?_⟩
      · exact .inl ⟨rfl, _, put_same⟩
      · rintro a x acc R' hx hlk hP
        obtain ⟨k, rfl, hk, hki, hkt⟩ := take_step (c := fun a : Nat => D.int (a : Nat)) hx
        have hk := List.mem_range.mp hk
        have go := PvM.go (g := fun a => D.bl ((goodL d ys i)[a]?.getD false && accP d ((ys.take (i + 1)).drop a))) (R := put R l (.lst ((goodL d ys i).map D.bl))) hkt
        obtain ⟨rfl, rfl⟩ := hP
        have hgl := good_len d ys i
        obtain ⟨b, hb⟩ : ∃ b, (goodL d ys i)[k]? = some b := ⟨_, List.getElem?_eq_getElem (by omega)⟩
        refine ⟨_, rfl, _, rfl, _, sq_ref put_same, _, rfl, .bl b, atI_nat (by rw [List.getElem?_map, hb]; rfl), b, rfl, ?_⟩
        rw [hb] at go
        cases b with
        | false => exact iteF (by decide) go
        | true =>
          refine iteT rfl ⟨_, rfl, _, rfl, _, rfl, _, rfl, _, rfl, _, rfl, _, rfl, ?_⟩
          rw [show (1 + (i : Int)) = ((i + 1 : Nat) : Int) by omega, cut_seg (by omega) (by rw [List.length_map]; omega), ← List.map_take, ← List.map_drop]
          refine mat_ok hd (fun y hy => hys y (List.mem_of_mem_take (List.mem_of_mem_drop hy))) (by rw [List.length_drop, List.length_take]; omega) (fun z => by have := congrArg List.length z; rw [List.length_drop, List.length_take] at this; have : min (i + 1) ys.length - k = 0 := this; omega) go
      · rintro acc R' hlk hP
        obtain ⟨rfl, rfl⟩ := hP.end (by rw [List.length_map])
        refine ⟨(List.range (i + 1)).map fun a => (goodL d ys i)[a]?.getD false && accP d ((ys.take (i + 1)).drop a), by rw [List.map_map]; rfl, l, rfl, _, put_same, by rw [List.length_map, good_len]; simp only [sizeLine]; omega, ?_, _, rfl⟩
        rw [put_put, List.any_map]
        show put R l (.lst ((goodL d ys i).map D.bl ++ [D.bl _])) = put R l (.lst ((goodL d ys i ++ [_]).map D.bl))
        rw [List.map_append]
        rfl
    · rintro s' R' ⟨rfl, j, rfl⟩
      rw [List.length_map, List.length_range]
      exact ⟨rfl, _, rfl⟩
  rintro s2 R2 ⟨rfl, j, rfl⟩
  simp only [dSeq, dGetK, rdInK, dGetT, dInT, rdSetK, dNewK, dDcF, dDc2F, dIEnum, dIZip, dISeq, dStar, dCont, dBrk, dOrT, rdInC, dCallK, dCVal, dMeth, dFld, dSetF, dNewF, dNew0F, dDisp, dPairs, dGet2, dGIndex, DL.keyOf, DL.keysOf, dCallL, dLam, dJoin, dJs, dFmtS, dRepl, dRaise, dCallX, dDelTail, dAugL, dXF, dAsg, dIf, dIfS, dB, dAnd, dOr, dNot, dAndV, dOrV, dNotV, dChain, dOp, dUn, dVar, dC, rdI0, rdI, dCB, dCall, rd1, dCons, dNil, dgName, dgSub, dgTup, dgLst, dSortSet, dgCons, dgNil, rdSetL, dRet, dLst, dLstF, dTup, dDrop, dNext, dPar, dBM, dBM0, dSl, dPart, dNoPart, dstart, dwipe, List.map_cons, List.map_nil, List.length_cons, List.length_nil, List.replicate_succ, List.replicate_zero, List.cons_append, List.nil_append, List.set_cons_zero, List.set_cons_succ, List.getElem?_cons_zero, List.getElem?_cons_succ, Nat.reduceAdd, Nat.reduceSub, Option.some.injEq, D.int.injEq, D.bl.injEq, D.str.injEq, D.ref.injEq, D.ty.injEq, D.tup.injEq, D.lst.injEq, D.rls.injEq, RO.lst.injEq, List.cons.injEq, exists_and_left, exists_eq_left', exists_eq_left, and_true, true_and, put_same, put_put, at0, at1, at2, ix30, ix31, ix32, and_assoc, dLcF, dLc, dLcT, dIRng1, dIRng2, dIRng3, dIStr, dITup, dILst, dYes, if_true, Bool.false_eq_true, if_false, eqS_ii, neS_ii, eqS_ss, neS_ss, decide_eq_true_eq, sq_tup, sq_lst, sq_rls, lo_lst, lo_rls, tr_lst, isi_tt, isi_st, isi_nt, isi_bt, isi_it, isi_lt, isi_ts, isi_ss, isi_ns, isi_bs, isi_is, isi_ls, List.append_nil, sz0, sz1, sz2, sz3, sz4, sz5, sz6, sl0, sl1, sl2, ty_put, ty_str, lo_put, sq_put, tr_put, reduceCtorEq, false_and, and_false, exists_false, or_false, false_or, Bool.not_false, Bool.not_true, List.isEmpty_nil, List.isEmpty_cons, app1_empty]
  have hgl := good_len d ys ys.length
  obtain ⟨b, hb⟩ : ∃ b, (goodL d ys ys.length)[ys.length]? = some b := ⟨_, List.getElem?_eq_getElem (by omega)⟩
  rw [hb] at q
  refine ⟨.bl b, ?_, finS (fun a ro e => by rw [put_ne (by rintro rfl; rw [hl0] at e; cases e)]; exact e) q⟩
  rw [List.length_map]
  exact atI_nat (by rw [List.getElem?_map, hb]; rfl)
end

end Law
end
section
set_option Elab.async false
set_option maxRecDepth 100000
set_option maxHeartbeats 4000000
set_option linter.all false
set_option autoImplicit false
namespace Law
open PySem PySem.Spec PyProof.Rows L2 DL TL TrA TrA.Tr
section
variable [TabCtx] {P : Program} {w : World} {K : KB} {mg : Str → Option Value} {base : Heap} {f : Addr} {fd : FuncData} {plC pC : Addr}
abbrev s_law_walks : Stmt := top 26
abbrev n_law_walks : List Str := ["_law_pattern_here", "_law_row", "_law_places", "_law_name", "_law_place", "_law_goal", "_law_read"]
theorem sc_law_walks : FnScope n_law_walks ["_law_pattern_here", "_law_row"] (defScope s_law_walks) := ⟨rfl, rfl, rfl, by decide +kernel, rfl, by decide +kernel, by decide +kernel⟩
def spWalks : DSp := fun ds R Q _ => ∃ (d : D) (ys : List Str), ds = [d, .tup (ys.map D.str)] ∧ patB d = true ∧ ys.length ≤ 5 ∧ Q (.bl (accP d ys)) R
/-- the steps, plainly -/
def stepsN (m : Mch) : List (Nat × Nat) := (List.range m.length).flatMap fun p => (aftN m p).map fun g => (p, g)
theorem stepsD_N (m : Mch) : stepsD m = (stepsN m).map fun e => stepD m e.1 e.2 := by
  unfold stepsD stepsN
  simp only [List.map_flatMap, List.map_map]
  rfl
theorem steps_in {m : Mch} {p g : Nat} : (p, g) ∈ stepsN m ↔ g ∈ aftN m p := by
  unfold stepsN
  rw [List.mem_flatMap]
  constructor
  · rintro ⟨q, _, h⟩
    obtain ⟨h, hh, e⟩ := List.mem_map.mp h
    cases e; exact hh
  · intro h
    refine ⟨p, List.mem_range.mpr ?_, List.mem_map.mpr ⟨g, h, rfl⟩⟩
    by_cases hp : p < m.length
    · exact hp
    · rw [aft_out (by omega)] at h; cases h
/-- the places behind W by a name -/
def walkW (m : Mch) (W : List Nat) (y : Str) (e : Nat × Nat) : Bool := decide (e.1 ∈ W) && decide (rdN m e.2 = y)
def PFil {α : Type} (l : List α) (t : α → Bool) (g : α → D) (R : Rs) (i : Nat) (acc : List D) (R' : Rs) : Prop := R' = R ∧ acc = ((l.take i).filter t).map g
theorem PFil.yes {α : Type} {l : List α} {t : α → Bool} {g : α → D} {R : Rs} {i : Nat} {v : α} (e : l.take (i + 1) = l.take i ++ [v]) (h : t v = true) : PFil l t g R (i + 1) (((l.take i).filter t).map g ++ [g v]) R := ⟨rfl, by rw [e, List.filter_append, List.filter_cons, if_pos h, List.map_append]; rfl⟩
theorem PFil.no {α : Type} {l : List α} {t : α → Bool} {g : α → D} {R : Rs} {i : Nat} {v : α} (e : l.take (i + 1) = l.take i ++ [v]) (h : ¬ t v = true) : PFil l t g R (i + 1) (((l.take i).filter t).map g) R := ⟨rfl, by rw [e, List.filter_append, List.filter_cons, if_neg h]; simp⟩
theorem walk_mem {m : Mch} (hm : MOk m) {W : List Nat} {ys : List Str} {y : Str} (hW : ∀ g, g ∈ W ↔ g ∈ runP m ys) (g : Nat) : g ∈ ((stepsN m).filter (walkW m W y)).map (·.2) ↔ g ∈ runP m (ys ++ [y]) := by
  rw [run_snoc, led_mem hm, List.mem_map]
  constructor
  · rintro ⟨⟨p, g⟩, h, rfl⟩
    obtain ⟨h1, h2⟩ := List.mem_filter.mp h
    unfold walkW at h2
    rw [Bool.and_eq_true, decide_eq_true_eq, decide_eq_true_eq] at h2
    exact ⟨p, (hW p).mp h2.1, steps_in.mp h1, h2.2⟩
  · rintro ⟨p, hp, h1, h2⟩
    refine ⟨(p, g), List.mem_filter.mpr ⟨steps_in.mpr h1, ?_⟩, rfl⟩
    unfold walkW
    rw [decide_eq_true ((hW p).mpr hp), decide_eq_true h2]; rfl
theorem any_mem {l k : List Nat} (h : ∀ g, g ∈ l ↔ g ∈ k) (t : Nat → Bool) : l.any t = k.any t := by
  rw [Bool.eq_iff_iff, List.any_eq_true, List.any_eq_true]
  exact ⟨fun ⟨x, hx, e⟩ => ⟨x, (h x).mp hx, e⟩, fun ⟨x, hx, e⟩ => ⟨x, (h x).mpr hx, e⟩⟩
theorem ok_walks (F : Fun K "_law_walks" "_law_walks" s_law_walks f fd) (Z : Blt mg bl) (c_steps : CalX P w K mg base 19 "steps" (spStepsF pC)) (c_ends : CalX P w K mg base 19 "ends" (spEnds pC)) : FnG P w K mg base CX0 20 f fd ["_law_pattern_here", "_law_row"] (spOf K spWalks) := by
  refine okD F sc_law_walks (fun ds R Q E h => by obtain ⟨d, ys, rfl, _⟩ := h; rfl) fun cdv A outer s H E gd hr => ?_
  refine ⟨_, (dss_cut (ds_asg (de_lstF (da_cons de_int da_nil)) (dg_name (i := 2) sc_law_walks.nd rfl (.inr rfl)))
    (dss_cut (ds_for PassesOwn.never rfl (di_tup (dv 1)) (dg_name (i := 3) sc_law_walks.nd rfl (.inr rfl)) (dss_one (ds_asg (de_lcF (own := [("_law_place", 4), ("_law_goal", 5), ("_law_read", 6)]) rfl sc_law_walks.nd (lcd (di_list (de_cX c_steps gd hr (by omega) takesNo (by rfl) (da_cons (dv 0) da_nil))) (blkOk_by (N := n_law_walks) (sc := defScope s_law_walks) (by decide +kernel)) (fun _ _ _ _ _ => (dgw_tup (n := 3) rfl (dgsw_cons (dgw_name (i := 4) sc_law_walks.nd rfl (.inl rfl)) (dgsw_cons (dgw_name (i := 5) sc_law_walks.nd rfl (.inl rfl)) (dgsw_cons (dgw_name (i := 6) sc_law_walks.nd rfl (.inl rfl)) dgsw_nil))))) (fun _ _ _ _ _ => (dts_one (dw_and (dt_cmp od_inI (dv 4) (dv 2) (by with_unfolding_all rfl)) (dw_and1 (dt_cmp od_eqS (dv 6) (dv 3) (nomark _)))).dt)) (fun _ _ _ _ _ => (dv 5)))) (dg_name (i := 2) sc_law_walks.nd rfl (.inr rfl)))))
    (dss_one (ds_ret (de_callB (cd_any rfl) (by rfl) (Z _ (by decide)) bt_any (da_cons (de_lcF (own := [("_law_place", 4)]) rfl sc_law_walks.nd (lcd (di_list (dv 2)) (blkOk_by (N := n_law_walks) (sc := defScope s_law_walks) (by decide +kernel)) (fun _ _ _ _ _ => (dgw_name (i := 4) sc_law_walks.nd rfl (.inl rfl))) (fun _ _ _ _ _ => dts_nil) (fun _ _ _ _ _ => (de_cmp od_inI (dv 4) (de_cX c_ends gd hr (by omega) takesNo (by rfl) (da_cons (dv 0) da_nil)) (by with_unfolding_all rfl))))) da_nil)))))), fun ds R Qd Ed h => ?_⟩
  obtain ⟨d, ys, rfl, hp, hl, q⟩ := h
  obtain ⟨h6, hcl⟩ := pat6 hp
  have hgd := isN_gd 6 h6
  obtain ⟨hm, hml⟩ := mch_ok h6
  have hsl := steps_len hm (mchP d).1.length
  have hsl : (stepsD (mchP d).1).length ≤ (mchP d).1.length * (mchP d).1.length := hsl
  have hmm : (mchP d).1.length * (mchP d).1.length ≤ 13 * 13 := Nat.mul_le_mul (by omega) (by omega)
  refine (show dCut _ _ _ _ _ from ?_)
  refine ⟨fun s' R' => R' = R ∧ s' = [some d, some (.tup (ys.map D.str)), some (natD [0]), none, none, none, none], ?_, ?_⟩
  · simp only [dSeq, dGetK, rdInK, dGetT, dInT, rdSetK, dNewK, dDcF, dDc2F, dIEnum, dIZip, dISeq, dStar, dCont, dBrk, dOrT, rdInC, dCallK, dCVal, dMeth, dFld, dSetF, dNewF, dNew0F, dDisp, dPairs, dGet2, dGIndex, DL.keyOf, DL.keysOf, dCallL, dLam, dJoin, dJs, dFmtS, dRepl, dRaise, dCallX, dDelTail, dAugL, dXF, dAsg, dIf, dIfS, dB, dAnd, dOr, dNot, dAndV, dOrV, dNotV, dChain, dOp, dUn, dVar, dC, rdI0, rdI, dCB, dCall, rd1, dCons, dNil, dgName, dgSub, dgTup, dgLst, dSortSet, dgCons, dgNil, rdSetL, dRet, dLst, dLstF, dTup, dDrop, dNext, dPar, dBM, dBM0, dSl, dPart, dNoPart, dstart, dwipe, List.map_cons, List.map_nil, List.length_cons, List.length_nil, List.replicate_succ, List.replicate_zero, List.cons_append, List.nil_append, List.set_cons_zero, List.set_cons_succ, List.getElem?_cons_zero, List.getElem?_cons_succ, Nat.reduceAdd, Nat.reduceSub, Option.some.injEq, D.int.injEq, D.bl.injEq, D.str.injEq, D.ref.injEq, D.ty.injEq, D.tup.injEq, D.lst.injEq, D.rls.injEq, RO.lst.injEq, List.cons.injEq, exists_and_left, exists_eq_left', exists_eq_left, and_true, true_and, put_same, put_put, at0, at1, at2, ix30, ix31, ix32, and_assoc, dLcF, dLc, dLcT, dIRng1, dIRng2, dIRng3, dIStr, dITup, dILst, dYes, if_true, Bool.false_eq_true, if_false, eqS_ii, neS_ii, eqS_ss, neS_ss, decide_eq_true_eq, sq_tup, sq_lst, sq_rls, lo_lst, lo_rls, tr_lst, isi_tt, isi_st, isi_nt, isi_bt, isi_it, isi_lt, isi_ts, isi_ss, isi_ns, isi_bs, isi_is, isi_ls, List.append_nil, sz0, sz1, sz2, sz3, sz4, sz5, sz6, sl0, sl1, sl2, ty_put, ty_str, lo_put, sq_put, tr_put, reduceCtorEq, false_and, and_false, exists_false, or_false, false_or, Bool.not_false, Bool.not_true, List.isEmpty_nil, List.isEmpty_cons, app1_empty, rdInI]
    rfl
  rintro s1 R1 ⟨rfl, rfl⟩
  refine (show dCut _ _ _ _ _ from ?_)
  refine ⟨fun s' R' => R' = R1 ∧ ∃ W j, (∀ g, g ∈ W ↔ g ∈ runP (mchP d).1 ys) ∧ W.length ≤ 200 ∧ s' = [some d, some (.tup (ys.map D.str)), some (natD W), j, none, none, none], ?_, ?_⟩
  · simp only [dFor, dSeq, dGetK, rdInK, dGetT, dInT, rdSetK, dNewK, dDcF, dDc2F, dIEnum, dIZip, dISeq, dStar, dCont, dBrk, dOrT, rdInC, dCallK, dCVal, dMeth, dFld, dSetF, dNewF, dNew0F, dDisp, dPairs, dGet2, dGIndex, DL.keyOf, DL.keysOf, dCallL, dLam, dJoin, dJs, dFmtS, dRepl, dRaise, dCallX, dDelTail, dAugL, dXF, dAsg, dIf, dIfS, dB, dAnd, dOr, dNot, dAndV, dOrV, dNotV, dChain, dOp, dUn, dVar, dC, rdI0, rdI, dCB, dCall, rd1, dCons, dNil, dgName, dgSub, dgTup, dgLst, dSortSet, dgCons, dgNil, rdSetL, dRet, dLst, dLstF, dTup, dDrop, dNext, dPar, dBM, dBM0, dSl, dPart, dNoPart, dstart, dwipe, List.map_cons, List.map_nil, List.length_cons, List.length_nil, List.replicate_succ, List.replicate_zero, List.cons_append, List.nil_append, List.set_cons_zero, List.set_cons_succ, List.getElem?_cons_zero, List.getElem?_cons_succ, Nat.reduceAdd, Nat.reduceSub, Option.some.injEq, D.int.injEq, D.bl.injEq, D.str.injEq, D.ref.injEq, D.ty.injEq, D.tup.injEq, D.lst.injEq, D.rls.injEq, RO.lst.injEq, List.cons.injEq, exists_and_left, exists_eq_left', exists_eq_left, and_true, true_and, put_same, put_put, at0, at1, at2, ix30, ix31, ix32, and_assoc, dLcF, dLc, dLcT, dIRng1, dIRng2, dIRng3, dIStr, dITup, dILst, dYes, if_true, Bool.false_eq_true, if_false, eqS_ii, neS_ii, eqS_ss, neS_ss, decide_eq_true_eq, sq_tup, sq_lst, sq_rls, lo_lst, lo_rls, tr_lst, isi_tt, isi_st, isi_nt, isi_bt, isi_it, isi_lt, isi_ts, isi_ss, isi_ns, isi_bs, isi_is, isi_ls, List.append_nil, sz0, sz1, sz2, sz3, sz4, sz5, sz6, sl0, sl1, sl2, ty_put, ty_str, lo_put, sq_put, tr_put, reduceCtorEq, false_and, and_false, exists_false, or_false, false_or, Bool.not_false, Bool.not_true, List.isEmpty_nil, List.isEmpty_cons, app1_empty, rdInI]
    refine ⟨fun i s' R' => R' = R1 ∧ ∃ W j, (∀ g, g ∈ W ↔ g ∈ runP (mchP d).1 (ys.take i)) ∧ W.length ≤ 200 ∧ s' = [some d, some (.tup (ys.map D.str)), some (natD W), j, none, none, none], ⟨rfl, [0], none, fun _ => Iff.rfl, by decide, rfl⟩, fun _ _ _ _ _ => trivial, ?_, ?_⟩
    · rintro i x s' R' hx ⟨rfl, W, j, hW, hWl, rfl⟩
      obtain ⟨y, rfl, hy, hyi, hyt⟩ := take_step (c := D.str) hx
      refine ⟨d, rfl, d, rfl, hgd, (fun z => by rw [hp] at z; cases z), fun _ => ⟨_, .inl ⟨rfl, by simp only [sizeLine]; omega, ?_⟩⟩⟩
      rw [stepsD_N] at hsl ⊢
      rw [List.length_map] at hsl
      refine ⟨PFil (stepsN (mchP d).1) (walkW (mchP d).1 W y) (fun e => .int (e.2 : Nat)) R', ⟨rfl, rfl⟩, fun _ _ _ _ _ => trivial, ?_, ?_⟩
      · rintro k x acc R2 hx hlk ⟨rfl, rfl⟩
        obtain ⟨⟨a, g⟩, rfl, he, hei, het⟩ := take_step (c := fun e : Nat × Nat => stepD (mchP d).1 e.1 e.2) hx
        refine ⟨_, rfl, rfl, _, _, rfl, _, _, rfl, _, _, rfl, rfl, _, rfl, _, rfl, _, rfl, W.map (fun n => ((n : Nat) : Int)), by simp [seqOf, natD], ?_⟩
        have ei : ((a : Nat) : Int) ∈ W.map (fun n => ((n : Nat) : Int)) ↔ a ∈ W := by
          refine ⟨fun h => ?_, fun h => List.mem_map.mpr ⟨a, h, rfl⟩⟩
          obtain ⟨n, hn, e⟩ := List.mem_map.mp h
          have : n = a := by omega
          exact this ▸ hn
        by_cases ha : a ∈ W
        · refine iteT (ei.mpr ha) ⟨_, rfl, _, rfl, eqS_ss.mpr ⟨_, rfl, ?_⟩⟩
          by_cases hy2 : rdN (mchP d).1 g = y
          · exact iteT (decide_eq_true hy2) ⟨_, rfl, PFil.yes het (by unfold walkW; rw [decide_eq_true ha, decide_eq_true hy2]; rfl)⟩
          · exact iteF (by simpa using hy2) (PFil.no het (by unfold walkW; rw [decide_eq_false hy2, Bool.and_false]; decide))
        · exact iteF (fun z => ha (ei.mp z)) (PFil.no het (by unfold walkW; rw [decide_eq_false ha, Bool.false_and]; decide))
      · rintro acc R2 hlk ⟨rfl, rfl⟩
        rw [List.length_map, List.take_length]
        refine ⟨rfl, ((stepsN (mchP d).1).filter (walkW (mchP d).1 W y)).map (·.2), some (.str y), fun g => ?_, ?_, ?_⟩
        · rw [hyt]; exact walk_mem hm hW g
        · rw [List.length_map]
          exact Nat.le_trans (List.length_filter_le _ _) (by omega)
        · unfold natD
          rw [List.map_map]
          rfl
    · rintro s' R' ⟨rfl, W, j, hW, hWl, rfl⟩
      rw [List.length_map, List.take_length] at hW
      exact ⟨rfl, W, hW, hWl, j, rfl⟩
  rintro s2 R2 ⟨rfl, W, j, hW, hWl, rfl⟩
  simp only [dSeq, dGetK, rdInK, dGetT, dInT, rdSetK, dNewK, dDcF, dDc2F, dIEnum, dIZip, dISeq, dStar, dCont, dBrk, dOrT, rdInC, dCallK, dCVal, dMeth, dFld, dSetF, dNewF, dNew0F, dDisp, dPairs, dGet2, dGIndex, DL.keyOf, DL.keysOf, dCallL, dLam, dJoin, dJs, dFmtS, dRepl, dRaise, dCallX, dDelTail, dAugL, dXF, dAsg, dIf, dIfS, dB, dAnd, dOr, dNot, dAndV, dOrV, dNotV, dChain, dOp, dUn, dVar, dC, rdI0, rdI, dCB, dCall, rd1, dCons, dNil, dgName, dgSub, dgTup, dgLst, dSortSet, dgCons, dgNil, rdSetL, dRet, dLst, dLstF, dTup, dDrop, dNext, dPar, dBM, dBM0, dSl, dPart, dNoPart, dstart, dwipe, List.map_cons, List.map_nil, List.length_cons, List.length_nil, List.replicate_succ, List.replicate_zero, List.cons_append, List.nil_append, List.set_cons_zero, List.set_cons_succ, List.getElem?_cons_zero, List.getElem?_cons_succ, Nat.reduceAdd, Nat.reduceSub, Option.some.injEq, D.int.injEq, D.bl.injEq, D.str.injEq, D.ref.injEq, D.ty.injEq, D.tup.injEq, D.lst.injEq, D.rls.injEq, RO.lst.injEq, List.cons.injEq, exists_and_left, exists_eq_left', exists_eq_left, and_true, true_and, put_same, put_put, at0, at1, at2, ix30, ix31, ix32, and_assoc, dLcF, dLc, dLcT, dIRng1, dIRng2, dIRng3, dIStr, dITup, dILst, dYes, if_true, Bool.false_eq_true, if_false, eqS_ii, neS_ii, eqS_ss, neS_ss, decide_eq_true_eq, sq_tup, sq_lst, sq_rls, lo_lst, lo_rls, tr_lst, isi_tt, isi_st, isi_nt, isi_bt, isi_it, isi_lt, isi_ts, isi_ss, isi_ns, isi_bs, isi_is, isi_ls, List.append_nil, sz0, sz1, sz2, sz3, sz4, sz5, sz6, sl0, sl1, sl2, ty_put, ty_str, lo_put, sq_put, tr_put, reduceCtorEq, false_and, and_false, exists_false, or_false, false_or, Bool.not_false, Bool.not_true, List.isEmpty_nil, List.isEmpty_cons, app1_empty, rdInI]
  refine ⟨_, .inl ⟨rfl, by rw [List.length_map]; simp only [sizeLine]; omega, PvM W (fun p => .bl (decide (p ∈ (mchP d).2.2))) R2, ⟨rfl, rfl⟩, fun _ _ _ _ _ => trivial, ?_, ?_⟩⟩
  · rintro i x acc R' hx hlk hP
    obtain ⟨p, rfl, hpm, hpi, hpt⟩ := take_step (c := fun n => D.int (n : Nat)) hx
    obtain ⟨rfl, rfl⟩ := hP
    refine ⟨d, rfl, hgd, (fun z => by rw [hp] at z; cases z), fun _ => ⟨_, rfl, (mchP d).2.2.map (fun n => ((n : Nat) : Int)), by simp [seqOf, natD], ?_⟩⟩
    have e : decide (((p : Nat) : Int) ∈ (mchP d).2.2.map (fun n => ((n : Nat) : Int))) = decide (p ∈ (mchP d).2.2) := by
      refine decide_eq_decide.mpr ⟨fun h => ?_, fun h => List.mem_map.mpr ⟨p, h, rfl⟩⟩
      obtain ⟨n, hn, e⟩ := List.mem_map.mp h
      have : n = p := by omega
      exact this ▸ hn
    rw [e]
    exact PvM.go (g := fun p => .bl (decide (p ∈ (mchP d).2.2))) hpt
  · rintro acc R' hlk hP
    obtain ⟨rfl, rfl⟩ := hP.end (by rw [List.length_map])
    refine ⟨W.map fun p => decide (p ∈ (mchP d).2.2), by rw [List.map_map]; rfl, fin ?_⟩
    rw [List.any_map, any_mem hW]
    exact q
abbrev s_law_all : Stmt := top 25
abbrev n_law_all : List Str := ["_law_names_here", "_law_most", "_law_found", "_law_layer", "_law_turn", "_law_longer", "_law_row", "_law_name"]
theorem sc_law_all : FnScope n_law_all ["_law_names_here", "_law_most"] (defScope s_law_all) := ⟨rfl, rfl, rfl, by decide +kernel, rfl, by decide +kernel, by decide +kernel⟩
def rowsD (l : List (List Str)) : List D := l.map fun r => .tup (r.map D.str)
def lay (ns : List Str) : Nat → List (List Str)
  | 0 => [[]]
  | n + 1 => (lay ns n).flatMap fun r => ns.map fun x => r ++ [x]
def allR (ns : List Str) : Nat → List (List Str)
  | 0 => []
  | n + 1 => allR ns n ++ lay ns (n + 1)
def spAllR : DSp := fun ds R Q _ => ∃ (ns : List Str) (n : Nat), ds = [.lst (ns.map D.str), .int n] ∧ ns.length ≤ 2 ∧ n ≤ 5 ∧ Q (.lst (rowsD (allR ns n))) R
theorem lay_len {ns : List Str} (h : ns.length ≤ 2) : ∀ n, (lay ns n).length ≤ 2 ^ n
  | 0 => Nat.le_refl _
  | n + 1 => by
    have ih := lay_len h n
    have : (lay ns (n + 1)).length = (lay ns n).length * ns.length := by
      show ((lay ns n).flatMap fun r => ns.map fun x => r ++ [x]).length = _
      rw [List.length_flatMap]
      simp only [List.length_map, List.map_const', List.sum_replicate_nat]
    rw [this, Nat.pow_succ]
    exact Nat.mul_le_mul ih h
theorem all_len {ns : List Str} (h : ns.length ≤ 2) : ∀ n, (allR ns n).length ≤ 2 ^ (n + 1)
  | 0 => Nat.zero_le _
  | n + 1 => by
    have ih := all_len h n
    have := lay_len h (n + 1)
    unfold allR
    rw [List.length_append, Nat.pow_succ 2 (n + 1)]
    omega
theorem lay_row {ns : List Str} : ∀ n, ∀ r ∈ lay ns n, r.length = n
  | 0, r, h => by rw [List.mem_singleton.mp h]; rfl
  | n + 1, r, h => by
    obtain ⟨r, hr, h⟩ := List.mem_flatMap.mp h
    obtain ⟨x, _, rfl⟩ := List.mem_map.mp h
    rw [List.length_append, lay_row n r hr]; rfl
theorem lay_pre {ns : List Str} (h : ns.length ≤ 2) (i j : Nat) : (((lay ns i).take j).flatMap fun r => ns.map fun x => r ++ [x]).length ≤ 2 ^ (i + 1) := by
  refine Nat.le_trans ?_ (lay_len h (i + 1))
  show _ ≤ ((lay ns i).flatMap fun r => ns.map fun x => r ++ [x]).length
  rw [List.length_flatMap, List.length_flatMap]
  simp only [List.length_map, List.map_const', List.sum_replicate_nat]
  refine Nat.mul_le_mul_right _ ?_
  rw [List.length_take]
  omega
theorem trk_ref {R : Rs} {l : Addr} {xs : List D} (h : R l = some (.lst xs)) : DL.trk R (.ref l) = some xs := by simp [DL.trk, h]
theorem trk_cases {R : Rs} {d : D} {xs : List D} (h : DL.trk R d = some xs) : d = .lst xs ∨ ∃ l, d = .ref l ∧ R l = some (.lst xs) := by
  unfold DL.trk at h
  split at h
  · cases h; exact .inl rfl
  · split at h
    · rename_i e; cases h; exact .inr ⟨_, rfl, e⟩
    · cases h
  · cases h
def nmL (xs : List Str) : Option D := some (.lst (xs.map D.str))
def WAll (ns : List Str) (n : Nat) (R : Rs) (i : Nat) (s' : DSt) (R' : Rs) : Prop := (∀ a ro, R a = some ro → R' a = some ro) ∧ ∃ (L : D) (j4 j5 j6 : Option D), DL.trk R' L = some (rowsD (lay ns i)) ∧ s' = [nmL ns, some (.int n), some (.lst (rowsD (allR ns i))), some L, j4, j5, j6, none]
def WIn (ns : List Str) (n : Nat) (i : Nat) (R : Rs) (p : Addr) (L : D) (j4 : Option D) (j : Nat) (s' : DSt) (R' : Rs) : Prop := ∃ j6 : Option D, R' = put R p (.lst (rowsD (((lay ns i).take j).flatMap fun r => ns.map fun x => r ++ [x]))) ∧ s' = [nmL ns, some (.int n), some (.lst (rowsD (allR ns i))), some L, j4, some (.ref p), j6, none]
theorem ok_all (F : Fun K "_law_all" "_law_all" s_law_all f fd) (Z : Blt mg bl) : FnG P w K mg base CX0 1 f fd ["_law_names_here", "_law_most"] (spOf K spAllR) := by
  refine okD F sc_law_all (fun ds R Q E h => by obtain ⟨ns, n, rfl, _⟩ := h; rfl) fun cdv A outer s H E gd hr => ?_
  refine ⟨_, (dss_cut (ds_par (i := 2) (j := 3) rfl sc_law_all.nd rfl rfl (by decide) rfl rfl (da_cons (de_lstF da_nil) (da_cons (de_lstF (da_cons (de_tup da_nil) da_nil)) da_nil)) rfl)
    (dss_cons (ds_for PassesOwn.never rfl (di_range1 (by rfl) (Z _ (by decide)) (dv 1)) (dg_name (i := 4) sc_law_all.nd rfl (.inl rfl)) (dss_cons (ds_asg (de_lst da_nil) (dg_name (i := 5) sc_law_all.nd rfl (.inl rfl)))
      (dss_cons (ds_for PassesOwn.never rfl (di_list (dv 3)) (dg_name (i := 6) sc_law_all.nd rfl (.inr rfl)) (dss_one (ds_expr (de_bm PySem.F.plainAttrs_list PySem.F.slot_list_extend PySem.F.type_list_extend md_extend (dv 5) (da_cons (de_lcF (own := [("_law_name", 7)]) rfl sc_law_all.nd (lcd (di_list (dv 0)) (blkOk_by (N := n_law_all) (sc := defScope s_law_all) (by decide +kernel)) (fun _ _ _ _ _ => (dgw_name (i := 7) sc_law_all.nd rfl (.inl rfl))) (fun _ _ _ _ _ => dts_nil) (fun _ _ _ _ _ => (de_op od_catT (dv 6) (de_tup (da_cons (dv 7) da_nil)))))) da_nil)))))
      (dss_cons (ds_asg (dv 5) (dg_name (i := 3) sc_law_all.nd rfl (.inl rfl)))
      (dss_one (ds_asg (de_op od_catF (dv 2) (dv 3)) (dg_name (i := 2) sc_law_all.nd rfl (.inl rfl))))))))
    (dss_one (ds_ret (dv 2))))), fun ds R Qd Ed h => ?_⟩
  obtain ⟨ns, n, rfl, hns, hn, q⟩ := h
  refine (show dCut _ _ _ _ _ from ?_)
  refine ⟨fun s' R' => R' = R ∧ s' = [some (.lst (ns.map D.str)), some (.int n), some (.lst []), some (.lst (rowsD (lay ns 0))), none, none, none, none], ?_, ?_⟩
  · simp only [dSeq, dGetK, rdInK, dGetT, dInT, rdSetK, dNewK, dDcF, dDc2F, dIEnum, dIZip, dISeq, dStar, dCont, dBrk, dOrT, rdInC, dCallK, dCVal, dMeth, dFld, dSetF, dNewF, dNew0F, dDisp, dPairs, dGet2, dGIndex, DL.keyOf, DL.keysOf, dCallL, dLam, dJoin, dJs, dFmtS, dRepl, dRaise, dCallX, dDelTail, dAugL, dXF, dAsg, dIf, dIfS, dB, dAnd, dOr, dNot, dAndV, dOrV, dNotV, dChain, dOp, dUn, dVar, dC, rdI0, rdI, dCB, dCall, rd1, dCons, dNil, dgName, dgSub, dgTup, dgLst, dSortSet, dgCons, dgNil, rdSetL, dRet, dLst, dLstF, dTup, dDrop, dNext, dPar, dBM, dBM0, dSl, dPart, dNoPart, dstart, dwipe, List.map_cons, List.map_nil, List.length_cons, List.length_nil, List.replicate_succ, List.replicate_zero, List.cons_append, List.nil_append, List.set_cons_zero, List.set_cons_succ, List.getElem?_cons_zero, List.getElem?_cons_succ, Nat.reduceAdd, Nat.reduceSub, Option.some.injEq, D.int.injEq, D.bl.injEq, D.str.injEq, D.ref.injEq, D.ty.injEq, D.tup.injEq, D.lst.injEq, D.rls.injEq, RO.lst.injEq, List.cons.injEq, exists_and_left, exists_eq_left', exists_eq_left, and_true, true_and, put_same, put_put, at0, at1, at2, ix30, ix31, ix32, and_assoc, dLcF, dLc, dLcT, dIRng1, dIRng2, dIRng3, dIStr, dITup, dILst, dYes, if_true, Bool.false_eq_true, if_false, eqS_ii, neS_ii, eqS_ss, neS_ss, decide_eq_true_eq, sq_tup, sq_lst, sq_rls, lo_lst, lo_rls, tr_lst, isi_tt, isi_st, isi_nt, isi_bt, isi_it, isi_lt, isi_ts, isi_ss, isi_ns, isi_bs, isi_is, isi_ls, List.append_nil, sz0, sz1, sz2, sz3, sz4, sz5, sz6, sl0, sl1, sl2, ty_put, ty_str, lo_put, sq_put, tr_put, reduceCtorEq, false_and, and_false, exists_false, or_false, false_or, Bool.not_false, Bool.not_true, List.isEmpty_nil, List.isEmpty_cons, app1_empty, rdInI]
    rfl
  rintro s1 R1 ⟨rfl, rfl⟩
  have hp5 : ∀ {k}, k ≤ 6 → 2 ^ k ≤ 64 := fun {k} h => Nat.pow_le_pow_right (by decide) h
  simp only [dFor, dSeq, dGetK, rdInK, dGetT, dInT, rdSetK, dNewK, dDcF, dDc2F, dIEnum, dIZip, dISeq, dStar, dCont, dBrk, dOrT, rdInC, dCallK, dCVal, dMeth, dFld, dSetF, dNewF, dNew0F, dDisp, dPairs, dGet2, dGIndex, DL.keyOf, DL.keysOf, dCallL, dLam, dJoin, dJs, dFmtS, dRepl, dRaise, dCallX, dDelTail, dAugL, dXF, dAsg, dIf, dIfS, dB, dAnd, dOr, dNot, dAndV, dOrV, dNotV, dChain, dOp, dUn, dVar, dC, rdI0, rdI, dCB, dCall, rd1, dCons, dNil, dgName, dgSub, dgTup, dgLst, dSortSet, dgCons, dgNil, rdSetL, dRet, dLst, dLstF, dTup, dDrop, dNext, dPar, dBM, dBM0, dSl, dPart, dNoPart, dstart, dwipe, List.map_cons, List.map_nil, List.length_cons, List.length_nil, List.replicate_succ, List.replicate_zero, List.cons_append, List.nil_append, List.set_cons_zero, List.set_cons_succ, List.getElem?_cons_zero, List.getElem?_cons_succ, Nat.reduceAdd, Nat.reduceSub, Option.some.injEq, D.int.injEq, D.bl.injEq, D.str.injEq, D.ref.injEq, D.ty.injEq, D.tup.injEq, D.lst.injEq, D.rls.injEq, RO.lst.injEq, List.cons.injEq, exists_and_left, exists_eq_left', exists_eq_left, and_true, true_and, put_same, put_put, at0, at1, at2, ix30, ix31, ix32, and_assoc, dLcF, dLc, dLcT, dIRng1, dIRng2, dIRng3, dIStr, dITup, dILst, dYes, if_true, Bool.false_eq_true, if_false, eqS_ii, neS_ii, eqS_ss, neS_ss, decide_eq_true_eq, sq_tup, sq_lst, sq_rls, lo_lst, lo_rls, tr_lst, isi_tt, isi_st, isi_nt, isi_bt, isi_it, isi_lt, isi_ts, isi_ss, isi_ns, isi_bs, isi_is, isi_ls, List.append_nil, sz0, sz1, sz2, sz3, sz4, sz5, sz6, sl0, sl1, sl2, ty_put, ty_str, lo_put, sq_put, tr_put, reduceCtorEq, false_and, and_false, exists_false, or_false, false_or, Bool.not_false, Bool.not_true, List.isEmpty_nil, List.isEmpty_cons, app1_empty, rdInI]
  refine ⟨n, rfl, by omega, WAll ns n R1, ⟨fun a ro h => h, _, none, none, none, rfl, rfl⟩, fun _ _ _ _ _ => trivial, ?_, ?_⟩
  · rintro i x s' R' hx ⟨ho, L, j4, j5, j6, hL, rfl⟩ p hp
    obtain ⟨rfl, hi⟩ := range_step hx
    refine ⟨L, rfl, rowsD (lay ns i), ?_⟩
    rcases trk_cases hL with rfl | ⟨l, rfl, hl⟩
    · refine .inl ⟨rfl, WIn ns n i R' p _ (some (.int i)), ⟨_, rfl, rfl⟩, fun _ _ _ _ _ => trivial, ?_, ?_⟩
      · rintro j x s' R2 hx ⟨j6, rfl, rfl⟩
        obtain ⟨r, rfl, hr, hrj, hrt⟩ := take_step (c := fun r : List Str => D.tup (r.map D.str)) hx
        refine ⟨_, rfl, .inl ⟨rfl, _, put_same⟩, _, rfl, _, .inl ⟨rfl, by rw [List.length_map]; simp only [sizeLine]; omega, PvM ns (fun x => .tup ((r ++ [x]).map D.str)) (put R' p (.lst (rowsD (((lay ns i).take j).flatMap fun r => ns.map fun x => r ++ [x])))), ⟨rfl, rfl⟩, fun _ _ _ _ _ => trivial, ?_, ?_⟩⟩
        · rintro k x acc R3 hx hlk hP
          obtain ⟨y, rfl, hy, hyk, hyt⟩ := take_step (c := D.str) hx
          have go := PvM.go (g := fun x => D.tup ((r ++ [x]).map D.str)) (R := R3) hyt
          obtain ⟨rfl, rfl⟩ := hP
          refine ⟨_, rfl, _, rfl, _, rfl, by rw [List.length_map]; have := lay_row i r hr; simp only [sizeLine]; omega, ?_⟩
          rw [List.map_append] at go
          exact go
        · rintro acc R3 hlk hP
          obtain ⟨rfl, rfl⟩ := hP.end (by rw [List.length_map])
          refine ⟨p, rfl, _, put_same, ?_, _, ?_, rfl⟩
          · have h1 := lay_pre hns i j
            have h2 := hp5 (k := i + 1) (by omega)
            show (rowsD _).length + _ ≤ _
            unfold rowsD
            rw [List.length_map, List.length_map]
            simp only [sizeLine]; omega
          · rw [put_put, hrt, List.flatMap_append]
            show put R' p (.lst (rowsD _ ++ _)) = put R' p (.lst (rowsD _))
            unfold rowsD
            rw [List.map_append]
            congr 2
            simp
      · rintro s' R2 ⟨j6, rfl, rfl⟩
        have el : (rowsD (lay ns i)).length = (lay ns i).length := List.length_map ..
        rw [el, List.take_length]
        refine ⟨_, rfl, _, rfl, _, rfl, _, rfl, rowsD (lay ns (i + 1)), trk_ref put_same, ?_, fun a ro e => by rw [put_ne (by rintro rfl; rw [ho a ro e] at hp; cases hp)]; exact ho a ro e, .ref p, some (.int i), some (.ref p), j6, trk_ref put_same, ?_⟩
        · have h1 := lay_len hns (i + 1)
          have h2 := all_len hns i
          have h3 := hp5 (k := i + 1) (by omega)
          unfold rowsD
          rw [List.length_map, List.length_map]
          simp only [sizeLine]; omega
        · have : rowsD (allR ns i) ++ rowsD (lay ns (i + 1)) = rowsD (allR ns (i + 1)) := by unfold rowsD; rw [← List.map_append]; rfl
          rw [this]
          rfl
    · have hlp : l ≠ p := by rintro rfl; rw [hl] at hp; cases hp
      refine .inr ⟨l, rfl, by rw [put_ne hlp]; exact hl, WIn ns n i R' p _ (some (.int i)), ⟨_, rfl, rfl⟩, ?_, ?_, ?_⟩
      · rintro j s' R2 _ ⟨j6, rfl, rfl⟩
        rw [put_ne hlp]; exact hl
      · rintro j x s' R2 hx ⟨j6, rfl, rfl⟩
        obtain ⟨r, rfl, hr, hrj, hrt⟩ := take_step (c := fun r : List Str => D.tup (r.map D.str)) hx
        refine ⟨_, rfl, .inl ⟨rfl, _, put_same⟩, _, rfl, _, .inl ⟨rfl, by rw [List.length_map]; simp only [sizeLine]; omega, PvM ns (fun x => .tup ((r ++ [x]).map D.str)) (put R' p (.lst (rowsD (((lay ns i).take j).flatMap fun r => ns.map fun x => r ++ [x])))), ⟨rfl, rfl⟩, fun _ _ _ _ _ => trivial, ?_, ?_⟩⟩
        · rintro k x acc R3 hx hlk hP
          obtain ⟨y, rfl, hy, hyk, hyt⟩ := take_step (c := D.str) hx
          have go := PvM.go (g := fun x => D.tup ((r ++ [x]).map D.str)) (R := R3) hyt
          obtain ⟨rfl, rfl⟩ := hP
          refine ⟨_, rfl, _, rfl, _, rfl, by rw [List.length_map]; have := lay_row i r hr; simp only [sizeLine]; omega, ?_⟩
          rw [List.map_append] at go
          exact go
        · rintro acc R3 hlk hP
          obtain ⟨rfl, rfl⟩ := hP.end (by rw [List.length_map])
          refine ⟨p, rfl, _, put_same, ?_, _, ?_, rfl⟩
          · have h1 := lay_pre hns i j
            have h2 := hp5 (k := i + 1) (by omega)
            show (rowsD _).length + _ ≤ _
            unfold rowsD
            rw [List.length_map, List.length_map]
            simp only [sizeLine]; omega
          · rw [put_put, hrt, List.flatMap_append]
            show put R' p (.lst (rowsD _ ++ _)) = put R' p (.lst (rowsD _))
            unfold rowsD
            rw [List.map_append]
            congr 2
            simp
      · rintro s' R2 ⟨j6, rfl, rfl⟩
        have el : (rowsD (lay ns i)).length = (lay ns i).length := List.length_map ..
        rw [el, List.take_length]
        refine ⟨_, rfl, _, rfl, _, rfl, _, rfl, rowsD (lay ns (i + 1)), trk_ref put_same, ?_, fun a ro e => by rw [put_ne (by rintro rfl; rw [ho a ro e] at hp; cases hp)]; exact ho a ro e, .ref p, some (.int i), some (.ref p), j6, trk_ref put_same, ?_⟩
        · have h1 := lay_len hns (i + 1)
          have h2 := all_len hns i
          have h3 := hp5 (k := i + 1) (by omega)
          unfold rowsD
          rw [List.length_map, List.length_map]
          simp only [sizeLine]; omega
        · have : rowsD (allR ns i) ++ rowsD (lay ns (i + 1)) = rowsD (allR ns (i + 1)) := by unfold rowsD; rw [← List.map_append]; rfl
          rw [this]
          rfl
  · rintro s' R' ⟨ho, L, j4, j5, j6, hL, rfl⟩
    rw [List.length_map, List.length_range]
    exact ⟨_, rfl, finS ho q⟩
end

end Law
end
section
set_option Elab.async false
set_option maxRecDepth 100000
set_option maxHeartbeats 4000000
set_option linter.all false
set_option autoImplicit false
namespace Law
open PySem PySem.Spec PyProof.Rows L2 DL TL TrA TrA.Tr
section
variable [TabCtx]
theorem cls_le : ∀ (k : Nat) {d : D}, isN (k + 1) d = true → (clsN (k + 1) d).length ≤ 4 ^ k
  | 0, d, h => by
    obtain ⟨x, e, rfl, hc⟩ := isN_form h
    rcases hc with ⟨rfl, y, rfl, hy⟩ | ⟨hx, ps, rfl, hp2, hp4, hps⟩ | ⟨rfl, he⟩
    · rw [clsN_one]; exact Nat.le_refl _
    · match ps, hp2, hps with
      | p :: ps, _, hps => cases hps p (by simp)
    · cases he
  | k + 1, d, h => by
    obtain ⟨x, e, rfl, hc⟩ := isN_form h
    have h1 : 1 ≤ 4 ^ k := Nat.pow_pos (by decide)
    have h2 : 4 ^ (k + 1) = 4 ^ k * 4 := Nat.pow_succ ..
    rcases hc with ⟨rfl, y, rfl, hy⟩ | ⟨hx, ps, rfl, hp2, hp4, hps⟩ | ⟨rfl, he⟩
    · rw [clsN_one]; show 1 ≤ _; omega
    · have key : ∀ l : List D, (∀ p ∈ l, isN (k + 1) p = true) → (l.flatMap (clsN (k + 1))).length ≤ l.length * 4 ^ k := by
        intro l
        induction l with
        | nil => intro _; simp
        | cons p l ih =>
          intro hl
          have a := cls_le k (hl p (by simp))
          have b := ih fun q hq => hl q (by simp [hq])
          rw [List.flatMap_cons, List.length_append, List.length_cons, Nat.add_mul]
          omega
      have := key ps hps
      have h3 : ps.length * 4 ^ k ≤ 4 * 4 ^ k := Nat.mul_le_mul_right _ hp4
      rcases hx with rfl | rfl
      · rw [clsN_any]; omega
      · rw [clsN_row]; omega
    · rw [clsN_many]
      have := cls_le k he
      omega
theorem cls2 {d : D} (h : isN 2 d = true) : (clsN 2 d).length ≤ 4 := cls_le 1 h
theorem patB_of {d : D} (h : isN 6 d = true) (hc : (clsN 6 d).length ≤ 12) : patB d = true := by
  unfold patB
  rw [h, decide_eq_true hc]; rfl
theorem pat_of {k : Nat} {d : D} (h : isN k d = true) (hk : k ≤ 6) (hc : (clsN k d).length ≤ 12) : patB d = true := by
  obtain ⟨h1, h2, _⟩ := upK h hk
  exact patB_of h1 (by rw [h2]; exact hc)
abbrev anyD (d e : D) : D := .tup [.str "any", .tup [d, e]]
abbrev rowD (d e : D) : D := .tup [.str "row", .tup [d, e]]
abbrev manyD (d : D) : D := .tup [.str "many", d]
theorem any_N {k : Nat} {d e : D} (hd : isN k d = true) (he : isN k e = true) : isN (k + 1) (anyD d e) = true := by
  rw [isN_any]
  simp [hd, he]
theorem row_N {k : Nat} {d e : D} (hd : isN k d = true) (he : isN k e = true) : isN (k + 1) (rowD d e) = true := by
  rw [isN_row]
  simp [hd, he]
theorem any_P {d e : D} (hd : isN 2 d = true) (he : isN 2 e = true) : patB (anyD d e) = true := pat_of (any_N hd he) (by decide) (by
  rw [clsN_any]
  have := cls2 hd; have := cls2 he
  simp only [List.flatMap_cons, List.flatMap_nil, List.length_append, List.length_nil]; omega)
theorem row_P {d e : D} (hd : isN 2 d = true) (he : isN 2 e = true) : patB (rowD d e) = true := pat_of (row_N hd he) (by decide) (by
  rw [clsN_row]
  have := cls2 hd; have := cls2 he
  simp only [List.flatMap_cons, List.flatMap_nil, List.length_append, List.length_nil]; omega)
theorem one_P {d : D} (hd : isN 2 d = true) : patB d = true := pat_of hd (by decide) (by have := cls2 hd; omega)
theorem many_P {d : D} (hd : isN 2 d = true) : patB (manyD d) = true := pat_of (k := 3) (by rw [isN_many]; exact hd) (by decide) (by rw [clsN_many]; have := cls2 hd; omega)
theorem many2_P {d : D} (hd : isN 2 d = true) : patB (manyD (manyD d)) = true := pat_of (k := 4) (by rw [isN_many, isN_many]; exact hd) (by decide) (by rw [clsN_many, clsN_many]; have := cls2 hd; omega)
theorem acc_k {k : Nat} {d : D} (h : isN k d = true) (hk : k ≤ 6) {ys : List Str} (hne : ys ≠ []) : accP d ys = true ↔ Lang k d ys := by
  obtain ⟨h1, _, h3⟩ := upK h hk
  rw [accP_lang h1 hne, h3]
theorem lang_ne {k : Nat} {d : D} (h : isN k d = true) : ¬ Lang k d [] := (add_lang k h m00 m00_ok).ne
theorem f_any {d e : D} (hd : isN 2 d = true) (he : isN 2 e = true) {ys : List Str} (hne : ys ≠ []) : accP (anyD d e) ys = (accP d ys || accP e ys) := by
  rw [Bool.eq_iff_iff, Bool.or_eq_true, acc_k (any_N hd he) (by decide) hne, acc_k hd (by decide) hne, acc_k he (by decide) hne, lang_any]
  simp
theorem f_row {d e : D} (hd : isN 2 d = true) (he : isN 2 e = true) {ys : List Str} (hne : ys ≠ []) : accP (rowD d e) ys = cutsB d e ys := by
  rw [Bool.eq_iff_iff, acc_k (row_N hd he) (by decide) hne, lang_row]
  unfold cutsB
  rw [List.any_eq_true]
  constructor
  · rintro ⟨u, v, rfl, hu, v, r, rfl, hv, hr⟩
    have hr : r = [] := hr
    subst hr
    rw [List.append_nil]
    have hu0 : u ≠ [] := by rintro rfl; exact lang_ne hd hu
    have hv0 : v ≠ [] := by rintro rfl; exact lang_ne he hv
    have l1 := List.length_pos_iff.mpr hu0
    have l2 := List.length_pos_iff.mpr hv0
    refine ⟨u.length - 1, List.mem_range.mpr (by rw [List.length_append]; omega), ?_⟩
    rw [show u.length - 1 + 1 = u.length by omega, List.take_left, List.drop_left, Bool.and_eq_true, acc_k hd (by decide) hu0, acc_k he (by decide) hv0]
    exact ⟨hu, hv⟩
  · rintro ⟨k, hk, h⟩
    have hk := List.mem_range.mp hk
    rw [Bool.and_eq_true, acc_k hd (by decide) (fun z => by have := congrArg List.length z; rw [List.length_take] at this; have : min (k + 1) ys.length = 0 := this; omega), acc_k he (by decide) (fun z => by have := congrArg List.length z; rw [List.length_drop] at this; have : ys.length - (k + 1) = 0 := this; omega)] at h
    exact ⟨_, _, (List.take_append_drop (k + 1) ys).symm, h.1, _, [], (List.append_nil _).symm, h.2, rfl⟩
theorem good_at {d : D} (hd : isN 2 d = true) (ys : List Str) : ∀ n, n ≤ ys.length → ∀ a, a ≤ n → ((goodL d ys n)[a]?.getD false = true ↔ a = 0 ∨ Plus (Lang 2 d) (ys.take a))
  | 0, _, a, ha => by
    have : a = 0 := by omega
    subst this
    exact ⟨fun _ => .inl rfl, fun _ => rfl⟩
  | n + 1, hn, a, ha => by
    have ih := good_at hd ys n (by omega)
    have gl := good_len d ys n
    unfold goodL
    by_cases h1 : a ≤ n
    · rw [List.getElem?_append_left (by omega)]
      exact ih a h1
    · have : a = n + 1 := by omega
      subst this
      rw [List.getElem?_append_right (by omega), gl, Nat.sub_self]
      show ((List.range (n + 1)).any _) = true ↔ _
      rw [List.any_eq_true]
      have seg : ∀ b, b ≤ n → (ys.take (n + 1)).drop b ≠ [] := fun b hb z => by
        have := congrArg List.length z
        rw [List.length_drop, List.length_take] at this
        have : min (n + 1) ys.length - b = 0 := this
        omega
      constructor
      · rintro ⟨b, hb, h⟩
        have hb := List.mem_range.mp hb
        rw [Bool.and_eq_true, ih b (by omega), acc_k hd (by decide) (seg b (by omega))] at h
        refine .inr ?_
        have e := List.take_append_drop b (ys.take (n + 1))
        rw [List.take_take, Nat.min_eq_left (by omega)] at e
        rcases h with ⟨rfl | hp, hl⟩
        · exact .one (by simpa using hl)
        · rw [← e]; exact hp.app (.one hl)
      · intro h
        have h := h.resolve_left (by omega)
        obtain ⟨v, r, e, hr, hv⟩ := h.last
        have hr0 : r ≠ [] := by rintro rfl; exact lang_ne hd hr
        have l1 := List.length_pos_iff.mpr hr0
        have el := congrArg List.length e
        rw [List.length_take, List.length_append] at el
        refine ⟨v.length, List.mem_range.mpr (by omega), ?_⟩
        rw [Bool.and_eq_true, ih v.length (by omega), acc_k hd (by decide) (seg _ (by omega))]
        have e1 : ys.take v.length = v := by
          have := congrArg (List.take v.length) e
          rw [List.take_take, Nat.min_eq_left (by omega), List.take_left] at this
          exact this
        rw [e1, e, List.drop_left]
        exact ⟨hv.imp (fun z => by rw [z]; rfl) id, hr⟩
theorem f_many {d : D} (hd : isN 2 d = true) {ys : List Str} (hne : ys ≠ []) : accP (manyD d) ys = (goodL d ys ys.length)[ys.length]?.getD false := by
  have l1 := List.length_pos_iff.mpr hne
  rw [Bool.eq_iff_iff, acc_k (k := 3) (by rw [isN_many]; exact hd) (by decide) hne, lang_many, good_at hd ys _ (Nat.le_refl _) _ (Nat.le_refl _), List.take_length]
  exact ⟨.inr, fun h => h.resolve_left (by omega)⟩
theorem f_many2 {d : D} (hd : isN 2 d = true) {ys : List Str} (hne : ys ≠ []) : accP (manyD (manyD d)) ys = accP (manyD d) ys := by
  rw [Bool.eq_iff_iff, acc_k (k := 4) (by rw [isN_many, isN_many]; exact hd) (by decide) hne, acc_k (k := 3) (by rw [isN_many]; exact hd) (by decide) hne, lang_many, lang_many]
  have e : Lang 3 (manyD d) = Plus (Lang 2 d) := funext fun w => lang_many
  rw [e]
  exact ⟨Plus.flat, .one⟩
theorem lay_mem {ns : List Str} : ∀ n, ∀ r ∈ lay ns n, ∀ x ∈ r, x ∈ ns
  | 0, r, h, x, hx => by rw [List.mem_singleton.mp h] at hx; cases hx
  | n + 1, r, h, x, hx => by
    obtain ⟨r, hr, h⟩ := List.mem_flatMap.mp h
    obtain ⟨y, hy, rfl⟩ := List.mem_map.mp h
    rcases List.mem_append.mp hx with z | z
    · exact lay_mem n r hr x z
    · rw [List.mem_singleton.mp z]; exact hy
theorem all_mem {ns : List Str} : ∀ n, ∀ r ∈ allR ns n, r ≠ [] ∧ r.length ≤ n ∧ ∀ x ∈ r, x ∈ ns
  | 0, r, h => by cases h
  | n + 1, r, h => by
    rcases List.mem_append.mp h with z | z
    · obtain ⟨a, b, c⟩ := all_mem n r z
      exact ⟨a, by omega, c⟩
    · have := lay_row (n + 1) r z
      exact ⟨(fun e => by subst e; cases this), by omega, lay_mem _ r z⟩
end

end Law
end
section
set_option Elab.async false
set_option maxRecDepth 100000
set_option linter.all false
set_option autoImplicit false
/-! DLI: a, b, c = x, y, z -/
namespace DL
open PySem PySem.Spec PyProof.Rows L2
variable [TabCtx]
def dPar3 (i j l : Nat) (ta : DTA) : DTS := fun D s R => ta s R fun ds R1 => ∃ x y z, ds = [x, y, z] ∧ D.nx (((s.set i (some x)).set j (some y)).set l (some z)) R1
section
variable {X : CxF} {pos : Pos}
theorem ds_par3 {i j l : Nat} {x y z : Str} {a b c : Expr} {ta : DTA} {px py pz pt : Pos} {kt k2 pt2} (hc : X.calm = true) (hN : X.N.Nodup) (hi : X.N[i]? = some x) (hj : X.N[j]? = some y) (hl : X.N[l]? = some z) (hij : i ≠ j) (hil : i ≠ l) (hjl : j ≠ l)
    (hx : X.env.scope.names.lookup x = some .local) (hy : X.env.scope.names.lookup y = some .local) (hz : X.env.scope.names.lookup z = some .local) (ha : DA X [a, b, c] ta)
    (hw : swappedStores [.Tuple [.Name x px, .Name y py, .Name z pz] kt pt] (.Tuple [a, b, c] k2 pt2) X.env = pure (some [x, y, z]))
    (hs : swapsWithSole [.Tuple [.Name x px, .Name y py, .Name z pz] kt pt] (.Tuple [a, b, c] k2 pt2) pos.line X.env = pure false := by rfl) :
    DS X (.Assign [.Tuple [.Name x px, .Name y py, .Name z pz] kt pt] (.Tuple [a, b, c] k2 pt2) pos) (dPar3 i j l ta) := by
  obtain ⟨t0, a1, a2⟩ := ha
  refine ⟨_, ps_par3 hc hN hi hj hl hij hil hjl hx hy hz a1 hw hs, fun G sd s R H Ed E sv rh q k => a2 G sd s R H _ _ sv rh q fun G1 R1 H1 ds vs e1 rh1 dv1 q1 => ?_⟩
  obtain ⟨u, v, w, rfl, q2⟩ := q1
  cases dv1 with
  | cons d1 r =>
    cases r with
    | cons d2 r =>
      cases r with
      | cons d3 r => cases r; exact ⟨_, _, _, rfl, k.nx G1 _ _ R1 H1 e1 ((((sv.st e1).set i d1).set j d2).set l d3) rh1 q2⟩
end
end DL
end
section
set_option Elab.async false
set_option maxRecDepth 100000
set_option maxHeartbeats 4000000
set_option linter.all false
set_option autoImplicit false
namespace Law
open PySem PySem.Spec PyProof.Rows L2 DL TL TrA TrA.Tr
section
variable [TabCtx] {P : Program} {w : World} {K : KB} {mg : Str → Option Value} {base : Heap} {f : Addr} {fd : FuncData} {plC pC : Addr}
abbrev s_law : Stmt := top 29
abbrev n_law : List Str := ["_law_script", "_law_at", "_law_bag_here", "_law_names_here", "_law_some", "_law_turn", "_law_one", "_law_other", "_law_both", "_law_back", "_law_line", "_law_row"]
theorem sc_law : FnScope n_law ["_law_script"] (defScope s_law) := ⟨rfl, rfl, rfl, by decide +kernel, rfl, by decide +kernel, by decide +kernel⟩
def spLaw : DSp := fun ds R Q _ => ∃ ns : List Int, ds = [.rls (ns.map D.int)] ∧ ns.length ≤ 63 ∧ ∀ R', Q (.bl true) R'
abbrev scr (ns : List Int) : Option D := some (.rls (ns.map D.int))
abbrev nms (xs : List Str) : Option D := some (.lst (xs.map D.str))
def rowOk (r : List Str) : Prop := r ≠ [] ∧ r.length ≤ 5 ∧ ∀ y ∈ r, nmB y = true
def W0 (ns : List Int) (s' : DSt) (R' : Rs) : Prop := ∃ j1 j2 j3 j4 j5 j6 j7 j8 j9 j10 j11 : Option D, s' = [scr ns, j1, j2, j3, j4, j5, j6, j7, j8, j9, j10, j11]
def M1 (ns : List Int) (b : Addr) (s' : DSt) (R' : Rs) : Prop := Bag 0 R' b ∧ ∃ j1 j3 j4 j5 j6 j7 j8 j9 j10 j11 : Option D, s' = [scr ns, j1, some (.ref b), j3, j4, j5, j6, j7, j8, j9, j10, j11]
def M2 (ns : List Int) (b : Addr) (xs : List Str) (s' : DSt) (R' : Rs) : Prop := Bag 10 R' b ∧ ∃ j1 j4 j5 j6 j7 j8 j9 j10 j11 : Option D, s' = [scr ns, j1, some (.ref b), nms xs, j4, j5, j6, j7, j8, j9, j10, j11]
def M3 (ns : List Int) (b : Addr) (xs : List Str) (rs : List (List Str)) (n : Nat) (s' : DSt) (R' : Rs) : Prop := Bag n R' b ∧ ∃ j1 j5 j6 j7 j8 j9 j10 j11 : Option D, s' = [scr ns, j1, some (.ref b), nms xs, some (.lst (rowsD rs)), j5, j6, j7, j8, j9, j10, j11]
def M4 (ns : List Int) (b : Addr) (xs : List Str) (rs : List (List Str)) (n : Nat) (d e : D) (s' : DSt) (R' : Rs) : Prop := Bag n R' b ∧ ∃ j1 j5 j8 j9 j10 j11 : Option D, s' = [scr ns, j1, some (.ref b), nms xs, some (.lst (rowsD rs)), j5, some d, some e, j8, j9, j10, j11]
def M5 (ns : List Int) (b : Addr) (xs : List Str) (rs : List (List Str)) (n : Nat) (d e : D) (s' : DSt) (R' : Rs) : Prop := Bag n R' b ∧ ∃ j1 j5 j11 : Option D, s' = [scr ns, j1, some (.ref b), nms xs, some (.lst (rowsD rs)), j5, some d, some e, some (anyD d e), some (anyD e d), some (rowD d e), j11]
def PRow (b : Addr) (rows : List (List Str)) (i : Nat) (acc : List D) (R' : Rs) : Prop := ∃ rs : List (List Str), acc = rowsD rs ∧ (∀ r ∈ rs, rowOk r) ∧ Bag (10 + i) R' b
theorem neN {a b : Bool} {R : Rs} {A B : Rs → Prop} (e : a = b) (q : B R) : rdEqS true (.bl a) (.bl b) R (fun x R1 => ∃ c, x = .bl c ∧ if c = true then A R1 else B R1) := ⟨_, _, rfl, rfl, rfl, false, by subst e; simp, iteF (by decide) q⟩
theorem ok_law (F : Fun K "law" "law" s_law f fd) (Z : Blt mg bl) (c_law_bag : Cal P w K mg base 1 "_law_bag" spBag) (c_law_take : Cal P w K mg base 1 "_law_take" spTake) (c_law_names : Cal P w K mg base 2 "_law_names" spNames) (c_law_pattern : Cal P w K mg base 4 "_law_pattern" (spPattern 2)) (c_law_all : Cal P w K mg base 1 "_law_all" spAllR) (c_law_cuts : Cal P w K mg base 20 "_law_cuts" spCuts) (c_law_repeats : Cal P w K mg base 20 "_law_repeats" spRepeats) (c_law_walks : Cal P w K mg base 20 "_law_walks" spWalks) (c_matches : CalX P w K mg base 19 "matches" (spMat pC)) : FnG P w K mg base CX0 21 f fd ["_law_script"] (spOf K spLaw) := by
  refine okD F sc_law (fun ds R Q E h => by obtain ⟨ns, rfl, _⟩ := h; rfl) fun cdv A outer s H E gd hr => ?_
  refine ⟨_, (dss_cons (ds_for PassesOwn.never rfl (di_range1 (by rfl) (Z _ (by decide)) (de_callB (cd_max2 rfl) (by rfl) (Z _ (by decide)) bt_max (da_cons de_int (da_cons (de_callB (cd_min2 rfl) (by rfl) (Z _ (by decide)) bt_min (da_cons de_int (da_cons (de_callB cd_len (by rfl) (Z _ (by decide)) bt_len (da_cons (dv 0) da_nil)) da_nil))) da_nil)))) (dg_name (i := 1) sc_law.nd rfl (.inl rfl)) (dss_cut (ds_asg (de_c c_law_bag gd hr (by omega) (by rfl) (da_cons (dv 0) (da_cons (dv 1) da_nil))) (dg_name (i := 2) sc_law.nd rfl (.inr rfl)))
      (dss_cut (ds_asg (de_c c_law_names gd hr (by omega) (by rfl) (da_cons (dv 2) (da_cons (de_op od_add de_int (de_c c_law_take gd hr (by omega) (by rfl) (da_cons (dv 2) (da_cons de_int da_nil)))) da_nil))) (dg_name (i := 3) sc_law.nd rfl (.inl rfl)))
      (dss_cut (ds_setLcF (i := 4) (own := [("_law_row", 11)]) rfl sc_law.nd rfl rfl (sw_true rfl rfl rfl (by decide +kernel)) (lcd (di_list (de_c c_law_all gd hr (by omega) (by rfl) (da_cons (dv 3) (da_cons de_int da_nil)))) (blkOk_by (N := n_law) (sc := defScope s_law) (by decide +kernel)) (fun _ _ _ _ _ => (dgw_name (i := 11) sc_law.nd rfl (.inl rfl))) (fun _ _ _ _ _ => (dts_one (dw_or (dt_cmp od_lt (de_callB cd_len (by rfl) (Z _ (by decide)) bt_len (da_cons (dv 11) da_nil)) de_int (nomark _)) (dw_or1 (dt_cmp od_eqS (de_c c_law_take gd hr (by omega) (by rfl) (da_cons (dv 2) (da_cons de_int da_nil))) de_int (nomark _)))).dt)) (fun _ _ _ _ _ => (dv 11))))
      (dss_one (ds_for PassesOwn.never rfl (di_range1 (by rfl) (Z _ (by decide)) de_int) (dg_name (i := 5) sc_law.nd rfl (.inl rfl)) (dss_cut (ds_par (i := 6) (j := 7) rfl sc_law.nd rfl rfl (by decide) rfl rfl (da_cons (de_c c_law_pattern gd hr (by omega) (by rfl) (da_cons (dv 2) (da_cons (dv 3) (da_cons de_int da_nil)))) (da_cons (de_c c_law_pattern gd hr (by omega) (by rfl) (da_cons (dv 2) (da_cons (dv 3) (da_cons (de_op od_add de_int (de_c c_law_take gd hr (by omega) (by rfl) (da_cons (dv 2) (da_cons de_int da_nil)))) da_nil)))) da_nil)) rfl)
        (dss_cut (ds_par3 (i := 8) (j := 9) (l := 10) rfl sc_law.nd rfl rfl rfl (by decide) (by decide) (by decide) rfl rfl rfl (da_cons (de_tup (da_cons de_str (da_cons (de_tup (da_cons (dv 6) (da_cons (dv 7) da_nil))) da_nil))) (da_cons (de_tup (da_cons de_str (da_cons (de_tup (da_cons (dv 7) (da_cons (dv 6) da_nil))) da_nil))) (da_cons (de_tup (da_cons de_str (da_cons (de_tup (da_cons (dv 6) (da_cons (dv 7) da_nil))) da_nil))) da_nil))) rfl)
        (dss_one (ds_for PassesOwn.never rfl (di_list (dv 4)) (dg_name (i := 11) sc_law.nd rfl (.inl rfl)) (dss_cons (ds_if (dt_cmp od_neS (de_cX c_matches gd hr (by omega) takesNo (by rfl) (da_cons (dv 8) (da_cons (dv 11) da_nil))) (de_or (de_cX c_matches gd hr (by omega) takesNo (by rfl) (da_cons (dv 6) (da_cons (dv 11) da_nil))) (de_one (de_cX c_matches gd hr (by omega) takesNo (by rfl) (da_cons (dv 7) (da_cons (dv 11) da_nil))))) (nomark _)) (dss_one (ds_ret de_bl)) dss_nil)
          (dss_cons (ds_if (dw_or (dt_cmp od_neS (de_cX c_matches gd hr (by omega) takesNo (by rfl) (da_cons (dv 9) (da_cons (dv 11) da_nil))) (de_cX c_matches gd hr (by omega) takesNo (by rfl) (da_cons (dv 8) (da_cons (dv 11) da_nil))) (nomark _)) (dw_or1 (dt_cmp od_neS (de_cX c_matches gd hr (by omega) takesNo (by rfl) (da_cons (dv 10) (da_cons (dv 11) da_nil))) (de_c c_law_cuts gd hr (by omega) (by rfl) (da_cons (dv 6) (da_cons (dv 7) (da_cons (dv 11) da_nil)))) (nomark _)))).dt (dss_one (ds_ret de_bl)) dss_nil)
          (dss_cons (ds_if (dt_cmp od_neS (de_cX c_matches gd hr (by omega) takesNo (by rfl) (da_cons (de_tup (da_cons de_str (da_cons (dv 6) da_nil))) (da_cons (dv 11) da_nil))) (de_c c_law_repeats gd hr (by omega) (by rfl) (da_cons (dv 6) (da_cons (dv 11) da_nil))) (nomark _)) (dss_one (ds_ret de_bl)) dss_nil)
          (dss_cons (ds_if (dt_cmp od_neS (de_cX c_matches gd hr (by omega) takesNo (by rfl) (da_cons (de_tup (da_cons de_str (da_cons (de_tup (da_cons de_str (da_cons (dv 6) da_nil))) da_nil))) (da_cons (dv 11) da_nil))) (de_cX c_matches gd hr (by omega) takesNo (by rfl) (da_cons (de_tup (da_cons de_str (da_cons (dv 6) da_nil))) (da_cons (dv 11) da_nil))) (nomark _)) (dss_one (ds_ret de_bl)) dss_nil)
          (dss_one (ds_if (dt_cmp od_neS (de_cX c_matches gd hr (by omega) takesNo (by rfl) (da_cons (dv 10) (da_cons (dv 11) da_nil))) (de_c c_law_walks gd hr (by omega) (by rfl) (da_cons (dv 10) (da_cons (dv 11) da_nil))) (nomark _)) (dss_one (ds_ret de_bl)) dss_nil))))))))))))))))
    (dss_one (ds_ret de_bl))), fun ds R Qd Ed h => ?_⟩
  obtain ⟨ns, rfl, hl, q⟩ := h
  simp only [dFor, dSeq, dGetK, rdInK, dGetT, dInT, rdSetK, dNewK, dDcF, dDc2F, dIEnum, dIZip, dISeq, dStar, dCont, dBrk, dOrT, rdInC, dCallK, dCVal, dMeth, dFld, dSetF, dNewF, dNew0F, dDisp, dPairs, dGet2, dGIndex, DL.keyOf, DL.keysOf, dCallL, dLam, dJoin, dJs, dFmtS, dRepl, dRaise, dCallX, dDelTail, dAugL, dXF, dAsg, dIf, dIfS, dB, dAnd, dOr, dNot, dAndV, dOrV, dNotV, dChain, dOp, dUn, dVar, dC, rdI0, rdI, dCB, dCall, rd1, dCons, dNil, dgName, dgSub, dgTup, dgLst, dSortSet, dgCons, dgNil, rdSetL, dRet, dLst, dLstF, dTup, dDrop, dNext, dPar, dBM, dBM0, dSl, dPart, dNoPart, dstart, dwipe, List.map_cons, List.map_nil, List.length_cons, List.length_nil, List.replicate_succ, List.replicate_zero, List.cons_append, List.nil_append, List.set_cons_zero, List.set_cons_succ, List.getElem?_cons_zero, List.getElem?_cons_succ, Nat.reduceAdd, Nat.reduceSub, Option.some.injEq, D.int.injEq, D.bl.injEq, D.str.injEq, D.ref.injEq, D.ty.injEq, D.tup.injEq, D.lst.injEq, D.rls.injEq, RO.lst.injEq, List.cons.injEq, exists_and_left, exists_eq_left', exists_eq_left, and_true, true_and, put_same, put_put, at0, at1, at2, ix30, ix31, ix32, and_assoc, dLcF, dLc, dLcT, dIRng1, dIRng2, dIRng3, dIStr, dITup, dILst, dYes, if_true, Bool.false_eq_true, if_false, eqS_ii, neS_ii, eqS_ss, neS_ss, decide_eq_true_eq, sq_tup, sq_lst, sq_rls, lo_lst, lo_rls, tr_lst, isi_tt, isi_st, isi_nt, isi_bt, isi_it, isi_lt, isi_ts, isi_ss, isi_ns, isi_bs, isi_is, isi_ls, List.append_nil, sz0, sz1, sz2, sz3, sz4, sz5, sz6, sl0, sl1, sl2, ty_put, ty_str, lo_put, sq_put, tr_put, reduceCtorEq, false_and, and_false, exists_false, or_false, false_or, Bool.not_false, Bool.not_true, List.isEmpty_nil, List.isEmpty_cons, app1_empty, dPar3]
  rw [List.length_map]
  obtain ⟨n, en, hn⟩ : ∃ n : Nat, (if (if (ns.length : Int) < 2 then (ns.length : Int) else 2) > 1 then (if (ns.length : Int) < 2 then (ns.length : Int) else 2) else 1) = n ∧ n ≤ 2 := by
    by_cases h2 : (ns.length : Int) < 2
    · rw [if_pos h2]
      by_cases h1 : (ns.length : Int) > 1
      · exact ⟨ns.length, by rw [if_pos h1], by omega⟩
      · exact ⟨1, by rw [if_neg h1]; rfl, by decide⟩
    · rw [if_neg h2]
      exact ⟨2, by rw [if_pos (by decide)]; rfl, by decide⟩
  refine ⟨n, en, by omega, fun _ => W0 ns, ⟨_, _, _, _, _, _, _, _, _, _, _, rfl⟩, fun _ _ _ _ _ => trivial, ?_, fun s R _ => fin (q R)⟩
  rintro i x s' R' hx ⟨j1, j2, j3, j4, j5, j6, j7, j8, j9, j10, j11, rfl⟩
  obtain ⟨rfl, hi⟩ := range_step hx
  refine (show dCut _ _ _ _ _ from ?_)
  refine ⟨fun s' R' => ∃ b, M1 ns b s' R', ?_, ?_⟩
  · simp only [dSeq, dGetK, rdInK, dGetT, dInT, rdSetK, dNewK, dDcF, dDc2F, dIEnum, dIZip, dISeq, dStar, dCont, dBrk, dOrT, rdInC, dCallK, dCVal, dMeth, dFld, dSetF, dNewF, dNew0F, dDisp, dPairs, dGet2, dGIndex, DL.keyOf, DL.keysOf, dCallL, dLam, dJoin, dJs, dFmtS, dRepl, dRaise, dCallX, dDelTail, dAugL, dXF, dAsg, dIf, dIfS, dB, dAnd, dOr, dNot, dAndV, dOrV, dNotV, dChain, dOp, dUn, dVar, dC, rdI0, rdI, dCB, dCall, rd1, dCons, dNil, dgName, dgSub, dgTup, dgLst, dSortSet, dgCons, dgNil, rdSetL, dRet, dLst, dLstF, dTup, dDrop, dNext, dPar, dBM, dBM0, dSl, dPart, dNoPart, dstart, dwipe, List.map_cons, List.map_nil, List.length_cons, List.length_nil, List.replicate_succ, List.replicate_zero, List.cons_append, List.nil_append, List.set_cons_zero, List.set_cons_succ, List.getElem?_cons_zero, List.getElem?_cons_succ, Nat.reduceAdd, Nat.reduceSub, Option.some.injEq, D.int.injEq, D.bl.injEq, D.str.injEq, D.ref.injEq, D.ty.injEq, D.tup.injEq, D.lst.injEq, D.rls.injEq, RO.lst.injEq, List.cons.injEq, exists_and_left, exists_eq_left', exists_eq_left, and_true, true_and, put_same, put_put, at0, at1, at2, ix30, ix31, ix32, and_assoc, dLcF, dLc, dLcT, dIRng1, dIRng2, dIRng3, dIStr, dITup, dILst, dYes, if_true, Bool.false_eq_true, if_false, eqS_ii, neS_ii, eqS_ss, neS_ss, decide_eq_true_eq, sq_tup, sq_lst, sq_rls, lo_lst, lo_rls, tr_lst, isi_tt, isi_st, isi_nt, isi_bt, isi_it, isi_lt, isi_ts, isi_ss, isi_ns, isi_bs, isi_is, isi_ls, List.append_nil, sz0, sz1, sz2, sz3, sz4, sz5, sz6, sl0, sl1, sl2, ty_put, ty_str, lo_put, sq_put, tr_put, reduceCtorEq, false_and, and_false, exists_false, or_false, false_or, Bool.not_false, Bool.not_true, List.isEmpty_nil, List.isEmpty_cons, app1_empty, dPar3]
    exact ⟨ns, i, rfl, by omega, by omega, fun b o hb hB => ⟨b, hB, _, _, _, _, _, _, _, _, _, _, rfl⟩⟩
  rintro s1 R1 ⟨b, hB, j1, j3, j4, j5, j6, j7, j8, j9, j10, j11, rfl⟩
  refine (show dCut _ _ _ _ _ from ?_)
  refine ⟨fun s' R' => ∃ xs : List Str, xs ≠ [] ∧ xs.length ≤ 2 ∧ (∀ x ∈ xs, nmB x = true) ∧ M2 ns b xs s' R', ?_, ?_⟩
  · simp only [dSeq, dGetK, rdInK, dGetT, dInT, rdSetK, dNewK, dDcF, dDc2F, dIEnum, dIZip, dISeq, dStar, dCont, dBrk, dOrT, rdInC, dCallK, dCVal, dMeth, dFld, dSetF, dNewF, dNew0F, dDisp, dPairs, dGet2, dGIndex, DL.keyOf, DL.keysOf, dCallL, dLam, dJoin, dJs, dFmtS, dRepl, dRaise, dCallX, dDelTail, dAugL, dXF, dAsg, dIf, dIfS, dB, dAnd, dOr, dNot, dAndV, dOrV, dNotV, dChain, dOp, dUn, dVar, dC, rdI0, rdI, dCB, dCall, rd1, dCons, dNil, dgName, dgSub, dgTup, dgLst, dSortSet, dgCons, dgNil, rdSetL, dRet, dLst, dLstF, dTup, dDrop, dNext, dPar, dBM, dBM0, dSl, dPart, dNoPart, dstart, dwipe, List.map_cons, List.map_nil, List.length_cons, List.length_nil, List.replicate_succ, List.replicate_zero, List.cons_append, List.nil_append, List.set_cons_zero, List.set_cons_succ, List.getElem?_cons_zero, List.getElem?_cons_succ, Nat.reduceAdd, Nat.reduceSub, Option.some.injEq, D.int.injEq, D.bl.injEq, D.str.injEq, D.ref.injEq, D.ty.injEq, D.tup.injEq, D.lst.injEq, D.rls.injEq, RO.lst.injEq, List.cons.injEq, exists_and_left, exists_eq_left', exists_eq_left, and_true, true_and, put_same, put_put, at0, at1, at2, ix30, ix31, ix32, and_assoc, dLcF, dLc, dLcT, dIRng1, dIRng2, dIRng3, dIStr, dITup, dILst, dYes, if_true, Bool.false_eq_true, if_false, eqS_ii, neS_ii, eqS_ss, neS_ss, decide_eq_true_eq, sq_tup, sq_lst, sq_rls, lo_lst, lo_rls, tr_lst, isi_tt, isi_st, isi_nt, isi_bt, isi_it, isi_lt, isi_ts, isi_ss, isi_ns, isi_bs, isi_is, isi_ls, List.append_nil, sz0, sz1, sz2, sz3, sz4, sz5, sz6, sl0, sl1, sl2, ty_put, ty_str, lo_put, sq_put, tr_put, reduceCtorEq, false_and, and_false, exists_false, or_false, false_or, Bool.not_false, Bool.not_true, List.isEmpty_nil, List.isEmpty_cons, app1_empty, dPar3]
    refine take_ok hB (by omega) (by decide) (by decide) fun v o h0 h1 hB1 => ?_
    obtain ⟨v, rfl⟩ := Int.eq_ofNat_of_zero_le h0
    refine ⟨v, rfl, b, 1 + v, _, by rw [Int.natCast_add]; rfl, hB1, by omega, by decide, fun xs o2 hl2 hxs _ hB2 => ⟨xs, (fun e => by rw [e] at hl2; have : 0 = 1 + v := hl2; omega), by omega, fun x hx => (hxs x hx).1, ?_⟩⟩
    rw [put_put] at hB2 ⊢
    exact ⟨hB2.mono (by omega), _, _, _, _, _, _, _, _, _, rfl⟩
  clear hB
  rintro s2 R2 ⟨xs, hx0, hxl, hxs, hB, j1, j4, j5, j6, j7, j8, j9, j10, j11, rfl⟩
  refine (show dCut _ _ _ _ _ from ?_)
  refine ⟨fun s' R' => ∃ rs : List (List Str), rs.length ≤ 1000 ∧ (∀ r ∈ rs, rowOk r) ∧ M3 ns b xs rs 100 s' R', ?_, ?_⟩
  · simp only [dSeq, dGetK, rdInK, dGetT, dInT, rdSetK, dNewK, dDcF, dDc2F, dIEnum, dIZip, dISeq, dStar, dCont, dBrk, dOrT, rdInC, dCallK, dCVal, dMeth, dFld, dSetF, dNewF, dNew0F, dDisp, dPairs, dGet2, dGIndex, DL.keyOf, DL.keysOf, dCallL, dLam, dJoin, dJs, dFmtS, dRepl, dRaise, dCallX, dDelTail, dAugL, dXF, dAsg, dIf, dIfS, dB, dAnd, dOr, dNot, dAndV, dOrV, dNotV, dChain, dOp, dUn, dVar, dC, rdI0, rdI, dCB, dCall, rd1, dCons, dNil, dgName, dgSub, dgTup, dgLst, dSortSet, dgCons, dgNil, rdSetL, dRet, dLst, dLstF, dTup, dDrop, dNext, dPar, dBM, dBM0, dSl, dPart, dNoPart, dstart, dwipe, List.map_cons, List.map_nil, List.length_cons, List.length_nil, List.replicate_succ, List.replicate_zero, List.cons_append, List.nil_append, List.set_cons_zero, List.set_cons_succ, List.getElem?_cons_zero, List.getElem?_cons_succ, Nat.reduceAdd, Nat.reduceSub, Option.some.injEq, D.int.injEq, D.bl.injEq, D.str.injEq, D.ref.injEq, D.ty.injEq, D.tup.injEq, D.lst.injEq, D.rls.injEq, RO.lst.injEq, List.cons.injEq, exists_and_left, exists_eq_left', exists_eq_left, and_true, true_and, put_same, put_put, at0, at1, at2, ix30, ix31, ix32, and_assoc, dLcF, dLc, dLcT, dIRng1, dIRng2, dIRng3, dIStr, dITup, dILst, dYes, if_true, Bool.false_eq_true, if_false, eqS_ii, neS_ii, eqS_ss, neS_ss, decide_eq_true_eq, sq_tup, sq_lst, sq_rls, lo_lst, lo_rls, tr_lst, isi_tt, isi_st, isi_nt, isi_bt, isi_it, isi_lt, isi_ts, isi_ss, isi_ns, isi_bs, isi_is, isi_ls, List.append_nil, sz0, sz1, sz2, sz3, sz4, sz5, sz6, sl0, sl1, sl2, ty_put, ty_str, lo_put, sq_put, tr_put, reduceCtorEq, false_and, and_false, exists_false, or_false, false_or, Bool.not_false, Bool.not_true, List.isEmpty_nil, List.isEmpty_cons, app1_empty, dPar3]
    have hal := all_len hxl 5
    refine ⟨xs, 5, rfl, hxl, by decide, _, .inl ⟨rfl, by unfold rowsD; rw [List.length_map]; simp only [sizeLine]; omega, PRow b (allR xs 5), ⟨[], rfl, (fun r h => by cases h), hB⟩, fun _ _ _ _ _ => trivial, ?_, ?_⟩⟩
    · rintro k x acc R' hx hlk ⟨rs, rfl, hrs, hB1⟩
      obtain ⟨r, rfl, hr, hrk, hrt⟩ := take_step (c := fun r : List Str => D.tup (r.map D.str)) hx
      have hk := (List.getElem?_eq_some_iff.mp hrk).1
      obtain ⟨h1, h2, h3⟩ := all_mem 5 r hr
      have hro : rowOk r := ⟨h1, h2, fun y hy => hxs y (h3 y hy)⟩
      have more : ∀ R3, Bag (10 + (k + 1)) R3 b → PRow b (allR xs 5) (k + 1) (rowsD rs ++ [.tup (r.map D.str)]) R3 := fun R3 hb => ⟨rs ++ [r], by unfold rowsD; rw [List.map_append]; rfl, fun y hy => (List.mem_append.mp hy).elim (hrs y) fun z => by rw [List.mem_singleton.mp z]; exact hro, hb⟩
      refine ⟨_, rfl, ?_⟩
      split
      · exact more _ (hB1.mono (by omega))
      · refine take_ok hB1 (by omega) (by decide) (by decide) fun v o h0 h1 hB2 => eqS_ii.mpr ⟨_, rfl, ?_⟩
        split
        · exact more _ hB2
        · exact ⟨rs, rfl, hrs, hB2⟩
    · rintro acc R' hlk ⟨rs, rfl, hrs, hB1⟩
      unfold rowsD at hB1 hlk
      rw [List.length_map, List.length_map] at hlk
      rw [List.length_map] at hB1
      exact ⟨rs, by omega, hrs, hB1.mono (by omega), _, _, _, _, _, _, _, _, rfl⟩
  clear hB
  rintro s3 R3 ⟨rs, hrl, hrs, hB, j1, j5, j6, j7, j8, j9, j10, j11, rfl⟩
  simp only [dFor, dSeq, dGetK, rdInK, dGetT, dInT, rdSetK, dNewK, dDcF, dDc2F, dIEnum, dIZip, dISeq, dStar, dCont, dBrk, dOrT, rdInC, dCallK, dCVal, dMeth, dFld, dSetF, dNewF, dNew0F, dDisp, dPairs, dGet2, dGIndex, DL.keyOf, DL.keysOf, dCallL, dLam, dJoin, dJs, dFmtS, dRepl, dRaise, dCallX, dDelTail, dAugL, dXF, dAsg, dIf, dIfS, dB, dAnd, dOr, dNot, dAndV, dOrV, dNotV, dChain, dOp, dUn, dVar, dC, rdI0, rdI, dCB, dCall, rd1, dCons, dNil, dgName, dgSub, dgTup, dgLst, dSortSet, dgCons, dgNil, rdSetL, dRet, dLst, dLstF, dTup, dDrop, dNext, dPar, dBM, dBM0, dSl, dPart, dNoPart, dstart, dwipe, List.map_cons, List.map_nil, List.length_cons, List.length_nil, List.replicate_succ, List.replicate_zero, List.cons_append, List.nil_append, List.set_cons_zero, List.set_cons_succ, List.getElem?_cons_zero, List.getElem?_cons_succ, Nat.reduceAdd, Nat.reduceSub, Option.some.injEq, D.int.injEq, D.bl.injEq, D.str.injEq, D.ref.injEq, D.ty.injEq, D.tup.injEq, D.lst.injEq, D.rls.injEq, RO.lst.injEq, List.cons.injEq, exists_and_left, exists_eq_left', exists_eq_left, and_true, true_and, put_same, put_put, at0, at1, at2, ix30, ix31, ix32, and_assoc, dLcF, dLc, dLcT, dIRng1, dIRng2, dIRng3, dIStr, dITup, dILst, dYes, if_true, Bool.false_eq_true, if_false, eqS_ii, neS_ii, eqS_ss, neS_ss, decide_eq_true_eq, sq_tup, sq_lst, sq_rls, lo_lst, lo_rls, tr_lst, isi_tt, isi_st, isi_nt, isi_bt, isi_it, isi_lt, isi_ts, isi_ss, isi_ns, isi_bs, isi_is, isi_ls, List.append_nil, sz0, sz1, sz2, sz3, sz4, sz5, sz6, sl0, sl1, sl2, ty_put, ty_str, lo_put, sq_put, tr_put, reduceCtorEq, false_and, and_false, exists_false, or_false, false_or, Bool.not_false, Bool.not_true, List.isEmpty_nil, List.isEmpty_cons, app1_empty, dPar3]
  refine ⟨3, rfl, by decide, fun i s' R' => M3 ns b xs rs (100 + 40 * i) s' R', ⟨hB, _, _, _, _, _, _, _, _, rfl⟩, fun _ _ _ _ _ => trivial, ?_, ?_⟩
  · clear hB
    rintro k x s' R' hx ⟨hB, j1, j5, j6, j7, j8, j9, j10, j11, rfl⟩
    obtain ⟨rfl, hk⟩ := range_step hx
    refine (show dCut _ _ _ _ _ from ?_)
    refine ⟨fun s' R' => ∃ d e, isN 2 d = true ∧ isN 2 e = true ∧ M4 ns b xs rs (100 + 40 * (k + 1)) d e s' R', ?_, ?_⟩
    · simp only [dSeq, dGetK, rdInK, dGetT, dInT, rdSetK, dNewK, dDcF, dDc2F, dIEnum, dIZip, dISeq, dStar, dCont, dBrk, dOrT, rdInC, dCallK, dCVal, dMeth, dFld, dSetF, dNewF, dNew0F, dDisp, dPairs, dGet2, dGIndex, DL.keyOf, DL.keysOf, dCallL, dLam, dJoin, dJs, dFmtS, dRepl, dRaise, dCallX, dDelTail, dAugL, dXF, dAsg, dIf, dIfS, dB, dAnd, dOr, dNot, dAndV, dOrV, dNotV, dChain, dOp, dUn, dVar, dC, rdI0, rdI, dCB, dCall, rd1, dCons, dNil, dgName, dgSub, dgTup, dgLst, dSortSet, dgCons, dgNil, rdSetL, dRet, dLst, dLstF, dTup, dDrop, dNext, dPar, dBM, dBM0, dSl, dPart, dNoPart, dstart, dwipe, List.map_cons, List.map_nil, List.length_cons, List.length_nil, List.replicate_succ, List.replicate_zero, List.cons_append, List.nil_append, List.set_cons_zero, List.set_cons_succ, List.getElem?_cons_zero, List.getElem?_cons_succ, Nat.reduceAdd, Nat.reduceSub, Option.some.injEq, D.int.injEq, D.bl.injEq, D.str.injEq, D.ref.injEq, D.ty.injEq, D.tup.injEq, D.lst.injEq, D.rls.injEq, RO.lst.injEq, List.cons.injEq, exists_and_left, exists_eq_left', exists_eq_left, and_true, true_and, put_same, put_put, at0, at1, at2, ix30, ix31, ix32, and_assoc, dLcF, dLc, dLcT, dIRng1, dIRng2, dIRng3, dIStr, dITup, dILst, dYes, if_true, Bool.false_eq_true, if_false, eqS_ii, neS_ii, eqS_ss, neS_ss, decide_eq_true_eq, sq_tup, sq_lst, sq_rls, lo_lst, lo_rls, tr_lst, isi_tt, isi_st, isi_nt, isi_bt, isi_it, isi_lt, isi_ts, isi_ss, isi_ns, isi_bs, isi_is, isi_ls, List.append_nil, sz0, sz1, sz2, sz3, sz4, sz5, sz6, sl0, sl1, sl2, ty_put, ty_str, lo_put, sq_put, tr_put, reduceCtorEq, false_and, and_false, exists_false, or_false, false_or, Bool.not_false, Bool.not_true, List.isEmpty_nil, List.isEmpty_cons, app1_empty, dPar3]
      have e16 : 4 ^ (1 + 1) = 16 := rfl
      refine ⟨b, xs, 1, _, rfl, by decide, by decide, hB, by omega, hx0, by omega, hxs, fun d o hd _ hB1 => ?_⟩
      refine take_ok hB1 (by omega) (by decide) (by decide) fun v o2 h0 h1 hB2 => ?_
      obtain ⟨v, rfl⟩ := Int.eq_ofNat_of_zero_le h0
      have ev : 4 ^ (v + 1) ≤ 4 ^ 2 := Nat.pow_le_pow_right (by decide) (by omega)
      have e2 : 4 ^ 2 = 16 := rfl
      refine ⟨v, rfl, b, xs, v, _, by rw [show ((1 : Int) + v) = ((v + 1 : Nat) : Int) by omega], by omega, by omega, hB2, by omega, hx0, by omega, hxs, fun e o3 he _ hB3 => ?_⟩
      exact ⟨d, hd, e, (upK he (by omega)).1, hB3.mono (by omega), _, _, _, _, _, _, rfl⟩
    clear hB
    rintro s4 R4 ⟨d, e, hd, he, hB, j1, j5, j8, j9, j10, j11, rfl⟩
    refine (show dCut _ _ _ _ _ from ?_)
    refine ⟨M5 ns b xs rs (100 + 40 * (k + 1)) d e, ?_, ?_⟩
    · simp only [dSeq, dGetK, rdInK, dGetT, dInT, rdSetK, dNewK, dDcF, dDc2F, dIEnum, dIZip, dISeq, dStar, dCont, dBrk, dOrT, rdInC, dCallK, dCVal, dMeth, dFld, dSetF, dNewF, dNew0F, dDisp, dPairs, dGet2, dGIndex, DL.keyOf, DL.keysOf, dCallL, dLam, dJoin, dJs, dFmtS, dRepl, dRaise, dCallX, dDelTail, dAugL, dXF, dAsg, dIf, dIfS, dB, dAnd, dOr, dNot, dAndV, dOrV, dNotV, dChain, dOp, dUn, dVar, dC, rdI0, rdI, dCB, dCall, rd1, dCons, dNil, dgName, dgSub, dgTup, dgLst, dSortSet, dgCons, dgNil, rdSetL, dRet, dLst, dLstF, dTup, dDrop, dNext, dPar, dBM, dBM0, dSl, dPart, dNoPart, dstart, dwipe, List.map_cons, List.map_nil, List.length_cons, List.length_nil, List.replicate_succ, List.replicate_zero, List.cons_append, List.nil_append, List.set_cons_zero, List.set_cons_succ, List.getElem?_cons_zero, List.getElem?_cons_succ, Nat.reduceAdd, Nat.reduceSub, Option.some.injEq, D.int.injEq, D.bl.injEq, D.str.injEq, D.ref.injEq, D.ty.injEq, D.tup.injEq, D.lst.injEq, D.rls.injEq, RO.lst.injEq, List.cons.injEq, exists_and_left, exists_eq_left', exists_eq_left, and_true, true_and, put_same, put_put, at0, at1, at2, ix30, ix31, ix32, and_assoc, dLcF, dLc, dLcT, dIRng1, dIRng2, dIRng3, dIStr, dITup, dILst, dYes, if_true, Bool.false_eq_true, if_false, eqS_ii, neS_ii, eqS_ss, neS_ss, decide_eq_true_eq, sq_tup, sq_lst, sq_rls, lo_lst, lo_rls, tr_lst, isi_tt, isi_st, isi_nt, isi_bt, isi_it, isi_lt, isi_ts, isi_ss, isi_ns, isi_bs, isi_is, isi_ls, List.append_nil, sz0, sz1, sz2, sz3, sz4, sz5, sz6, sl0, sl1, sl2, ty_put, ty_str, lo_put, sq_put, tr_put, reduceCtorEq, false_and, and_false, exists_false, or_false, false_or, Bool.not_false, Bool.not_true, List.isEmpty_nil, List.isEmpty_cons, app1_empty, dPar3]
      exact ⟨hB, _, _, _, rfl⟩
    clear hB
    rintro s5 R5 ⟨hB, j1, j5, j11, rfl⟩
    simp only [dFor, dSeq, dGetK, rdInK, dGetT, dInT, rdSetK, dNewK, dDcF, dDc2F, dIEnum, dIZip, dISeq, dStar, dCont, dBrk, dOrT, rdInC, dCallK, dCVal, dMeth, dFld, dSetF, dNewF, dNew0F, dDisp, dPairs, dGet2, dGIndex, DL.keyOf, DL.keysOf, dCallL, dLam, dJoin, dJs, dFmtS, dRepl, dRaise, dCallX, dDelTail, dAugL, dXF, dAsg, dIf, dIfS, dB, dAnd, dOr, dNot, dAndV, dOrV, dNotV, dChain, dOp, dUn, dVar, dC, rdI0, rdI, dCB, dCall, rd1, dCons, dNil, dgName, dgSub, dgTup, dgLst, dSortSet, dgCons, dgNil, rdSetL, dRet, dLst, dLstF, dTup, dDrop, dNext, dPar, dBM, dBM0, dSl, dPart, dNoPart, dstart, dwipe, List.map_cons, List.map_nil, List.length_cons, List.length_nil, List.replicate_succ, List.replicate_zero, List.cons_append, List.nil_append, List.set_cons_zero, List.set_cons_succ, List.getElem?_cons_zero, List.getElem?_cons_succ, Nat.reduceAdd, Nat.reduceSub, Option.some.injEq, D.int.injEq, D.bl.injEq, D.str.injEq, D.ref.injEq, D.ty.injEq, D.tup.injEq, D.lst.injEq, D.rls.injEq, RO.lst.injEq, List.cons.injEq, exists_and_left, exists_eq_left', exists_eq_left, and_true, true_and, put_same, put_put, at0, at1, at2, ix30, ix31, ix32, and_assoc, dLcF, dLc, dLcT, dIRng1, dIRng2, dIRng3, dIStr, dITup, dILst, dYes, if_true, Bool.false_eq_true, if_false, eqS_ii, neS_ii, eqS_ss, neS_ss, decide_eq_true_eq, sq_tup, sq_lst, sq_rls, lo_lst, lo_rls, tr_lst, isi_tt, isi_st, isi_nt, isi_bt, isi_it, isi_lt, isi_ts, isi_ss, isi_ns, isi_bs, isi_is, isi_ls, List.append_nil, sz0, sz1, sz2, sz3, sz4, sz5, sz6, sl0, sl1, sl2, ty_put, ty_str, lo_put, sq_put, tr_put, reduceCtorEq, false_and, and_false, exists_false, or_false, false_or, Bool.not_false, Bool.not_true, List.isEmpty_nil, List.isEmpty_cons, app1_empty, dPar3]
    refine ⟨fun i s' R' => M5 ns b xs rs (100 + 40 * (k + 1)) d e s' R', ⟨hB, _, _, _, rfl⟩, fun _ _ _ _ _ => trivial, ?_, ?_⟩
    · clear hB
      rintro i2 x s' R' hx ⟨hB, j1, j5, j11, rfl⟩
      obtain ⟨r, rfl, hr, _, _⟩ := take_step (c := fun r : List Str => D.tup (r.map D.str)) hx
      obtain ⟨h1, h2, h3⟩ := hrs r hr
      simp only [dFor, dSeq, dGetK, rdInK, dGetT, dInT, rdSetK, dNewK, dDcF, dDc2F, dIEnum, dIZip, dISeq, dStar, dCont, dBrk, dOrT, rdInC, dCallK, dCVal, dMeth, dFld, dSetF, dNewF, dNew0F, dDisp, dPairs, dGet2, dGIndex, DL.keyOf, DL.keysOf, dCallL, dLam, dJoin, dJs, dFmtS, dRepl, dRaise, dCallX, dDelTail, dAugL, dXF, dAsg, dIf, dIfS, dB, dAnd, dOr, dNot, dAndV, dOrV, dNotV, dChain, dOp, dUn, dVar, dC, rdI0, rdI, dCB, dCall, rd1, dCons, dNil, dgName, dgSub, dgTup, dgLst, dSortSet, dgCons, dgNil, rdSetL, dRet, dLst, dLstF, dTup, dDrop, dNext, dPar, dBM, dBM0, dSl, dPart, dNoPart, dstart, dwipe, List.map_cons, List.map_nil, List.length_cons, List.length_nil, List.replicate_succ, List.replicate_zero, List.cons_append, List.nil_append, List.set_cons_zero, List.set_cons_succ, List.getElem?_cons_zero, List.getElem?_cons_succ, Nat.reduceAdd, Nat.reduceSub, Option.some.injEq, D.int.injEq, D.bl.injEq, D.str.injEq, D.ref.injEq, D.ty.injEq, D.tup.injEq, D.lst.injEq, D.rls.injEq, RO.lst.injEq, List.cons.injEq, exists_and_left, exists_eq_left', exists_eq_left, and_true, true_and, put_same, put_put, at0, at1, at2, ix30, ix31, ix32, and_assoc, dLcF, dLc, dLcT, dIRng1, dIRng2, dIRng3, dIStr, dITup, dILst, dYes, if_true, Bool.false_eq_true, if_false, eqS_ii, neS_ii, eqS_ss, neS_ss, decide_eq_true_eq, sq_tup, sq_lst, sq_rls, lo_lst, lo_rls, tr_lst, isi_tt, isi_st, isi_nt, isi_bt, isi_it, isi_lt, isi_ts, isi_ss, isi_ns, isi_bs, isi_is, isi_ls, List.append_nil, sz0, sz1, sz2, sz3, sz4, sz5, sz6, sl0, sl1, sl2, ty_put, ty_str, lo_put, sq_put, tr_put, reduceCtorEq, false_and, and_false, exists_false, or_false, false_or, Bool.not_false, Bool.not_true, List.isEmpty_nil, List.isEmpty_cons, app1_empty, dPar3]
      refine mat_ok (any_P hd he) h3 h2 h1 (mat_ok (one_P hd) h3 h2 h1 ⟨_, rfl, ?_⟩)
      have fa := f_any hd he h1
      by_cases ha : accP d r = true
      · refine iteT ha (neN (by rw [fa, ha]; rfl) ?_)
        refine mat_ok (any_P he hd) h3 h2 h1 (mat_ok (any_P hd he) h3 h2 h1 (neN ((f_any he hd h1).trans ((Bool.or_comm ..).trans (f_any hd he h1).symm)) ?_))
        refine mat_ok (row_P hd he) h3 h2 h1 ⟨d, e, r, rfl, one_P hd, one_P he, h3, h2, h1, neN (f_row hd he h1) ?_⟩
        refine mat_ok (many_P hd) h3 h2 h1 ⟨d, r, rfl, one_P hd, h3, h2, neN (f_many hd h1) ?_⟩
        refine mat_ok (many2_P hd) h3 h2 h1 (mat_ok (many_P hd) h3 h2 h1 (neN (f_many2 hd h1) ?_))
        refine mat_ok (row_P hd he) h3 h2 h1 ⟨rowD d e, r, rfl, row_P hd he, h2, neN rfl ?_⟩
        exact ⟨hB, _, _, _, rfl⟩
      · refine iteF ha (mat_ok (one_P he) h3 h2 h1 (neN (by rw [fa]; simp [ha]) ?_))
        refine mat_ok (any_P he hd) h3 h2 h1 (mat_ok (any_P hd he) h3 h2 h1 (neN ((f_any he hd h1).trans ((Bool.or_comm ..).trans (f_any hd he h1).symm)) ?_))
        refine mat_ok (row_P hd he) h3 h2 h1 ⟨d, e, r, rfl, one_P hd, one_P he, h3, h2, h1, neN (f_row hd he h1) ?_⟩
        refine mat_ok (many_P hd) h3 h2 h1 ⟨d, r, rfl, one_P hd, h3, h2, neN (f_many hd h1) ?_⟩
        refine mat_ok (many2_P hd) h3 h2 h1 (mat_ok (many_P hd) h3 h2 h1 (neN (f_many2 hd h1) ?_))
        refine mat_ok (row_P hd he) h3 h2 h1 ⟨rowD d e, r, rfl, row_P hd he, h2, neN rfl ?_⟩
        exact ⟨hB, _, _, _, rfl⟩
    · rintro s' R' ⟨hB, j1, j5, j11, rfl⟩
      exact ⟨hB, _, _, _, _, _, _, _, _, rfl⟩
  · rintro s' R' ⟨hB, j1, j5, j6, j7, j8, j9, j10, j11, rfl⟩
    exact ⟨_, _, _, _, _, _, _, _, _, _, _, rfl⟩
end

end Law
end
section
set_option Elab.async false
set_option maxRecDepth 100000
set_option maxHeartbeats 4000000
set_option linter.all false
set_option autoImplicit false
namespace Law
open PySem PySem.Spec PyProof.Rows L2 DL TL TrA TrA.Tr
/-! ### the program's top -/
local instance tabs0 : TabCtx := ⟨fun _ => none⟩
theorem all_mk {l : PySem.W.OpenLaw} {w : World} {K : PySem.W.Frag} {h : Heap} {mg : Str → Option Value} {fa : Addr} (X : K.In h) (G : h.Ns mainGlobals mg) (hfa : mg "law" = some (.ref fa))
    {kC1 : Addr}
    {f1 : Addr} {od1 an1 : Option Addr} {sl1 : Array (Option Value)} {oc1 dc1 pm1 ct1 : Value} {kV1 : Value} {cd1 : Value}
    {f2 : Addr} {od2 an2 : Option Addr} {sl2 : Array (Option Value)} {oc2 dc2 pm2 ct2 : Value} {kV2 : Value} {cd2 : Value}
    {f3 : Addr} {od3 an3 : Option Addr} {sl3 : Array (Option Value)} {oc3 dc3 pm3 ct3 : Value} {kV3 : Value} {cd3 : Value}
    {f4 : Addr} {od4 an4 : Option Addr} {sl4 : Array (Option Value)} {oc4 dc4 pm4 ct4 : Value} {kV4 : Value} {cd4 : Value}
    {f5 : Addr} {od5 an5 : Option Addr} {sl5 : Array (Option Value)} {oc5 dc5 pm5 ct5 : Value} {kV5 : Value} {cd5 : Value}
    {f6 : Addr} {od6 an6 : Option Addr} {sl6 : Array (Option Value)} {oc6 dc6 pm6 ct6 : Value} {kV6 : Value} {cd6 : Value}
    {f7 : Addr} {od7 an7 : Option Addr} {sl7 : Array (Option Value)} {oc7 dc7 pm7 ct7 : Value} {kV7 : Value} {cd7 : Value}
    {f8 : Addr} {od8 an8 : Option Addr} {sl8 : Array (Option Value)} {oc8 dc8 pm8 ct8 : Value} {kV8 : Value} {cd8 : Value}
    {f9 : Addr} {od9 an9 : Option Addr} {sl9 : Array (Option Value)} {oc9 dc9 pm9 ct9 : Value} {kV9 : Value} {cd9 : Value}
    {f10 : Addr} {od10 an10 : Option Addr} {sl10 : Array (Option Value)} {oc10 dc10 pm10 ct10 : Value} {kV10 : Value} {cd10 : Value}
    {f11 : Addr} {od11 an11 : Option Addr} {sl11 : Array (Option Value)} {oc11 dc11 pm11 ct11 : Value} {kV11 : Value} {cd11 : Value}
    {f12 : Addr} {od12 an12 : Option Addr} {sl12 : Array (Option Value)} {oc12 dc12 pm12 ct12 : Value} {kV12 : Value} {cd12 : Value}
    {f13 : Addr} {od13 an13 : Option Addr} {sl13 : Array (Option Value)} {oc13 dc13 pm13 ct13 : Value} {kV13 : Value} {cd13 : Value}
    {f14 : Addr} {od14 an14 : Option Addr} {sl14 : Array (Option Value)} {oc14 dc14 pm14 ct14 : Value} {kV14 : Value} {cd14 : Value}
    {f15 : Addr} {od15 an15 : Option Addr} {sl15 : Array (Option Value)} {oc15 dc15 pm15 ct15 : Value} {kV15 : Value} {cd15 : Value}
    {f16 : Addr} {od16 an16 : Option Addr} {sl16 : Array (Option Value)} {oc16 dc16 pm16 ct16 : Value} {kV16 : Value} {cd16 : Value}
    {f17 : Addr} {od17 an17 : Option Addr} {sl17 : Array (Option Value)} {oc17 dc17 pm17 ct17 : Value} {kV17 : Value} {cd17 : Value}
    {f18 : Addr} {od18 an18 : Option Addr} {sl18 : Array (Option Value)} {oc18 dc18 pm18 ct18 : Value} {kV18 : Value} {cd18 : Value}
    {f19 : Addr} {od19 an19 : Option Addr} {sl19 : Array (Option Value)} {oc19 dc19 pm19 ct19 : Value} {kV19 : Value} {cd19 : Value}
    {f20 : Addr} {od20 an20 : Option Addr} {sl20 : Array (Option Value)} {oc20 dc20 pm20 ct20 : Value} {kV20 : Value} {cd20 : Value}
    {f21 : Addr} {od21 an21 : Option Addr} {sl21 : Array (Option Value)} {oc21 dc21 pm21 ct21 : Value} {kV21 : Value} {cd21 : Value}
    {f22 : Addr} {od22 an22 : Option Addr} {sl22 : Array (Option Value)} {oc22 dc22 pm22 ct22 : Value} {kV22 : Value} {cd22 : Value}
    {f23 : Addr} {od23 an23 : Option Addr} {sl23 : Array (Option Value)} {oc23 dc23 pm23 ct23 : Value} {kV23 : Value} {cd23 : Value}
    {f24 : Addr} {od24 an24 : Option Addr} {sl24 : Array (Option Value)} {oc24 dc24 pm24 ct24 : Value} {kV24 : Value} {cd24 : Value}
    {gt1 : Tok}
    {gt2 : Tok}
    {ga3 : Addr} {go3 : Option Addr} {gi3 : Array Value} {gn3 : Nat} {gs3 : Array (Option Value)}
    {gt4 : Tok}
    {gt5 : Tok}
    {gt6 : Tok}
    {xC1 xf1 : Addr} {xn1 xq1 : Str} {xN1 : Addr} {xb1 : List Value} {xs1 : List Str} {xu1 : List Value} {xa1 : Bool} {xc1 : Option Bool} {xd1 : Option Addr} {xk1 xl1 xm1 xo1 xp1 : Option Value} {yc1 : Value} {yd1 : Option Addr} {yo1 yp1 : Value} {ya1 : Option Addr} {yv1 yt1 : Value} {ys1 : Array (Option Value)}
    (kA1 : PySem.W.nsIn K mainGlobals "Places" = some (some (.ref kC1)))
    (kP1 : PySem.W.plainGet K kC1 Str.empty = true) (kH1 : PySem.W.hasDictIn K kC1 = true) (kO1 : PySem.W.plainOver K kC1 = true)
    (kS1 : PySem.W.findIn K (.ref kC1) "__setattr__" = some (some (.builtin "object.__setattr__")))
    (kM1 : PySem.W.makesIn K kC1 = true) (kK1 : PySem.W.keepIn K (.ref kC1) = true)
    (kN1_1 : PySem.W.findIn K (.ref kC1) "read" = some none)
    (kN1_2 : PySem.W.findIn K (.ref kC1) "after" = some none)
    (kN1_3 : PySem.W.findIn K (.ref kC1) "starts" = some none)
    (kN1_4 : PySem.W.findIn K (.ref kC1) "ends" = some none)
    (a1 : PySem.W.nsIn K mainGlobals "is_class_name" = some (some (.ref f1)))
    (l1 : K.lookup f1 = some ⟨oc1, od1, .func (PySem.W.fnOf "is_class_name" "is_class_name" (defArgs s_is_class_name) (defBody s_is_class_name) (defScope s_is_class_name) .none kV1 dc1 pm1 an1 cd1 ct1), sl1⟩)
    (c1 : PySem.W.codeIn K cd1 "is_class_name" = true) (k1 : PySem.W.keepIn K (.ref f1) = true)
    (a2 : PySem.W.nsIn K mainGlobals "is_parts" = some (some (.ref f2)))
    (l2 : K.lookup f2 = some ⟨oc2, od2, .func (PySem.W.fnOf "is_parts" "is_parts" (defArgs s_is_parts) (defBody s_is_parts) (defScope s_is_parts) .none kV2 dc2 pm2 an2 cd2 ct2), sl2⟩)
    (c2 : PySem.W.codeIn K cd2 "is_parts" = true) (k2 : PySem.W.keepIn K (.ref f2) = true)
    (a3 : PySem.W.nsIn K mainGlobals "is_nested" = some (some (.ref f3)))
    (l3 : K.lookup f3 = some ⟨oc3, od3, .func (PySem.W.fnOf "is_nested" "is_nested" (defArgs s_is_nested) (defBody s_is_nested) (defScope s_is_nested) .none kV3 dc3 pm3 an3 cd3 ct3), sl3⟩)
    (c3 : PySem.W.codeIn K cd3 "is_nested" = true) (k3 : PySem.W.keepIn K (.ref f3) = true)
    (a4 : PySem.W.nsIn K mainGlobals "classes_in" = some (some (.ref f4)))
    (l4 : K.lookup f4 = some ⟨oc4, od4, .func (PySem.W.fnOf "classes_in" "classes_in" (defArgs s_classes_in) (defBody s_classes_in) (defScope s_classes_in) .none kV4 dc4 pm4 an4 cd4 ct4), sl4⟩)
    (c4 : PySem.W.codeIn K cd4 "classes_in" = true) (k4 : PySem.W.keepIn K (.ref f4) = true)
    (a5 : PySem.W.nsIn K mainGlobals "is_pattern" = some (some (.ref f5)))
    (l5 : K.lookup f5 = some ⟨oc5, od5, .func (PySem.W.fnOf "is_pattern" "is_pattern" (defArgs s_is_pattern) (defBody s_is_pattern) (defScope s_is_pattern) .none kV5 dc5 pm5 an5 cd5 ct5), sl5⟩)
    (c5 : PySem.W.codeIn K cd5 "is_pattern" = true) (k5 : PySem.W.keepIn K (.ref f5) = true)
    (a6 : PySem.W.nsIn K mainGlobals "check_pattern" = some (some (.ref f6)))
    (l6 : K.lookup f6 = some ⟨oc6, od6, .func (PySem.W.fnOf "check_pattern" "check_pattern" (defArgs s_check_pattern) (defBody s_check_pattern) (defScope s_check_pattern) .none kV6 dc6 pm6 an6 cd6 ct6), sl6⟩)
    (c6 : PySem.W.codeIn K cd6 "check_pattern" = true) (k6 : PySem.W.keepIn K (.ref f6) = true)
    (a7 : PySem.W.findIn K (.ref kC1) "link" = some (some (.ref f7))) (i7 : PySem.W.isFn K (.ref f7) = true)
    (l7 : K.lookup f7 = some ⟨oc7, od7, .func (PySem.W.fnOf "link" "Places.link" (defArgs s_Places_link) (defBody s_Places_link) (defScope s_Places_link) .none kV7 dc7 pm7 an7 cd7 ct7), sl7⟩)
    (c7 : PySem.W.codeIn K cd7 "Places.link" = true) (k7 : PySem.W.keepIn K (.ref f7) = true)
    (a8 : PySem.W.findIn K (.ref kC1) "add" = some (some (.ref f8))) (i8 : PySem.W.isFn K (.ref f8) = true)
    (l8 : K.lookup f8 = some ⟨oc8, od8, .func (PySem.W.fnOf "add" "Places.add" (defArgs s_Places_add) (defBody s_Places_add) (defScope s_Places_add) .none kV8 dc8 pm8 an8 cd8 ct8), sl8⟩)
    (c8 : PySem.W.codeIn K cd8 "Places.add" = true) (k8 : PySem.W.keepIn K (.ref f8) = true)
    (a9 : PySem.W.findIn K (.ref kC1) "add_row" = some (some (.ref f9))) (i9 : PySem.W.isFn K (.ref f9) = true)
    (l9 : K.lookup f9 = some ⟨oc9, od9, .func (PySem.W.fnOf "add_row" "Places.add_row" (defArgs s_Places_add_row) (defBody s_Places_add_row) (defScope s_Places_add_row) .none kV9 dc9 pm9 an9 cd9 ct9), sl9⟩)
    (c9 : PySem.W.codeIn K cd9 "Places.add_row" = true) (k9 : PySem.W.keepIn K (.ref f9) = true)
    (a10 : PySem.W.findIn K (.ref kC1) "__init__" = some (some (.ref f10))) (i10 : PySem.W.isFn K (.ref f10) = true)
    (l10 : K.lookup f10 = some ⟨oc10, od10, .func (PySem.W.fnOf "__init__" "Places.__init__" (defArgs s_Places_init) (defBody s_Places_init) (defScope s_Places_init) .none kV10 dc10 pm10 an10 cd10 ct10), sl10⟩)
    (c10 : PySem.W.codeIn K cd10 "Places.__init__" = true) (k10 : PySem.W.keepIn K (.ref f10) = true)
    (a11 : PySem.W.findIn K (.ref kC1) "steps" = some (some (.ref f11))) (i11 : PySem.W.isFn K (.ref f11) = true)
    (l11 : K.lookup f11 = some ⟨oc11, od11, .func (PySem.W.fnOf "steps" "Places.steps" (defArgs s_Places_steps) (defBody s_Places_steps) (defScope s_Places_steps) .none kV11 dc11 pm11 an11 cd11 ct11), sl11⟩)
    (c11 : PySem.W.codeIn K cd11 "Places.steps" = true) (k11 : PySem.W.keepIn K (.ref f11) = true)
    (a12 : PySem.W.findIn K (.ref kC1) "led_on" = some (some (.ref f12))) (i12 : PySem.W.isFn K (.ref f12) = true)
    (l12 : K.lookup f12 = some ⟨oc12, od12, .func (PySem.W.fnOf "led_on" "Places.led_on" (defArgs s_Places_led_on) (defBody s_Places_led_on) (defScope s_Places_led_on) .none kV12 dc12 pm12 an12 cd12 ct12), sl12⟩)
    (c12 : PySem.W.codeIn K cd12 "Places.led_on" = true) (k12 : PySem.W.keepIn K (.ref f12) = true)
    (a13 : PySem.W.nsIn K mainGlobals "steps" = some (some (.ref f13)))
    (l13 : K.lookup f13 = some ⟨oc13, od13, .func (PySem.W.fnOf "steps" "steps" (defArgs s_steps) (defBody s_steps) (defScope s_steps) .none kV13 dc13 pm13 an13 cd13 ct13), sl13⟩)
    (c13 : PySem.W.codeIn K cd13 "steps" = true) (k13 : PySem.W.keepIn K (.ref f13) = true)
    (a14 : PySem.W.nsIn K mainGlobals "ends" = some (some (.ref f14)))
    (l14 : K.lookup f14 = some ⟨oc14, od14, .func (PySem.W.fnOf "ends" "ends" (defArgs s_ends) (defBody s_ends) (defScope s_ends) .none kV14 dc14 pm14 an14 cd14 ct14), sl14⟩)
    (c14 : PySem.W.codeIn K cd14 "ends" = true) (k14 : PySem.W.keepIn K (.ref f14) = true)
    (a15 : PySem.W.nsIn K mainGlobals "matches" = some (some (.ref f15)))
    (l15 : K.lookup f15 = some ⟨oc15, od15, .func (PySem.W.fnOf "matches" "matches" (defArgs s_matches) (defBody s_matches) (defScope s_matches) .none kV15 dc15 pm15 an15 cd15 ct15), sl15⟩)
    (c15 : PySem.W.codeIn K cd15 "matches" = true) (k15 : PySem.W.keepIn K (.ref f15) = true)
    (a16 : PySem.W.nsIn K mainGlobals "_law_bag" = some (some (.ref f16)))
    (l16 : K.lookup f16 = some ⟨oc16, od16, .func (PySem.W.fnOf "_law_bag" "_law_bag" (defArgs s_law_bag) (defBody s_law_bag) (defScope s_law_bag) .none kV16 dc16 pm16 an16 cd16 ct16), sl16⟩)
    (c16 : PySem.W.codeIn K cd16 "_law_bag" = true) (k16 : PySem.W.keepIn K (.ref f16) = true)
    (a17 : PySem.W.nsIn K mainGlobals "_law_take" = some (some (.ref f17)))
    (l17 : K.lookup f17 = some ⟨oc17, od17, .func (PySem.W.fnOf "_law_take" "_law_take" (defArgs s_law_take) (defBody s_law_take) (defScope s_law_take) .none kV17 dc17 pm17 an17 cd17 ct17), sl17⟩)
    (c17 : PySem.W.codeIn K cd17 "_law_take" = true) (k17 : PySem.W.keepIn K (.ref f17) = true)
    (a18 : PySem.W.nsIn K mainGlobals "_law_names" = some (some (.ref f18)))
    (l18 : K.lookup f18 = some ⟨oc18, od18, .func (PySem.W.fnOf "_law_names" "_law_names" (defArgs s_law_names) (defBody s_law_names) (defScope s_law_names) .none kV18 dc18 pm18 an18 cd18 ct18), sl18⟩)
    (c18 : PySem.W.codeIn K cd18 "_law_names" = true) (k18 : PySem.W.keepIn K (.ref f18) = true)
    (a19 : PySem.W.nsIn K mainGlobals "_law_pattern" = some (some (.ref f19)))
    (l19 : K.lookup f19 = some ⟨oc19, od19, .func (PySem.W.fnOf "_law_pattern" "_law_pattern" (defArgs s_law_pattern) (defBody s_law_pattern) (defScope s_law_pattern) .none kV19 dc19 pm19 an19 cd19 ct19), sl19⟩)
    (c19 : PySem.W.codeIn K cd19 "_law_pattern" = true) (k19 : PySem.W.keepIn K (.ref f19) = true)
    (a20 : PySem.W.nsIn K mainGlobals "_law_all" = some (some (.ref f20)))
    (l20 : K.lookup f20 = some ⟨oc20, od20, .func (PySem.W.fnOf "_law_all" "_law_all" (defArgs s_law_all) (defBody s_law_all) (defScope s_law_all) .none kV20 dc20 pm20 an20 cd20 ct20), sl20⟩)
    (c20 : PySem.W.codeIn K cd20 "_law_all" = true) (k20 : PySem.W.keepIn K (.ref f20) = true)
    (a21 : PySem.W.nsIn K mainGlobals "_law_walks" = some (some (.ref f21)))
    (l21 : K.lookup f21 = some ⟨oc21, od21, .func (PySem.W.fnOf "_law_walks" "_law_walks" (defArgs s_law_walks) (defBody s_law_walks) (defScope s_law_walks) .none kV21 dc21 pm21 an21 cd21 ct21), sl21⟩)
    (c21 : PySem.W.codeIn K cd21 "_law_walks" = true) (k21 : PySem.W.keepIn K (.ref f21) = true)
    (a22 : PySem.W.nsIn K mainGlobals "_law_cuts" = some (some (.ref f22)))
    (l22 : K.lookup f22 = some ⟨oc22, od22, .func (PySem.W.fnOf "_law_cuts" "_law_cuts" (defArgs s_law_cuts) (defBody s_law_cuts) (defScope s_law_cuts) .none kV22 dc22 pm22 an22 cd22 ct22), sl22⟩)
    (c22 : PySem.W.codeIn K cd22 "_law_cuts" = true) (k22 : PySem.W.keepIn K (.ref f22) = true)
    (a23 : PySem.W.nsIn K mainGlobals "_law_repeats" = some (some (.ref f23)))
    (l23 : K.lookup f23 = some ⟨oc23, od23, .func (PySem.W.fnOf "_law_repeats" "_law_repeats" (defArgs s_law_repeats) (defBody s_law_repeats) (defScope s_law_repeats) .none kV23 dc23 pm23 an23 cd23 ct23), sl23⟩)
    (c23 : PySem.W.codeIn K cd23 "_law_repeats" = true) (k23 : PySem.W.keepIn K (.ref f23) = true)
    (a24 : PySem.W.nsIn K mainGlobals "law" = some (some (.ref f24)))
    (l24 : K.lookup f24 = some ⟨oc24, od24, .func (PySem.W.fnOf "law" "law" (defArgs s_law) (defBody s_law) (defScope s_law) .none kV24 dc24 pm24 an24 cd24 ct24), sl24⟩)
    (c24 : PySem.W.codeIn K cd24 "law" = true) (k24 : PySem.W.keepIn K (.ref f24) = true)
    (g1 : PySem.W.nsIn K mainGlobals "LETTERS" = some (some (.str abc gt1)))
    (g2 : PySem.W.nsIn K mainGlobals "LONGEST_NAME" = some (some (.int 6 gt2)))
    (g3 : PySem.W.nsIn K mainGlobals "RESERVED" = some (some (.ref ga3)))
    (gl3 : K.lookup ga3 = some ⟨.type "tuple", go3, .seq gi3 gn3, gs3⟩)
    (gx3 : StrsAre gi3.toList ["self", "other", "super", "raises"])
    (g4 : PySem.W.nsIn K mainGlobals "MOST_DEEP" = some (some (.int 6 gt4)))
    (g5 : PySem.W.nsIn K mainGlobals "MOST_CLASSES" = some (some (.int 12 gt5)))
    (g6 : PySem.W.nsIn K mainGlobals "MOST_PARTS" = some (some (.int 4 gt6)))
    (xa_1 : PySem.W.nsIn K mainGlobals "NoPattern" = some (some (.ref xC1)))
    (xb_1 : K.lookup xC1 = some (excClassObj xn1 xq1 xC1 xN1 xb1 [.type "ValueError", .type "Exception", .type "BaseException", .type "object"] true xs1 xu1 xa1 xc1 xd1 xk1 xl1 xm1 xo1 xp1 "ValueError.__new__"))
    (xc_1 : PySem.W.findIn K (.ref xC1) "__setattr__" = some (some (.builtin "object.__setattr__")))
    (xd_1 : PySem.W.findIn K (.ref xC1) "__getattribute__" = some (some (.builtin "BaseException.__getattribute__")))
    (xe_1 : PySem.W.findIn K (.ref xC1) "__getattr__" = some none)
    (xf_1 : PySem.W.findIn K (.ref xC1) "pattern" = some none)
    (xg_1 : PySem.W.findIn K (.ref xC1) "__init__" = some (some (.ref xf1)))
    (xh_1 : PySem.W.typeIn K (.ref xf1) = some (.type "function"))
    (xi_1 : K.lookup xf1 = some ⟨yc1, yd1, .func (PySem.W.fnOf "__init__" "NoPattern.__init__" iA_NoPattern iB_NoPattern iS_NoPattern .none .none yo1 yp1 ya1 yv1 yt1), ys1⟩)
    (xj_1 : PySem.W.codeIn K yv1 "NoPattern.__init__" = true)
    (xk_1 : PySem.W.keepIn K (.ref xC1) = true)
    (xl_1 : PySem.W.subIn K (.ref xC1) (.type "BaseException") = some true)
    (xm_1 : PySem.W.typeIn K (.ref xC1) = some (.type "type"))
    (xn_1 : PySem.W.hasDictIn K xC1 = true)
    (xo_1 : PySem.W.isClsIn K xC1 = true)
    (xp_1 : PySem.W.subIn K (.ref xC1) (.ref xC1) = some true)
    (z1 : PySem.W.nsIn K mainGlobals "len" = some none)
    (z2 : PySem.W.nsIn K mainGlobals "isinstance" = some none)
    (z3 : PySem.W.nsIn K mainGlobals "repr" = some none)
    (z4 : PySem.W.nsIn K mainGlobals "abs" = some none)
    (z5 : PySem.W.nsIn K mainGlobals "max" = some none)
    (z6 : PySem.W.nsIn K mainGlobals "min" = some none)
    (z7 : PySem.W.nsIn K mainGlobals "sorted" = some none)
    (z8 : PySem.W.nsIn K mainGlobals "any" = some none)
    (z9 : PySem.W.nsIn K mainGlobals "all" = some none)
    (z10 : PySem.W.nsIn K mainGlobals "int" = some none)
    (z11 : PySem.W.nsIn K mainGlobals "str" = some none)
    (z12 : PySem.W.nsIn K mainGlobals "tuple" = some none)
    (z13 : PySem.W.nsIn K mainGlobals "list" = some none)
    (z14 : PySem.W.nsIn K mainGlobals "set" = some none)
    (z15 : PySem.W.nsIn K mainGlobals "bool" = some none)
    (z16 : PySem.W.nsIn K mainGlobals "range" = some none)
    (z17 : PySem.W.nsIn K mainGlobals "dict" = some none)
    (z18 : PySem.W.nsIn K mainGlobals "enumerate" = some none)
    (z19 : PySem.W.nsIn K mainGlobals "zip" = some none)
    (z20 : PySem.W.nsIn K mainGlobals "sum" = some none)
    (z21 : PySem.W.nsIn K mainGlobals "ValueError" = some none)
    (z22 : PySem.W.nsIn K mainGlobals "KeyError" = some none)
    (z23 : PySem.W.nsIn K mainGlobals "TypeError" = some none)
    (z24 : PySem.W.nsIn K mainGlobals "LookupError" = some none)
    (z25 : PySem.W.nsIn K mainGlobals "IndexError" = some none)
    (z26 : PySem.W.nsIn K mainGlobals "ArithmeticError" = some none)
    (z27 : PySem.W.nsIn K mainGlobals "RuntimeError" = some none)
    : ∃ fd : FuncData, (∀ (s : Shared) (v : Value), BindsTo s fd ⟨[v], []⟩ [("_law_script", v)]) ∧ ∀ base : Heap, K.In base → base.Ns mainGlobals mg → FnG l.prog w K mg base CX0 21 fa fd ["_law_script"] (spOf ⟨K, .all⟩ spLaw) := by
  have e := hfa.symm.trans (PySem.W.mg_of X G a24)
  cases e
  have Z : Blt mg bl := fun x hx => by
    simp only [List.mem_cons, List.not_mem_nil, or_false] at hx
    rcases hx with rfl | rfl | rfl | rfl | rfl | rfl | rfl | rfl | rfl | rfl | rfl | rfl | rfl | rfl | rfl | rfl | rfl | rfl | rfl | rfl | rfl | rfl | rfl | rfl | rfl | rfl | rfl
    · exact PySem.W.mg_none_of X G z1
    · exact PySem.W.mg_none_of X G z2
    · exact PySem.W.mg_none_of X G z3
    · exact PySem.W.mg_none_of X G z4
    · exact PySem.W.mg_none_of X G z5
    · exact PySem.W.mg_none_of X G z6
    · exact PySem.W.mg_none_of X G z7
    · exact PySem.W.mg_none_of X G z8
    · exact PySem.W.mg_none_of X G z9
    · exact PySem.W.mg_none_of X G z10
    · exact PySem.W.mg_none_of X G z11
    · exact PySem.W.mg_none_of X G z12
    · exact PySem.W.mg_none_of X G z13
    · exact PySem.W.mg_none_of X G z14
    · exact PySem.W.mg_none_of X G z15
    · exact PySem.W.mg_none_of X G z16
    · exact PySem.W.mg_none_of X G z17
    · exact PySem.W.mg_none_of X G z18
    · exact PySem.W.mg_none_of X G z19
    · exact PySem.W.mg_none_of X G z20
    · exact PySem.W.mg_none_of X G z21
    · exact PySem.W.mg_none_of X G z22
    · exact PySem.W.mg_none_of X G z23
    · exact PySem.W.mg_none_of X G z24
    · exact PySem.W.mg_none_of X G z25
    · exact PySem.W.mg_none_of X G z26
    · exact PySem.W.mg_none_of X G z27
  have g_Places : GC K mg "Places" (.ref kC1) := GC.ref (PySem.W.mg_of X G kA1)
  have cl_Places : Cls K kC1 := ⟨kP1, kH1, kO1, kS1⟩
  have na_Places_read : NoAttr K kC1 "read" := kN1_1
  have na_Places_after : NoAttr K kC1 "after" := kN1_2
  have na_Places_starts : NoAttr K kC1 "starts" := kN1_3
  have na_Places_ends : NoAttr K kC1 "ends" := kN1_4
  have g_LETTERS : GC K mg "LETTERS" (.str abc) := GC.str (PySem.W.mg_of X G g1)
  have g_LONGEST_NAME : GC K mg "LONGEST_NAME" (.int 6) := GC.int (PySem.W.mg_of X G g2)
  have g_RESERVED : GC K mg "RESERVED" (.tup ((["self", "other", "super", "raises"] : List Str).map D.str)) := GC.strs (PySem.W.mg_of X G g3) gl3 rfl rfl gx3 (by decide)
  have g_MOST_DEEP : GC K mg "MOST_DEEP" (.int 6) := GC.int (PySem.W.mg_of X G g4)
  have g_MOST_CLASSES : GC K mg "MOST_CLASSES" (.int 12) := GC.int (PySem.W.mg_of X G g5)
  have g_MOST_PARTS : GC K mg "MOST_PARTS" (.int 4) := GC.int (PySem.W.mg_of X G g6)
  have x_NoPattern := low_NoPattern (PySem.W.mg_of X G xa_1) xb_1 xc_1 xd_1 xe_1 xf_1 xg_1 xh_1 xi_1 xj_1 xk_1 xl_1 xm_1 xn_1 xo_1 xp_1
  have F1 := fun_mk (st := s_is_class_name) l1 c1 k1
  have b1 := F1.binds (ps := ["value"]) fun _ _ _ _ _ _ us hl => match us, hl with | [_], _ => rfl
  have m1 := PySem.W.mg_of X G a1
  have F2 := fun_mk (st := s_is_parts) l2 c2 k2
  have b2 := F2.binds (ps := ["value"]) fun _ _ _ _ _ _ us hl => match us, hl with | [_], _ => rfl
  have m2 := PySem.W.mg_of X G a2
  have F3 := fun_mk (st := s_is_nested) l3 c3 k3
  have b3 := F3.binds (ps := ["value", "deep"]) fun _ _ _ _ _ _ us hl => match us, hl with | [_, _], _ => rfl
  have m3 := PySem.W.mg_of X G a3
  have F4 := fun_mk (st := s_classes_in) l4 c4 k4
  have b4 := F4.binds (ps := ["pattern"]) fun _ _ _ _ _ _ us hl => match us, hl with | [_], _ => rfl
  have m4 := PySem.W.mg_of X G a4
  have F5 := fun_mk (st := s_is_pattern) l5 c5 k5
  have b5 := F5.binds (ps := ["value"]) fun _ _ _ _ _ _ us hl => match us, hl with | [_], _ => rfl
  have m5 := PySem.W.mg_of X G a5
  have F6 := fun_mk (st := s_check_pattern) l6 c6 k6
  have m6 := PySem.W.mg_of X G a6
  have F7 := fun_mk (st := s_Places_link) l7 c7 k7
  have b7 := F7.binds (ps := ["self", "lasts", "firsts"]) fun _ _ _ _ _ _ us hl => match us, hl with | [_, _, _], _ => rfl
  have m7 : Meth K kC1 "link" f7 := ⟨a7, i7, k7⟩
  have F8 := fun_mk (st := s_Places_add) l8 c8 k8
  have b8 := F8.binds (ps := ["self", "pattern"]) fun _ _ _ _ _ _ us hl => match us, hl with | [_, _], _ => rfl
  have m8 : Meth K kC1 "add" f8 := ⟨a8, i8, k8⟩
  have F9 := fun_mk (st := s_Places_add_row) l9 c9 k9
  have b9 := F9.binds (ps := ["self", "parts"]) fun _ _ _ _ _ _ us hl => match us, hl with | [_, _], _ => rfl
  have m9 : Meth K kC1 "add_row" f9 := ⟨a9, i9, k9⟩
  have F10 := fun_mk (st := s_Places_init) l10 c10 k10
  have b10 := F10.binds (ps := ["self", "pattern"]) fun _ _ _ _ _ _ us hl => match us, hl with | [_, _], _ => rfl
  have m10 : Meth K kC1 "__init__" f10 := ⟨a10, i10, k10⟩
  have F11 := fun_mk (st := s_Places_steps) l11 c11 k11
  have b11 := F11.binds (ps := ["self"]) fun _ _ _ _ _ _ us hl => match us, hl with | [_], _ => rfl
  have m11 : Meth K kC1 "steps" f11 := ⟨a11, i11, k11⟩
  have F12 := fun_mk (st := s_Places_led_on) l12 c12 k12
  have b12 := F12.binds (ps := ["self", "places", "name"]) fun _ _ _ _ _ _ us hl => match us, hl with | [_, _, _], _ => rfl
  have m12 : Meth K kC1 "led_on" f12 := ⟨a12, i12, k12⟩
  have F13 := fun_mk (st := s_steps) l13 c13 k13
  have b13 := F13.binds (ps := ["pattern"]) fun _ _ _ _ _ _ us hl => match us, hl with | [_], _ => rfl
  have m13 := PySem.W.mg_of X G a13
  have F14 := fun_mk (st := s_ends) l14 c14 k14
  have b14 := F14.binds (ps := ["pattern"]) fun _ _ _ _ _ _ us hl => match us, hl with | [_], _ => rfl
  have m14 := PySem.W.mg_of X G a14
  have F15 := fun_mk (st := s_matches) l15 c15 k15
  have b15 := F15.binds (ps := ["pattern", "row"]) fun _ _ _ _ _ _ us hl => match us, hl with | [_, _], _ => rfl
  have m15 := PySem.W.mg_of X G a15
  have F16 := fun_mk (st := s_law_bag) l16 c16 k16
  have b16 := F16.binds (ps := ["_law_script", "_law_at"]) fun _ _ _ _ _ _ us hl => match us, hl with | [_, _], _ => rfl
  have m16 := PySem.W.mg_of X G a16
  have F17 := fun_mk (st := s_law_take) l17 c17 k17
  have b17 := F17.binds (ps := ["_law_bag_here", "_law_many"]) fun _ _ _ _ _ _ us hl => match us, hl with | [_, _], _ => rfl
  have m17 := PySem.W.mg_of X G a17
  have F18 := fun_mk (st := s_law_names) l18 c18 k18
  have b18 := F18.binds (ps := ["_law_bag_here", "_law_many"]) fun _ _ _ _ _ _ us hl => match us, hl with | [_, _], _ => rfl
  have m18 := PySem.W.mg_of X G a18
  have F19 := fun_mk (st := s_law_pattern) l19 c19 k19
  have b19 := F19.binds (ps := ["_law_bag_here", "_law_names_here", "_law_deep"]) fun _ _ _ _ _ _ us hl => match us, hl with | [_, _, _], _ => rfl
  have m19 := PySem.W.mg_of X G a19
  have F20 := fun_mk (st := s_law_all) l20 c20 k20
  have b20 := F20.binds (ps := ["_law_names_here", "_law_most"]) fun _ _ _ _ _ _ us hl => match us, hl with | [_, _], _ => rfl
  have m20 := PySem.W.mg_of X G a20
  have F21 := fun_mk (st := s_law_walks) l21 c21 k21
  have b21 := F21.binds (ps := ["_law_pattern_here", "_law_row"]) fun _ _ _ _ _ _ us hl => match us, hl with | [_, _], _ => rfl
  have m21 := PySem.W.mg_of X G a21
  have F22 := fun_mk (st := s_law_cuts) l22 c22 k22
  have b22 := F22.binds (ps := ["_law_one", "_law_other", "_law_row"]) fun _ _ _ _ _ _ us hl => match us, hl with | [_, _, _], _ => rfl
  have m22 := PySem.W.mg_of X G a22
  have F23 := fun_mk (st := s_law_repeats) l23 c23 k23
  have b23 := F23.binds (ps := ["_law_pattern_here", "_law_row"]) fun _ _ _ _ _ _ us hl => match us, hl with | [_, _], _ => rfl
  have m23 := PySem.W.mg_of X G a23
  have F24 := fun_mk (st := s_law) l24 c24 k24
  refine ⟨PySem.W.fnOf "law" "law" (defArgs s_law) (defBody s_law) (defScope s_law) .none kV24 dc24 pm24 an24 cd24 ct24, fun s v => .of_eq rfl, fun base _ _ => ?_⟩
  have c_is_class_name : Cal l.prog w ⟨K, .all⟩ mg base 1 "is_class_name" spIsName := ⟨_, _, _, ok_is_class_name F1 Z g_LETTERS g_LONGEST_NAME g_RESERVED, m1, F1.kp, b1⟩
  have c_is_parts : Cal l.prog w ⟨K, .all⟩ mg base 1 "is_parts" spParts := ⟨_, _, _, ok_parts F2 Z g_MOST_PARTS, m2, F2.kp, b2⟩
  have c_is_nested : Cal l.prog w ⟨K, .all⟩ mg base 9 "is_nested" (spNest 7) := ⟨_, _, _, ok_nest F3 Z c_is_class_name c_is_parts m3 b3 7, m3, F3.kp, b3⟩
  have c_classes_in : Cal l.prog w ⟨K, .all⟩ mg base 9 "classes_in" (spCls 7) := ⟨_, _, _, ok_cls F4 Z m4 b4 7, m4, F4.kp, b4⟩
  have c_is_pattern : Cal l.prog w ⟨K, .all⟩ mg base 10 "is_pattern" spPat := ⟨_, _, _, ok_pat F5 Z g_MOST_DEEP g_MOST_CLASSES c_is_nested c_classes_in, m5, F5.kp, b5⟩
  have c_check_pattern : CalS l.prog w ⟨K, .all⟩ mg base 11 "check_pattern" (starD 1 (spChk xC1)) := ⟨⟨_, ok_chk F6 Z x_NoPattern c_is_pattern c_classes_in, m6, F6.kp⟩⟩
  have m_Places_link : MetD l.prog w ⟨K, .all⟩ mg base 1 kC1 "link" (spLink kC1) := ⟨⟨_, _, _, ok_link F7 Z cl_Places na_Places_after, cl_Places, m7, b7⟩⟩
  have m_Places_add : MetD l.prog w ⟨K, .all⟩ mg base 16 kC1 "add" (spAdd kC1 7) := ⟨⟨_, _, _, ok_adds F8 F9 Z cl_Places na_Places_after na_Places_read m_Places_link m8 m9 b8 b9 7, cl_Places, m8, b8⟩⟩
  have m_Places_add_row : MetD l.prog w ⟨K, .all⟩ mg base 17 kC1 "add_row" (spRow kC1 7) := ⟨⟨_, _, _, step_row (n := 7) F9 Z cl_Places m_Places_link m_Places_add, cl_Places, m9, b9⟩⟩
  have n_Places : MakDX l.prog w ⟨K, .all⟩ mg base 17 "Places" kC1 (spPlInit kC1) := ⟨⟨_, _, _, ok_plinit F10 Z cl_Places na_Places_after na_Places_read na_Places_starts na_Places_ends m_Places_add, ⟨kM1, a10, i10, kK1⟩, PySem.W.mg_of X G kA1, b10⟩⟩
  have m_Places_steps : MetD l.prog w ⟨K, .all⟩ mg base 1 kC1 "steps" (spSteps kC1) := ⟨⟨_, _, _, ok_steps F11 Z cl_Places na_Places_after na_Places_read, cl_Places, m11, b11⟩⟩
  have m_Places_led_on : MetD l.prog w ⟨K, .all⟩ mg base 1 kC1 "led_on" (spLed kC1) := ⟨⟨_, _, _, ok_led F12 Z cl_Places na_Places_after na_Places_read, cl_Places, m12, b12⟩⟩
  have c_steps : CalX l.prog w ⟨K, .all⟩ mg base 19 "steps" (spStepsF xC1) := ⟨_, _, _, ok_stepsF F13 Z c_check_pattern n_Places m_Places_steps, m13, F13.kp, b13⟩
  have c_ends : CalX l.prog w ⟨K, .all⟩ mg base 19 "ends" (spEnds xC1) := ⟨_, _, _, ok_ends F14 Z cl_Places na_Places_ends c_check_pattern n_Places, m14, F14.kp, b14⟩
  have c_matches : CalX l.prog w ⟨K, .all⟩ mg base 19 "matches" (spMat xC1) := ⟨_, _, _, ok_mat F15 Z cl_Places na_Places_ends c_check_pattern c_is_class_name n_Places m_Places_led_on, m15, F15.kp, b15⟩
  have c_law_bag : Cal l.prog w ⟨K, .all⟩ mg base 1 "_law_bag" spBag := ⟨_, _, _, ok_bag F16 Z, m16, F16.kp, b16⟩
  have c_law_take : Cal l.prog w ⟨K, .all⟩ mg base 1 "_law_take" spTake := ⟨_, _, _, ok_take F17 Z, m17, F17.kp, b17⟩
  have c_law_names : Cal l.prog w ⟨K, .all⟩ mg base 2 "_law_names" spNames := ⟨_, _, _, ok_names F18 Z c_law_take, m18, F18.kp, b18⟩
  have c_law_pattern : Cal l.prog w ⟨K, .all⟩ mg base 4 "_law_pattern" (spPattern 2) := ⟨_, _, _, ok_pattern F19 Z c_law_take m19 b19 2, m19, F19.kp, b19⟩
  have c_law_all : Cal l.prog w ⟨K, .all⟩ mg base 1 "_law_all" spAllR := ⟨_, _, _, ok_all F20 Z, m20, F20.kp, b20⟩
  have c_law_walks : Cal l.prog w ⟨K, .all⟩ mg base 20 "_law_walks" spWalks := ⟨_, _, _, ok_walks F21 Z c_steps c_ends, m21, F21.kp, b21⟩
  have c_law_cuts : Cal l.prog w ⟨K, .all⟩ mg base 20 "_law_cuts" spCuts := ⟨_, _, _, ok_cuts F22 Z c_matches, m22, F22.kp, b22⟩
  have c_law_repeats : Cal l.prog w ⟨K, .all⟩ mg base 20 "_law_repeats" spRepeats := ⟨_, _, _, ok_repeats F23 Z c_matches, m23, F23.kp, b23⟩
  exact ok_law F24 Z c_law_bag c_law_take c_law_names c_law_pattern c_law_all c_law_cuts c_law_repeats c_law_walks c_matches
theorem walk {l : PySem.W.OpenLaw} {q : Program} {loose : List Str} {XP : (Str → Option Value) → Heap → Prop} {YP : World → Heap → Prop} {d : DefRec} {K : Params → PySem.W.Frag} (hn : l.most = some 63) (hdf : d.params.defaults = [])
    (hY : ∀ (w : World) (h : Heap), YP w h → (K w.params).In h)
    (F : ∀ (w : World) (mg : Str → Option Value) (fa : Addr) (h : Heap), (K w.params).In h → h.Ns mainGlobals mg → mg d.name = some (.ref fa) →
      ∃ fd : FuncData, (∀ (s : Shared) (u : Value), BindsTo s fd ⟨[u], []⟩ [("_law_script", u)]) ∧ ∀ base : Heap, (K w.params).In base → base.Ns mainGlobals mg → FnG l.prog w (K w.params) mg base CX0 21 fa fd ["_law_script"] (spOf ⟨K w.params, .all⟩ spLaw)) :
    PySem.W.WalkO q loose XP YP l.row.toRowW d [] (fun f vs => PySem.call f vs) :=
  walkG (n := 63) (k := 21) (x := "_law_script") (CX := fun _ => CX0) (sp := fun w => spOf ⟨K w.params, .all⟩ spLaw) hn (by decide) hdf ⟨rfl, by decide, by decide⟩ hY F (fun w H a ns hl hS => script_ok (fun _ _ => ⟨ns, rfl, hl, fun _ => rfl⟩) hS) fun _ _ _ _ _ z => z


end Law
open PySem PySem.W PyProof.Rows
set_option maxRecDepth 100000 in
set_option maxHeartbeats 0 in
theorem PySem.Challenge.cw_eitherside_k49_whole_patterns_by_their_r_holds : PySem.Challenge.rw_eitherside_k49_whole_patterns_by_their_r.Holds := by
  w_on; o_law; k_head; (case hw => w_witness2)
  k_fill
  refine Law.walk (l := PySem.Challenge.rw_eitherside_k49_whole_patterns_by_their_r) rfl rfl (fun w h Y => PySem.W.kIn_of Y) ?F
  case F =>
    intro w mg fa h KX G hmg
    refine' Law.all_mk KX G hmg (kA1 := ?kA1) (kP1 := ?kP1) (kH1 := ?kH1) (kO1 := ?kO1) (kS1 := ?kS1) (kM1 := ?kM1) (kK1 := ?kK1) (kN1_1 := ?kN1_1) (kN1_2 := ?kN1_2) (kN1_3 := ?kN1_3) (kN1_4 := ?kN1_4) (a1 := ?a1) (l1 := ?l1) (c1 := ?c1) (k1 := ?k1) (a2 := ?a2) (l2 := ?l2) (c2 := ?c2) (k2 := ?k2) (a3 := ?a3) (l3 := ?l3) (c3 := ?c3) (k3 := ?k3) (a4 := ?a4) (l4 := ?l4) (c4 := ?c4) (k4 := ?k4) (a5 := ?a5) (l5 := ?l5) (c5 := ?c5) (k5 := ?k5) (a6 := ?a6) (l6 := ?l6) (c6 := ?c6) (k6 := ?k6) (a7 := ?a7) (l7 := ?l7) (c7 := ?c7) (k7 := ?k7) (a8 := ?a8) (l8 := ?l8) (c8 := ?c8) (k8 := ?k8) (a9 := ?a9) (l9 := ?l9) (c9 := ?c9) (k9 := ?k9) (a10 := ?a10) (l10 := ?l10) (c10 := ?c10) (k10 := ?k10) (a11 := ?a11) (l11 := ?l11) (c11 := ?c11) (k11 := ?k11) (a12 := ?a12) (l12 := ?l12) (c12 := ?c12) (k12 := ?k12) (a13 := ?a13) (l13 := ?l13) (c13 := ?c13) (k13 := ?k13) (a14 := ?a14) (l14 := ?l14) (c14 := ?c14) (k14 := ?k14) (a15 := ?a15) (l15 := ?l15) (c15 := ?c15) (k15 := ?k15) (a16 := ?a16) (l16 := ?l16) (c16 := ?c16) (k16 := ?k16) (a17 := ?a17) (l17 := ?l17) (c17 := ?c17) (k17 := ?k17) (a18 := ?a18) (l18 := ?l18) (c18 := ?c18) (k18 := ?k18) (a19 := ?a19) (l19 := ?l19) (c19 := ?c19) (k19 := ?k19) (a20 := ?a20) (l20 := ?l20) (c20 := ?c20) (k20 := ?k20) (a21 := ?a21) (l21 := ?l21) (c21 := ?c21) (k21 := ?k21) (a22 := ?a22) (l22 := ?l22) (c22 := ?c22) (k22 := ?k22) (a23 := ?a23) (l23 := ?l23) (c23 := ?c23) (k23 := ?k23) (a24 := ?a24) (l24 := ?l24) (c24 := ?c24) (k24 := ?k24) (i7 := ?i7) (i8 := ?i8) (i9 := ?i9) (i10 := ?i10) (i11 := ?i11) (i12 := ?i12) (g1 := ?g1) (g2 := ?g2) (g3 := ?g3) (gl3 := ?gl3) (gx3 := ?gx3) (g4 := ?g4) (g5 := ?g5) (g6 := ?g6) (xa_1 := ?xa_1) (xb_1 := ?xb_1) (xc_1 := ?xc_1) (xd_1 := ?xd_1) (xe_1 := ?xe_1) (xf_1 := ?xf_1) (xg_1 := ?xg_1) (xh_1 := ?xh_1) (xi_1 := ?xi_1) (xj_1 := ?xj_1) (xk_1 := ?xk_1) (xl_1 := ?xl_1) (xm_1 := ?xm_1) (xn_1 := ?xn_1) (xo_1 := ?xo_1) (xp_1 := ?xp_1) (z1 := ?z1) (z2 := ?z2) (z3 := ?z3) (z4 := ?z4) (z5 := ?z5) (z6 := ?z6) (z7 := ?z7) (z8 := ?z8) (z9 := ?z9) (z10 := ?z10) (z11 := ?z11) (z12 := ?z12) (z13 := ?z13) (z14 := ?z14) (z15 := ?z15) (z16 := ?z16) (z17 := ?z17) (z18 := ?z18) (z19 := ?z19) (z20 := ?z20) (z21 := ?z21) (z22 := ?z22) (z23 := ?z23) (z24 := ?z24) (z25 := ?z25) (z26 := ?z26) (z27 := ?z27)
    (case kA1 => k_is); (case kP1 => k_is); (case kH1 => k_is); (case kO1 => k_is)
    (case kS1 => k_is); (case kM1 => k_is); (case kK1 => k_is); (case kN1_1 => k_is)
    (case kN1_2 => k_is); (case kN1_3 => k_is); (case kN1_4 => k_is); (case a1 => k_is)
    (case l1 => k_is); (case c1 => k_is); (case k1 => k_is); (case a2 => k_is)
    (case l2 => k_is); (case c2 => k_is); (case k2 => k_is); (case a3 => k_is)
    (case l3 => k_is); (case c3 => k_is); (case k3 => k_is); (case a4 => k_is)
    (case l4 => k_is); (case c4 => k_is); (case k4 => k_is); (case a5 => k_is)
    (case l5 => k_is); (case c5 => k_is); (case k5 => k_is); (case a6 => k_is)
    (case l6 => k_is); (case c6 => k_is); (case k6 => k_is); (case a7 => k_is)
    (case l7 => k_is); (case c7 => k_is); (case k7 => k_is); (case a8 => k_is)
    (case l8 => k_is); (case c8 => k_is); (case k8 => k_is); (case a9 => k_is)
    (case l9 => k_is); (case c9 => k_is); (case k9 => k_is); (case a10 => k_is)
    (case l10 => k_is); (case c10 => k_is); (case k10 => k_is); (case a11 => k_is)
    (case l11 => k_is); (case c11 => k_is); (case k11 => k_is); (case a12 => k_is)
    (case l12 => k_is); (case c12 => k_is); (case k12 => k_is); (case a13 => k_is)
    (case l13 => k_is); (case c13 => k_is); (case k13 => k_is); (case a14 => k_is)
    (case l14 => k_is); (case c14 => k_is); (case k14 => k_is); (case a15 => k_is)
    (case l15 => k_is); (case c15 => k_is); (case k15 => k_is); (case a16 => k_is)
    (case l16 => k_is); (case c16 => k_is); (case k16 => k_is); (case a17 => k_is)
    (case l17 => k_is); (case c17 => k_is); (case k17 => k_is); (case a18 => k_is)
    (case l18 => k_is); (case c18 => k_is); (case k18 => k_is); (case a19 => k_is)
    (case l19 => k_is); (case c19 => k_is); (case k19 => k_is); (case a20 => k_is)
    (case l20 => k_is); (case c20 => k_is); (case k20 => k_is); (case a21 => k_is)
    (case l21 => k_is); (case c21 => k_is); (case k21 => k_is); (case a22 => k_is)
    (case l22 => k_is); (case c22 => k_is); (case k22 => k_is); (case a23 => k_is)
    (case l23 => k_is); (case c23 => k_is); (case k23 => k_is); (case a24 => k_is)
    (case l24 => k_is); (case c24 => k_is); (case k24 => k_is); (case i7 => k_is)
    (case i8 => k_is); (case i9 => k_is); (case i10 => k_is); (case i11 => k_is)
    (case i12 => k_is); (case g1 => k_is); (case g2 => k_is); (case g3 => k_is)
    (case gl3 => k_is); (case gx3 => exact (.cons _ _ (.cons _ _ (.cons _ _ (.cons _ _ .nil))))); (case g4 => k_is); (case g5 => k_is)
    (case g6 => k_is); (case xa_1 => k_is); (case xb_1 => k_is); (case xc_1 => k_is)
    (case xd_1 => k_is); (case xe_1 => k_is); (case xf_1 => k_is); (case xg_1 => k_is)
    (case xh_1 => k_is); (case xi_1 => k_is); (case xj_1 => k_is); (case xk_1 => k_is)
    (case xl_1 => k_is); (case xm_1 => k_is); (case xn_1 => k_is); (case xo_1 => k_is)
    (case xp_1 => first | rfl | k_is); (case z1 => k_is); (case z2 => k_is); (case z3 => k_is)
    (case z4 => k_is); (case z5 => k_is); (case z6 => k_is); (case z7 => k_is)
    (case z8 => k_is); (case z9 => k_is); (case z10 => k_is); (case z11 => k_is)
    (case z12 => k_is); (case z13 => k_is); (case z14 => k_is); (case z15 => k_is)
    (case z16 => k_is); (case z17 => k_is); (case z18 => k_is); (case z19 => k_is)
    (case z20 => k_is); (case z21 => k_is); (case z22 => k_is); (case z23 => k_is)
    (case z24 => k_is); (case z25 => k_is); (case z26 => k_is); (case z27 => k_is)
#print axioms PySem.Challenge.cw_eitherside_k49_whole_patterns_by_their_r_holds
end
