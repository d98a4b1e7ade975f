import PyProof.Rows.All
import Wide.All
import OpenK.AllK
import Wide.FinOn
import HandS.ForMost
import HandS.Lambda
import HandS.IsInst
import HandS.TupAny
import HandS.Style
import HandS.RaiseMore
import HandS.Deep
import PyProof.NeKinds
import PyProof.ReprRoads
import HandS.TryOnly
import HandS.TupMul
import HandS.SetTxt0
import HandS.SetFor
import HandS.Strs
import KE.KUnpackStar
import HandS.ForExc
import HandS.ExcInit
import KE.KExcInit
import HandS.Flow
import HandS.Steps
import KE.KExcIs
import HandS.ReplaceLit
import HandS.ReplaceList
import HandS.Nested
import HandS.FStr
import HandS.EndTab
import PySem.Challenge.RW_eitherside_k25_tree_texts
section
set_option Elab.async false
set_option maxRecDepth 100000
set_option linter.all false
set_option autoImplicit false
/-! DL1: readings over plain data. D: a value, immutable parts written out; Rs: the objects that may change. -/
namespace DL
open PySem PySem.Spec PyProof.Rows L2

/-- a lambda: its words, the cells that it captured -/
structure Lam where
  qual : Str
  params : Arguments
  body : Expr
  scope : Scope
  cl : List (Str × Addr)
/-- the object at f is the lambda L, its code object at c -/
def LamO (f : Addr) (L : Lam) (c : Addr) : HO := .ext fun h => ∃ (pm ctv : Value), h.get? f = some (PySem.W.kla_obj "<lambda>" L.qual L.params L.body L.scope L.cl pm c ctv)
inductive D where
  | non | bl (b : Bool) | int (i : Int) | str (x : Str) | ty (n : String) | ref (a : Addr)
  | tup (xs : List D) | lst (xs : List D) | rls (xs : List D)
  | ins (C : Addr) (ns : List Str) (ds : List D) | dK (ks : List Key) (ds : List D) | dT (ks : List (List Key)) (ds : List D)
  | lam (L : Lam)

mutual
inductive DV (K : PySem.W.Frag) (G : Hp) : D → V → Prop
  | non : DV K G .non .non
  | bl (b : Bool) : DV K G (.bl b) (.bl b)
  | int (i : Int) : DV K G (.int i) (.int i)
  | str (x : Str) : DV K G (.str x) (.str x)
  | ty (n : String) : DV K G (.ty n) (.ty n)
  | ref (a : Addr) : DV K G (.ref a) (.ref a)
  | tup {a : Addr} {xs : List V} {ds : List D} : SqT K G a xs → DVs K G ds xs → DV K G (.tup ds) (.ref a)
  | lst {a : Addr} {xs : List V} {ds : List D} : G a = some (.lst xs) → DVs K G ds xs → DV K G (.lst ds) (.ref a)
  | rls {a : Addr} {xs : List V} {ds : List D} : SqL K G a xs → DVs K G ds xs → DV K G (.rls ds) (.ref a)
  | ins {a dx C : Addr} {ns : List Str} {xs : List V} {ds : List D} : G a = some (.ins C dx (ns.zip xs)) → ns.length = ds.length → DVs K G ds xs → DV K G (.ins C ns ds) (.ref a)
  | dK {a : Addr} {ks : List Key} {xs : List V} {ds : List D} : G a = some (.dK (ks.zip xs)) → ks.length = ds.length → DVs K G ds xs → DV K G (.dK ks ds) (.ref a)
  | dT {a : Addr} {ks : List (List Key)} {xs : List V} {ds : List D} : G a = some (.dT (ks.zip xs)) → ks.length = ds.length → DVs K G ds xs → DV K G (.dT ks ds) (.ref a)
  | lam {f c : Addr} {L : Lam} : G f = some (LamO f L c) → G c = some (LamX.CodeO c L.qual) → DV K G (.lam L) (.ref f)
inductive DVs (K : PySem.W.Frag) (G : Hp) : List D → List V → Prop
  | nil : DVs K G [] []
  | cons {d : D} {ds : List D} {v : V} {vs : List V} : DV K G d v → DVs K G ds vs → DVs K G (d :: ds) (v :: vs)
end

theorem Rd.same {H H' : Hp} (e : Same H H') {a : Addr} {u : HO} (h : Rd H a u) : Rd H' a u := by
  rcases h with h | ⟨o, h⟩
  · exact .inl (e _ _ h)
  · exact .inr ⟨o, e _ _ h⟩
theorem SqT.same {K : PySem.W.Frag} {H H' : Hp} (e : Same H H') {a : Addr} {xs : List V} (h : SqT K H a xs) : SqT K H' a xs := by
  rcases h with h | h
  · exact .inl (Rd.same e h)
  · exact .inr h
theorem SqL.same {K : PySem.W.Frag} {H H' : Hp} (e : Same H H') {a : Addr} {xs : List V} (h : SqL K H a xs) : SqL K H' a xs := by
  rcases h with h | h
  · exact .inl (Rd.same e h)
  · exact .inr h

section
variable {K : PySem.W.Frag} {G G' : Hp}
mutual
theorem DV.mono (e : Same G G') : ∀ {d : D} {v : V}, DV K G d v → DV K G' d v
  | _, _, .non => .non
  | _, _, .bl b => .bl b
  | _, _, .int i => .int i
  | _, _, .str x => .str x
  | _, _, .ty n => .ty n
  | _, _, .ref a => .ref a
  | _, _, .tup h1 h2 => .tup (SqT.same e h1) (DVs.mono e h2)
  | _, _, .lst h1 h2 => .lst (e _ _ h1) (DVs.mono e h2)
  | _, _, .rls h1 h2 => .rls (SqL.same e h1) (DVs.mono e h2)
  | _, _, .ins h1 h2 h3 => .ins (e _ _ h1) h2 (DVs.mono e h3)
  | _, _, .dK h1 h2 h3 => .dK (e _ _ h1) h2 (DVs.mono e h3)
  | _, _, .dT h1 h2 h3 => .dT (e _ _ h1) h2 (DVs.mono e h3)
  | _, _, .lam h1 h2 => .lam (e _ _ h1) (e _ _ h2)
theorem DVs.mono (e : Same G G') : ∀ {ds : List D} {vs : List V}, DVs K G ds vs → DVs K G' ds vs
  | _, _, .nil => .nil
  | _, _, .cons h1 h2 => .cons (DV.mono e h1) (DVs.mono e h2)
end
theorem DVs.length : ∀ {ds : List D} {vs : List V}, DVs K G ds vs → ds.length = vs.length
  | _, _, .nil => rfl
  | _, _, .cons _ h => congrArg Nat.succ (DVs.length h)
theorem DVs.get : ∀ {ds : List D} {vs : List V} {i : Nat} {d : D}, DVs K G ds vs → ds[i]? = some d → ∃ v, vs[i]? = some v ∧ DV K G d v
  | _, _, _, _, .nil, e => by simp at e
  | _, _, 0, _, .cons h _, e => by simp at e; subst e; exact ⟨_, rfl, h⟩
  | _, _, i + 1, _, .cons _ h, e => by
    obtain ⟨v, e1, e2⟩ := DVs.get (i := i) h (by simpa using e)
    exact ⟨v, by simpa using e1, e2⟩
theorem DVs.getV : ∀ {ds : List D} {vs : List V} {i : Nat} {v : V}, DVs K G ds vs → vs[i]? = some v → ∃ d, ds[i]? = some d ∧ DV K G d v
  | _, _, _, _, .nil, e => by simp at e
  | _, _, 0, _, .cons h _, e => by simp at e; subst e; exact ⟨_, rfl, h⟩
  | _, _, i + 1, _, .cons _ h, e => by
    obtain ⟨v, e1, e2⟩ := DVs.getV (i := i) h (by simpa using e)
    exact ⟨v, by simpa using e1, e2⟩
theorem DVs.append : ∀ {ds es : List D} {vs us : List V}, DVs K G ds vs → DVs K G es us → DVs K G (ds ++ es) (vs ++ us)
  | _, _, _, _, .nil, h => h
  | _, _, _, _, .cons a b, h => .cons a (DVs.append b h)
theorem DVs.set {d : D} {v : V} (h : DV K G d v) : ∀ {ds : List D} {vs : List V} (i : Nat), DVs K G ds vs → DVs K G (ds.set i d) (vs.set i v)
  | _, _, _, .nil => .nil
  | _, _, 0, .cons _ b => .cons h b
  | _, _, i + 1, .cons a b => .cons a (DVs.set h i b)
theorem DVs.take : ∀ {ds : List D} {vs : List V} (i : Nat), DVs K G ds vs → DVs K G (ds.take i) (vs.take i)
  | _, _, 0, _ => .nil
  | _, _, _ + 1, .nil => .nil
  | _, _, i + 1, .cons a b => .cons a (DVs.take i b)
theorem DVs.drop : ∀ {ds : List D} {vs : List V} (i : Nat), DVs K G ds vs → DVs K G (ds.drop i) (vs.drop i)
  | _, _, 0, h => h
  | _, _, _ + 1, .nil => .nil
  | _, _, i + 1, .cons _ b => DVs.drop i b
theorem DVs.dropLast : ∀ {ds : List D} {vs : List V}, DVs K G ds vs → DVs K G ds.dropLast vs.dropLast
  | _, _, .nil => .nil
  | _, _, .cons _ .nil => .nil
  | _, _, .cons a (.cons b c) => .cons a (DVs.dropLast (.cons b c))
theorem DVs.reverse {ds : List D} {vs : List V} (h : DVs K G ds vs) : DVs K G ds.reverse vs.reverse := by
  induction ds generalizing vs with
  | nil => cases h; exact .nil
  | cons d ds ih =>
    cases h with
    | cons a b =>
      rw [List.reverse_cons, List.reverse_cons]
      exact DVs.append (ih b) (.cons a .nil)
theorem DVs.eraseIdx : ∀ {ds : List D} {vs : List V} (i : Nat), DVs K G ds vs → DVs K G (ds.eraseIdx i) (vs.eraseIdx i)
  | _, _, _, .nil => .nil
  | _, _, 0, .cons _ b => b
  | _, _, i + 1, .cons a b => .cons a (DVs.eraseIdx i b)
theorem DVs.strs : ∀ {xs : List Str} {vs : List V}, DVs K G (xs.map D.str) vs → vs = xs.map V.str
  | [], _, .nil => rfl
  | _ :: _, _, .cons (.str _) h => congrArg _ (DVs.strs h)
theorem DVs.ints : ∀ {xs : List Int} {vs : List V}, DVs K G (xs.map D.int) vs → vs = xs.map V.int
  | [], _, .nil => rfl
  | _ :: _, _, .cons (.int _) h => congrArg _ (DVs.ints h)
theorem DVs.bls : ∀ {xs : List Bool} {vs : List V}, DVs K G (xs.map D.bl) vs → vs = xs.map V.bl
  | [], _, .nil => rfl
  | _ :: _, _, .cons (.bl _) h => congrArg _ (DVs.bls h)
theorem DVs.ofStrs : ∀ (xs : List Str), DVs K G (xs.map D.str) (xs.map V.str)
  | [] => .nil
  | x :: xs => .cons (.str x) (DVs.ofStrs xs)
theorem DVs.ofInts : ∀ (xs : List Int), DVs K G (xs.map D.int) (xs.map V.int)
  | [] => .nil
  | x :: xs => .cons (.int x) (DVs.ofInts xs)
theorem DVs.ofBls : ∀ (xs : List Bool), DVs K G (xs.map D.bl) (xs.map V.bl)
  | [] => .nil
  | x :: xs => .cons (.bl x) (DVs.ofBls xs)
end

/-! ### data as PyData -/
mutual
def D.py : D → PyData
  | .non => .none
  | .bl b => .bool b
  | .int i => .int i
  | .str x => .str x
  | .ty _ => .none
  | .ref _ => .none
  | .tup xs => .tuple (D.pys xs)
  | .lst xs => .list (D.pys xs)
  | .rls xs => .list (D.pys xs)
  | .ins _ _ _ => .none
  | .dK _ _ => .none
  | .dT _ _ => .none
  | .lam _ => .none
def D.pys : List D → List PyData
  | [] => []
  | x :: xs => x.py :: D.pys xs
end
mutual
def D.plain : D → Bool
  | .ty _ => false
  | .ref _ => false
  | .tup xs => D.plains xs
  | .lst xs => D.plains xs
  | .rls xs => D.plains xs
  | .ins _ _ _ => false
  | .dK _ _ => false
  | .dT _ _ => false
  | .lam _ => false
  | _ => true
def D.plains : List D → Bool
  | [] => true
  | x :: xs => x.plain && D.plains xs
end
theorem pys_map : ∀ xs : List D, D.pys xs = xs.map D.py
  | [] => rfl
  | x :: xs => by rw [D.pys, pys_map xs]; rfl
theorem plains_all : ∀ xs : List D, D.plains xs = xs.all D.plain
  | [] => rfl
  | x :: xs => by rw [D.plains, plains_all xs]; rfl
section
variable {K : PySem.W.Frag} {G : Hp}
mutual
theorem DV.dp : ∀ {d : D} {v : V}, DV K G d v → d.plain = true → Dp K G v d.py
  | _, _, .non, _ => .non
  | _, _, .bl b, _ => .bl b
  | _, _, .int i, _ => .int i
  | _, _, .str x, _ => .str x
  | _, _, .ty _, h => by simp [D.plain] at h
  | _, _, .ref _, h => by simp [D.plain] at h
  | _, _, .tup h1 h2, h => by
    rw [D.plain] at h
    rw [D.py]
    exact .tup h1 (DVs.dp h2 h)
  | _, _, .lst h1 h2, h => by
    rw [D.plain] at h
    rw [D.py]
    exact .lst (.inl (.inl h1)) (DVs.dp h2 h)
  | _, _, .rls h1 h2, h => by
    rw [D.plain] at h
    rw [D.py]
    exact .lst h1 (DVs.dp h2 h)
  | _, _, .ins _ _ _, h => by simp [D.plain] at h
  | _, _, .dK _ _ _, h => by simp [D.plain] at h
  | _, _, .dT _ _ _, h => by simp [D.plain] at h
  | _, _, .lam _ _, h => by simp [D.plain] at h
theorem DVs.dp : ∀ {ds : List D} {vs : List V}, DVs K G ds vs → D.plains ds = true → DpAll K G vs (D.pys ds)
  | _, _, .nil, _ => by rw [D.pys]; exact .nil
  | _, _, .cons a b, h => by
    rw [D.plains, Bool.and_eq_true] at h
    rw [D.pys]
    exact .cons (DV.dp a h.1) (DVs.dp b h.2)
end
end
mutual
theorem Dp.same {K : PySem.W.Frag} {H H' : Hp} (e : Same H H') : ∀ {v : V} {d : PyData}, Dp K H v d → Dp K H' v d
  | _, _, .non => .non
  | _, _, .bl b => .bl b
  | _, _, .int i => .int i
  | _, _, .str x => .str x
  | _, _, .lst h1 h2 => .lst (SqL.same e h1) (DpAll.same e h2)
  | _, _, .tup h1 h2 => .tup (SqT.same e h1) (DpAll.same e h2)
theorem DpAll.same {K : PySem.W.Frag} {H H' : Hp} (e : Same H H') : ∀ {vs : List V} {ds : List PyData}, DpAll K H vs ds → DpAll K H' vs ds
  | _, _, .nil => .nil
  | _, _, .cons a b => .cons (Dp.same e a) (DpAll.same e b)
end

/-! ### what may change -/
inductive RO where
  | lst (xs : List D)
  | dK (kvs : List (Key × D))
  | dT (kvs : List (List Key × D))
  | ins (C dx : Addr) (fs : List (Str × D))
  | raw (o : HO)
abbrev Rs := Addr → Option RO
def put (R : Rs) (a : Addr) (o : RO) : Rs := fun b => if b = a then some o else R b
theorem put_same {R : Rs} {a : Addr} {o : RO} : put R a o a = some o := by unfold put; rw [if_pos rfl]
theorem put_ne {R : Rs} {a b : Addr} {o : RO} (h : b ≠ a) : put R a o b = R b := by unfold put; rw [if_neg h]
theorem put_put {R : Rs} {a : Addr} {o u : RO} : put (put R a o) a u = put R a u := by
  funext b; unfold put; split <;> rfl
theorem put_self {R : Rs} {a : Addr} {o : RO} (h : R a = some o) : put R a o = R := by
  funext b; unfold put; split
  · rename_i e; rw [e, h]
  · rfl
def ROk (K : PySem.W.Frag) (G : Hp) : RO → HO → Prop
  | .lst ds, o => ∃ vs, o = .lst vs ∧ DVs K G ds vs
  | .dK kvs, o => ∃ vs : List V, o = .dK ((kvs.map (·.1)).zip vs) ∧ DVs K G (kvs.map (·.2)) vs
  | .dT kvs, o => ∃ vs : List V, o = .dT ((kvs.map (·.1)).zip vs) ∧ DVs K G (kvs.map (·.2)) vs
  | .ins C dx fs, o => ∃ vs : List V, o = .ins C dx ((fs.map (·.1)).zip vs) ∧ DVs K G (fs.map (·.2)) vs
  | .raw u, o => o = u
theorem ROk.mono {K : PySem.W.Frag} {G G' : Hp} (e : Same G G') : ∀ {r : RO} {o : HO}, ROk K G r o → ROk K G' r o
  | .lst _, _, ⟨vs, h, q⟩ => ⟨vs, h, q.mono e⟩
  | .dK _, _, ⟨vs, h, q⟩ => ⟨vs, h, q.mono e⟩
  | .dT _, _, ⟨vs, h, q⟩ => ⟨vs, h, q.mono e⟩
  | .ins _ _ _, _, ⟨vs, h, q⟩ => ⟨vs, h, q.mono e⟩
  | .raw _, _, h => h

/-- the tables of code objects that are told, and the names by their places -/
class TabCtx where
  T : Addr → Option (Nat → Nat → Str)
/-- a hidden table of code objects, their names by their places -/
def TabH (G : Hp) (R : Rs) (H : Hp) (a : Addr) (nm : Nat → Nat → Str) : Prop := G a = none ∧ R a = none ∧ ∃ ps : Array Value, H a = some (.tbl ps) ∧ TriplesOk ps.toList ∧ ∀ (pos : Pos) (cv : Value), codeAmong pos ps.toList = some cv → ∃ c, cv = .ref c ∧ G c = some (LamX.CodeO c (nm pos.line pos.col))
def NoTab (o : HO) : Prop := ∀ ps, o ≠ .tbl ps
variable [TabCtx]
/-- one step on: what never changes grows; what is hidden (neither told as unchanging nor as changing) stays, but for the tables of code objects -/
structure Stp (G : Hp) (R : Rs) (H : Hp) (G' : Hp) (R' : Rs) (H' : Hp) : Prop where
  g : Same G G'
  f : ∀ a o, H a = some o → NoTab o → R a = none → G a = none → H' a = some o ∧ R' a = none ∧ G' a = none
  t : ∀ a q, TabCtx.T a = some q → TabH G R H a q → TabH G' R' H' a q
theorem Stp.mk0 {G G' : Hp} {R R' : Rs} {H H' : Hp} (g : Same G G') (f : ∀ a o, H a = some o → R a = none → G a = none → H' a = some o ∧ R' a = none ∧ G' a = none) : Stp G R H G' R' H' :=
  ⟨g, fun a o h1 _ h2 h3 => f a o h1 h2 h3, fun a q _ ⟨h1, h2, ps, h3, h4, h5⟩ => by
    obtain ⟨q1, q2, q3⟩ := f a _ h3 h2 h1
    exact ⟨q3, q2, ps, q1, h4, fun pos cv hc => let ⟨c, e1, e2⟩ := h5 pos cv hc; ⟨c, e1, g _ _ e2⟩⟩⟩
theorem Stp.refl (G : Hp) (R : Rs) (H : Hp) : Stp G R H G R H := .mk0 (Same.refl G) fun _ _ a b c => ⟨a, b, c⟩
theorem Stp.trans {G G1 G2 : Hp} {R R1 R2 : Rs} {H H1 H2 : Hp} (a : Stp G R H G1 R1 H1) (b : Stp G1 R1 H1 G2 R2 H2) : Stp G R H G2 R2 H2 :=
  ⟨a.g.trans b.g, fun x o h1 hn h2 h3 => let ⟨q1, q2, q3⟩ := a.f x o h1 hn h2 h3; b.f x o q1 hn q2 q3, fun x q z h => b.t x q z (a.t x q z h)⟩

theorem Stp.drop {G0 G : Hp} {R0 R R2 : Rs} {H0 H : Hp} (e : Stp G0 R0 H0 G R H) (s : ∀ a ro, R2 a = some ro → R a = some ro) : Stp G0 R0 H0 G R2 H :=
  e.trans (.mk0 (Same.refl G) fun a o h1 h2 h3 => by
    refine ⟨h1, ?_, h3⟩
    cases z : R2 a with
    | none => rfl
    | some ro => rw [s a ro z] at h2; cases h2)
/-- what stays true from a def's beginning on -/
structure Phi where
  p : Hp → Rs → Hp → Prop
  st : ∀ {G R H G' R' H'}, Stp G R H G' R' H' → p G R H → p G' R' H'
def Phi.all : Phi := ⟨fun _ _ _ => True, fun _ _ => trivial⟩
def Phi.of (G0 : Hp) (R0 : Rs) (H0 : Hp) : Phi := ⟨fun G R H => Stp G0 R0 H0 G R H, fun e h => h.trans e⟩
/-- the written part, and what stays true all along -/
structure KB where
  F : PySem.W.Frag
  B : Phi
instance : Coe KB PySem.W.Frag := ⟨KB.F⟩
structure KF where
  F : KB
  Φ : Phi
instance : Coe KF PySem.W.Frag := ⟨fun K => K.F.F⟩
structure CxF where
  X : Cx
  Φ : Phi
  B : Phi
instance : Coe CxF Cx := ⟨CxF.X⟩
namespace CxF
abbrev K (X : CxF) : KF := ⟨⟨X.X.K, X.B⟩, X.Φ⟩
abbrev A (X : CxF) : Around := X.X.A
abbrev env (X : CxF) : Env := X.X.env
abbrev N (X : CxF) : List Str := X.X.N
abbrev mg (X : CxF) : Str → Option Value := X.X.mg
abbrev calm (X : CxF) : Bool := X.X.calm
abbrev prog (X : CxF) : Program := X.X.prog
abbrev w (X : CxF) : World := X.X.w
abbrev base (X : CxF) : Heap := X.X.base
abbrev xe (X : CxF) : Value → Shared → Prop := X.X.xe
abbrev fn (X : CxF) := X.X.fn
abbrev stack (X : CxF) := X.X.stack
abbrev blk (X : CxF) (s : Shared) (H : Hp) (scope : Scope) (e : Env) (fp : List Addr) : CxF := ⟨X.X.blk s H scope e fp, X.Φ, X.B⟩
end CxF
structure RepH (K : KF) (G : Hp) (R : Rs) (H : Hp) : Prop where
  g : Same G H
  r : ∀ a ro, R a = some ro → G a = none ∧ ∃ o, H a = some o ∧ ROk K G ro o
  φ : K.Φ.p G R H
  b : K.F.B.p G R H
section
variable {K : KF} {G G' : Hp} {R R' : Rs} {H H' : Hp}
theorem RepH.free (h : RepH K G R H) {a : Addr} (e : H a = none) : R a = none := by
  cases q : R a with
  | none => rfl
  | some ro =>
    obtain ⟨_, o, h2, _⟩ := h.r a ro q
    rw [e] at h2; cases h2
theorem RepH.gfree (h : RepH K G R H) {a : Addr} (e : H a = none) : G a = none := by
  cases q : G a with
  | none => rfl
  | some o => have := h.g a o q; rw [e] at this; cases this
/-- forget some of what may change -/
theorem RepH.sub0 (h : RepH K G R H) (s : ∀ a ro, R' a = some ro → R a = some ro) : RepH K G R' H := ⟨h.g, fun a ro e => h.r a ro (s a ro e), K.Φ.st ((Stp.refl G R H).drop s) h.φ, K.F.B.st ((Stp.refl G R H).drop s) h.b⟩
/-- a new thing that never changes -/
theorem RepH.imm (h : RepH K G R H) {p : Addr} {o : HO} (e : H p = none) : Stp G R H (upd G p o) R (upd H p o) ∧ RepH K (upd G p o) R (upd H p o) := by
  have gp := h.gfree e
  have s1 : Same G (upd G p o) := fun b u q => by rw [upd_ne (ne_of_none q gp)]; exact q
  have S : Stp G R H (upd G p o) R (upd H p o) := .mk0 s1 fun b u q1 q2 q3 => by
    have hb : b ≠ p := ne_of_none q1 e
    exact ⟨by rw [upd_ne hb]; exact q1, q2, by rw [upd_ne hb]; exact q3⟩
  refine ⟨S, ⟨fun b u q => ?_, fun a ro q => ?_, K.Φ.st S h.φ, K.F.B.st S h.b⟩⟩
  · by_cases hb : b = p
    · subst hb; rw [upd_same] at q; rw [upd_same]; exact q
    · rw [upd_ne hb] at q; rw [upd_ne hb]; exact h.g b u q
  · obtain ⟨h1, u, h2, h3⟩ := h.r a ro q
    have hb : a ≠ p := ne_of_none h2 e
    exact ⟨by rw [upd_ne hb]; exact h1, u, by rw [upd_ne hb]; exact h2, h3.mono s1⟩
/-- a new thing that may change -/
theorem RepH.new (h : RepH K G R H) {p : Addr} {o : HO} {ro : RO} (e : H p = none) (k : ROk K G ro o) : Stp G R H G (put R p ro) (upd H p o) ∧ RepH K G (put R p ro) (upd H p o) := by
  have gp := h.gfree e
  have S : Stp G R H G (put R p ro) (upd H p o) := .mk0 (Same.refl G) fun b u q1 q2 q3 => by
    have hb : b ≠ p := ne_of_none q1 e
    exact ⟨by rw [upd_ne hb]; exact q1, by rw [put_ne hb]; exact q2, q3⟩
  refine ⟨S, ?_⟩
  refine ⟨fun b u q => by rw [upd_ne (ne_of_none q gp)]; exact h.g b u q, fun a r q => ?_, K.Φ.st S h.φ, K.F.B.st S h.b⟩
  by_cases hb : a = p
  · subst hb; rw [put_same] at q; cases q; exact ⟨gp, o, upd_same, k⟩
  · rw [put_ne hb] at q
    obtain ⟨h1, u, h2, h3⟩ := h.r a r q
    exact ⟨h1, u, by rw [upd_ne hb]; exact h2, h3⟩
/-- a thing is changed -/
theorem RepH.chg (h : RepH K G R H) {p : Addr} {o : HO} {ro r0 : RO} (e : R p = some r0) (k : ROk K G ro o) : Stp G R H G (put R p ro) (upd H p o) ∧ RepH K G (put R p ro) (upd H p o) := by
  obtain ⟨gp, _, _, _⟩ := h.r p r0 e
  have S : Stp G R H G (put R p ro) (upd H p o) := .mk0 (Same.refl G) fun b u q1 q2 q3 => by
    have hb : b ≠ p := by intro z; subst z; rw [q2] at e; cases e
    exact ⟨by rw [upd_ne hb]; exact q1, by rw [put_ne hb]; exact q2, q3⟩
  refine ⟨S, ?_⟩
  refine ⟨fun b u q => by rw [upd_ne (ne_of_none q gp)]; exact h.g b u q, fun a r q => ?_, K.Φ.st S h.φ, K.F.B.st S h.b⟩
  by_cases hb : a = p
  · subst hb; rw [put_same] at q; cases q; exact ⟨gp, o, upd_same, k⟩
  · rw [put_ne hb] at q
    obtain ⟨h1, u, h2, h3⟩ := h.r a r q
    exact ⟨h1, u, by rw [upd_ne hb]; exact h2, h3⟩
/-- the heap beside what is told has a new thing -/
theorem Stp.more (s : Same H H') : Stp G R H G R H' := .mk0 (Same.refl G) fun a o q1 q2 q3 => ⟨s a o q1, q2, q3⟩
theorem RepH.more (h : RepH K G R H) (s : Same H H') : RepH K G R H' := ⟨h.g.trans s, fun a ro e => let ⟨h1, o, h2, h3⟩ := h.r a ro e; ⟨h1, o, s _ _ h2, h3⟩, K.Φ.st (.more s) h.φ, K.F.B.st (.more s) h.b⟩
theorem RepH.lst (h : RepH K G R H) {l : Addr} {ds : List D} (e : R l = some (.lst ds)) : ∃ vs, H l = some (.lst vs) ∧ DVs K G ds vs := by
  obtain ⟨_, o, h2, vs, rfl, h3⟩ := h.r l _ e
  exact ⟨vs, h2, h3⟩
end

/-! ### readings -/
abbrev DSt := List (Option D)
abbrev DK := D → Rs → Prop
abbrev DTE := DSt → Rs → DK → Prop
abbrev DTT := DSt → Rs → (Bool → Rs → Prop) → Prop
abbrev DTA := DSt → Rs → (List D → Rs → Prop) → Prop
structure DEnds where
  nx : DSt → Rs → Prop
  rt : DK
  bk : DSt → Rs → Prop := fun _ _ => False
  ct : DSt → Rs → Prop := fun _ _ => False
abbrev DTS := DEnds → DSt → Rs → Prop

structure SV (K : PySem.W.Frag) (G : Hp) (sd : DSt) (s : L2.St) : Prop where
  len : sd.length = s.length
  at' : ∀ (i : Nat) (d : D), sd[i]? = some (some d) → ∃ v, s[i]? = some (some v) ∧ DV K G d v
theorem SV.mono {K : PySem.W.Frag} {G G' : Hp} {sd : DSt} {s : L2.St} (h : SV K G sd s) (e : Same G G') : SV K G' sd s :=
  ⟨h.len, fun i d q => let ⟨v, a, b⟩ := h.at' i d q; ⟨v, a, b.mono e⟩⟩
theorem SV.set {K : PySem.W.Frag} {G : Hp} {sd : DSt} {s : L2.St} (h : SV K G sd s) (i : Nat) {d : D} {v : V} (q : DV K G d v) : SV K G (sd.set i (some d)) (s.set i (some v)) := by
  refine ⟨by rw [List.length_set, List.length_set]; exact h.len, fun j e hj => ?_⟩
  by_cases hij : i = j
  · subst hij
    by_cases hl : i < sd.length
    · rw [List.getElem?_set_self hl] at hj
      cases hj
      exact ⟨v, List.getElem?_set_self (by rw [← h.len]; exact hl), q⟩
    · rw [List.getElem?_eq_none (by rw [List.length_set]; omega)] at hj; cases hj
  · rw [List.getElem?_set_ne hij] at hj
    rw [List.getElem?_set_ne hij]
    exact h.at' j e hj
theorem SV.forget {K : PySem.W.Frag} {G : Hp} {sd : DSt} {s : L2.St} (h : SV K G sd s) (i : Nat) : SV K G (sd.set i none) (s.set i none) := by
  refine ⟨by rw [List.length_set, List.length_set]; exact h.len, fun j e hj => ?_⟩
  by_cases hij : i = j
  · subst hij
    by_cases hl : i < sd.length
    · rw [List.getElem?_set_self hl] at hj; cases hj
    · rw [List.getElem?_eq_none (by rw [List.length_set]; omega)] at hj; cases hj
  · rw [List.getElem?_set_ne hij] at hj
    rw [List.getElem?_set_ne hij]
    exact h.at' j e hj

structure EB (K : KF) (G : Hp) (R : Rs) (H : Hp) (Ed : DEnds) (E : Ends) : Prop where
  nx : ∀ G' sd s R' H', Stp G R H G' R' H' → SV K G' sd s → RepH K G' R' H' → Ed.nx sd R' → E.nx s H'
  rt : ∀ G' R' H' d v, Stp G R H G' R' H' → RepH K G' R' H' → DV K G' d v → Ed.rt d R' → E.rt v H'
  bk : ∀ G' sd s R' H', Stp G R H G' R' H' → SV K G' sd s → RepH K G' R' H' → Ed.bk sd R' → E.bk s H'
  ct : ∀ G' sd s R' H', Stp G R H G' R' H' → SV K G' sd s → RepH K G' R' H' → Ed.ct sd R' → E.ct s H'
theorem EB.st {K : KF} {G G' : Hp} {R R' : Rs} {H H' : Hp} {Ed : DEnds} {E : Ends} (h : EB K G R H Ed E) (e : Stp G R H G' R' H') : EB K G' R' H' Ed E :=
  ⟨fun g sd s R H q => h.nx g sd s R H (e.trans q), fun g R H d v q => h.rt g R H d v (e.trans q), fun g sd s R H q => h.bk g sd s R H (e.trans q), fun g sd s R H q => h.ct g sd s R H (e.trans q)⟩
theorem SV.st {K : PySem.W.Frag} {G G' : Hp} {R R' : Rs} {H H' : Hp} {sd : DSt} {s : L2.St} (h : SV K G sd s) (e : Stp G R H G' R' H') : SV K G' sd s := h.mono e.g
theorem DV.st {K : PySem.W.Frag} {G G' : Hp} {R R' : Rs} {H H' : Hp} {d : D} {v : V} (h : DV K G d v) (e : Stp G R H G' R' H') : DV K G' d v := h.mono e.g
theorem DVs.st {K : PySem.W.Frag} {G G' : Hp} {R R' : Rs} {H H' : Hp} {d : List D} {v : List V} (h : DVs K G d v) (e : Stp G R H G' R' H') : DVs K G' d v := h.mono e.g

/-- what stands behind an expression -/
def CB (K : KF) (G : Hp) (R : Rs) (H : Hp) (Qd : DK) (Q : VK) : Prop := ∀ G' R' H' d v, Stp G R H G' R' H' → RepH K G' R' H' → DV K G' d v → Qd d R' → Q v H'
def CBT (K : KF) (G : Hp) (R : Rs) (H : Hp) (Qd : Bool → Rs → Prop) (Q : Bool → Hp → Prop) : Prop := ∀ G' R' H' b, Stp G R H G' R' H' → RepH K G' R' H' → Qd b R' → Q b H'
def CBA (K : KF) (G : Hp) (R : Rs) (H : Hp) (Qd : List D → Rs → Prop) (Q : List V → Hp → Prop) : Prop := ∀ G' R' H' ds vs, Stp G R H G' R' H' → RepH K G' R' H' → DVs K G' ds vs → Qd ds R' → Q vs H'
def CBS (K : KF) (G : Hp) (R : Rs) (H : Hp) (Qd : DSt → Rs → Prop) (Q : L2.St → Hp → Prop) : Prop := ∀ G' sd s R' H', Stp G R H G' R' H' → SV K G' sd s → RepH K G' R' H' → Qd sd R' → Q s H'
section
variable {K : KF} {G G' : Hp} {R R' : Rs} {H H' : Hp}
theorem CB.st {Qd : DK} {Q : VK} (h : CB K G R H Qd Q) (e : Stp G R H G' R' H') : CB K G' R' H' Qd Q := fun g R H d v q => h g R H d v (e.trans q)
theorem CBT.st {Qd : Bool → Rs → Prop} {Q : Bool → Hp → Prop} (h : CBT K G R H Qd Q) (e : Stp G R H G' R' H') : CBT K G' R' H' Qd Q := fun g R H b q => h g R H b (e.trans q)
theorem CBA.st {Qd : List D → Rs → Prop} {Q : List V → Hp → Prop} (h : CBA K G R H Qd Q) (e : Stp G R H G' R' H') : CBA K G' R' H' Qd Q := fun g R H d v q => h g R H d v (e.trans q)
theorem CBS.st {Qd : DSt → Rs → Prop} {Q : L2.St → Hp → Prop} (h : CBS K G R H Qd Q) (e : Stp G R H G' R' H') : CBS K G' R' H' Qd Q := fun g sd s R H q => h g sd s R H (e.trans q)
end
def LE (K : KF) (te : TE) (td : DTE) : Prop := ∀ G sd s R H Qd Q, SV K G sd s → RepH K G R H → td sd R Qd → CB K G R H Qd Q → te s H Q
def LT (K : KF) (te : TT) (td : DTT) : Prop := ∀ G sd s R H Qd Q, SV K G sd s → RepH K G R H → td sd R Qd → CBT K G R H Qd Q → te s H Q
def LA (K : KF) (te : TA) (td : DTA) : Prop := ∀ G sd s R H Qd Q, SV K G sd s → RepH K G R H → td sd R Qd → CBA K G R H Qd Q → te s H Q
def LS (K : KF) (ts : TS) (td : DTS) : Prop := ∀ G sd s R H Ed E, SV K G sd s → RepH K G R H → td Ed sd R → EB K G R H Ed E → ts E s H

def DE (X : CxF) (e : Expr) (t : DTE) : Prop := ∃ te, PE X e te ∧ LE X.K te t
def DT (X : CxF) (e : Expr) (t : DTT) : Prop := ∃ te, PT X e te ∧ LT X.K te t
def DW (X : CxF) (e : Expr) (t : DTT) : Prop := ∃ te, PW X e te ∧ LT X.K te t
def DA (X : CxF) (es : List Expr) (t : DTA) : Prop := ∃ te, PA X es te ∧ LA X.K te t
def DS (X : CxF) (st : Stmt) (t : DTS) : Prop := ∃ te, PS X st te ∧ LS X.K te t
def DSs (X : CxF) (st : List Stmt) (t : DTS) : Prop := ∃ te, PSs X st te ∧ LS X.K te t

/-! ### names and constants -/
def dVar (i : Nat) : DTE := fun s R Q => ∃ d, s[i]? = some (some d) ∧ Q d R
def dC (d : D) : DTE := fun _ R Q => Q d R
theorem LE.var {K : KF} (i : Nat) : LE K (tVar i) (dVar i) := fun G sd s R H Qd Q sv rh ⟨d, e, q⟩ c => by
  obtain ⟨v, e2, r⟩ := sv.at' i d e
  exact ⟨v, e2, c G R H d v (Stp.refl G R H) rh r q⟩
theorem LE.con {K : KF} {v : V} {d : D} (h : ∀ G, DV K G d v) : LE K (tC v) (dC d) := fun G sd s R H Qd Q sv rh q c => c G R H d v (Stp.refl G R H) rh (h G) q
section
variable {X : CxF}
theorem dv (i : Nat) {x : Str} {pos : Pos} (hN : X.N[i]? = some x := by rfl) (hv : Vis X.env.scope x := by first | exact Or.inl rfl | exact Or.inr (Or.inl rfl) | exact Or.inr (Or.inr rfl)) (hd : (x == ("__debug__" : Str)) = false := by decide)
    (hcd : (x == ("__classdict__" : Str)) = false := by decide) : DE X (.Name x pos) (dVar i) := ⟨_, pe_var hN hv hd hcd, LE.var i⟩
theorem de_int {i : Int} {j : Nat} {pos : Pos} : DE X (.Constant (.int i) j pos) (dC (.int i)) := ⟨_, pe_int, LE.con fun _ => .int _⟩
theorem de_bl {b : Bool} {j : Nat} {pos : Pos} : DE X (.Constant (.bool b) j pos) (dC (.bl b)) := ⟨_, pe_bl, LE.con fun _ => .bl _⟩
theorem de_non {j : Nat} {pos : Pos} : DE X (.Constant .none j pos) (dC .non) := ⟨_, pe_non, LE.con fun _ => .non⟩
theorem de_str {x : Str} {j : Nat} {pos : Pos} : DE X (.Constant (.str x) j pos) (dC (.str x)) := ⟨_, pe_str, LE.con fun _ => .str _⟩
end
end DL
end
section
set_option Elab.async false
set_option maxRecDepth 100000
set_option linter.all false
set_option autoImplicit false
/-! DL2: expressions, tests, statements, loops over plain data -/
namespace DL
open PySem PySem.Spec PyProof.Rows L2
variable [TabCtx]

/-! ### values -/
abbrev DR2 := D → D → Rs → DK → Prop
def LR1 (K : KF) (r : V → Hp → VK → Prop) (rd : D → Rs → DK → Prop) : Prop := ∀ G R H x xd Qd Q, RepH K G R H → DV K G xd x → rd xd R Qd → CB K G R H Qd Q → r x H Q
def LR2 (K : KF) (r : R2) (rd : DR2) : Prop := ∀ G R H x y xd yd Qd Q, RepH K G R H → DV K G xd x → DV K G yd y → rd xd yd R Qd → CB K G R H Qd Q → r x y H Q
def LRA (K : KF) (r : List V → Hp → VK → Prop) (rd : List D → Rs → DK → Prop) : Prop := ∀ G R H xs ds Qd Q, RepH K G R H → DVs K G ds xs → rd ds R Qd → CB K G R H Qd Q → r xs H Q
def LRM (K : KF) (r : V → List V → Hp → VK → Prop) (rd : D → List D → Rs → DK → Prop) : Prop := ∀ G R H x xs d ds Qd Q, RepH K G R H → DV K G d x → DVs K G ds xs → rd d ds R Qd → CB K G R H Qd Q → r x xs H Q
def LRS (K : KF) (r : V → Option Int → Option Int → Hp → VK → Prop) (rd : D → Option Int → Option Int → Rs → DK → Prop) : Prop := ∀ G R H x d lo hi Qd Q, RepH K G R H → DV K G d x → rd d lo hi R Qd → CB K G R H Qd Q → r x lo hi H Q
def OpD (X : CxF) (f : Value → Value → Sem Value) (rd : DR2) : Prop := ∃ r, OpR X f r ∧ LR2 X.K r rd
def UnD (X : CxF) (f : Value → Sem Value) (rd : D → Rs → DK → Prop) : Prop := ∃ r, UnR X f r ∧ LR1 X.K r rd
def CallD (X : CxF) (f : Value) (rd : List D → Rs → DK → Prop) : Prop := ∃ r, CallR X f r ∧ LRA X.K r rd
def MtD (X : CxF) (id : String) (rd : D → List D → Rs → DK → Prop) : Prop := ∃ r, MtR X id r ∧ LRM X.K r rd
def IxD (X : CxF) (rd : DR2) : Prop := ∃ r, IxR X r ∧ LR2 X.K r rd
def SlD (X : CxF) (rd : D → Option Int → Option Int → Rs → DK → Prop) : Prop := ∃ r, SlR X r ∧ LRS X.K r rd

/-! ### expressions -/
def dOp (r : DR2) (ta tb : DTE) : DTE := fun s R Q => ta s R fun x R1 => tb s R1 fun y R2 => r x y R2 Q
def dUn (r : D → Rs → DK → Prop) (ta : DTE) : DTE := fun s R Q => ta s R fun x R1 => r x R1 Q
def dNil : DTA := fun _ R Q => Q [] R
def dCons (ta : DTE) (tr : DTA) : DTA := fun s R Q => ta s R fun x R1 => tr s R1 fun xs R2 => Q (x :: xs) R2
def dCB (r : List D → Rs → DK → Prop) (t : DTA) : DTE := fun s R Q => t s R fun ds R1 => r ds R1 Q
/-- a tuple -/
def dTup (t : DTA) : DTE := fun s R Q => t s R fun ds R1 => ds.length ≤ sizeLine ∧ Q (.tup ds) R1
/-- a list that never changes -/
def dLstF (t : DTA) : DTE := fun s R Q => t s R fun ds R1 => ds.length ≤ sizeLine ∧ Q (.lst ds) R1
/-- a list that may change -/
def dLst (t : DTA) : DTE := fun s R Q => t s R fun ds R1 => ds.length ≤ sizeLine ∧ ∀ p, R1 p = none → Q (.ref p) (put R1 p (.lst ds))
def dIf (t : DTT) (ta tb : DTE) : DTE := fun s R Q => t s R fun c R1 => if c = true then ta s R1 Q else tb s R1 Q
def dB (t : DTE) : DTT := fun s R Q => t s R fun x R1 => ∃ c, x = .bl c ∧ Q c R1
def dAnd (t u : DTT) : DTT := fun s R Q => t s R fun c R1 => if c = true then u s R1 Q else Q false R1
def dOr (t u : DTT) : DTT := fun s R Q => t s R fun c R1 => if c = true then Q true R1 else u s R1 Q
def dNot (t : DTT) : DTT := fun s R Q => t s R fun c R1 => Q (!c) R1
def dAndV (ta tb : DTE) : DTE := fun s R Q => ta s R fun x R1 => ∃ c, x = .bl c ∧ if c = true then tb s R1 Q else Q (.bl false) R1
def dOrV (ta tb : DTE) : DTE := fun s R Q => ta s R fun x R1 => ∃ c, x = .bl c ∧ if c = true then Q (.bl true) R1 else tb s R1 Q
def dNotV (ta : DTE) : DTE := fun s R Q => ta s R fun x R1 => ∃ c, x = .bl c ∧ Q (.bl (!c)) R1
def dChain (r r' : DR2) (ta tb tc : DTE) : DTE := fun s R Q => ta s R fun x R1 => tb s R1 fun y R2 => r x y R2 fun z R3 => ∃ k, z = .bl k ∧ (if k = true then tc s R3 fun w' R4 => r' y w' R4 Q else Q (.bl false) R3)

section
variable {X : CxF} {a b c e o : Expr} {es rest : List Expr} {ta tb tc te to : DTE} {tA tB' : DTT} {t : DTA} {pos p apos cpos : Pos}
theorem de_op {op : Operator} {r : DR2} (ho : OpD X (binaryOp op) r) (ha : DE X a ta) (hb : DE X b tb) : DE X (.BinOp a op b pos) (dOp r ta tb) := by
  obtain ⟨r0, o1, o2⟩ := ho; obtain ⟨t1, a1, a2⟩ := ha; obtain ⟨t2, b1, b2⟩ := hb
  exact ⟨_, pe_op o1 a1 b1, fun G sd s R H Qd Q sv rh q k => a2 G sd s R H _ _ sv rh q fun G1 R1 H1 d v e1 rh1 dv1 q1 => b2 G1 sd s R1 H1 _ _ (sv.st e1) rh1 q1 fun G2 R2 H2 d2 v2 e2 rh2 dv2 q2 => o2 G2 R2 H2 v v2 d d2 _ _ rh2 (dv1.st e2) dv2 q2 (k.st (e1.trans e2))⟩
theorem de_un {op : UnaryOp} {r : D → Rs → DK → Prop} (ho : UnD X (unaryOp op) r) (ha : DE X a ta) : DE X (.UnaryOp op a pos) (dUn r ta) := by
  obtain ⟨r0, o1, o2⟩ := ho; obtain ⟨t1, a1, a2⟩ := ha
  exact ⟨_, pe_un o1 a1, fun G sd s R H Qd Q sv rh q k => a2 G sd s R H _ _ sv rh q fun G1 R1 H1 d v e1 rh1 dv1 q1 => o2 G1 R1 H1 v d _ _ rh1 dv1 q1 (k.st e1)⟩
theorem de_cmp {op : CmpOp} {r : DR2} (ho : OpD X (compareOp op) r) (ha : DE X a ta) (hb : DE X b tb) (hm : behindInMarks op b = false) : DE X (.Compare a [op] [b] pos) (dOp r ta tb) := by
  obtain ⟨r0, o1, o2⟩ := ho; obtain ⟨t1, a1, a2⟩ := ha; obtain ⟨t2, b1, b2⟩ := hb
  exact ⟨_, pe_cmpR o1 a1 b1 hm, fun G sd s R H Qd Q sv rh q k => a2 G sd s R H _ _ sv rh q fun G1 R1 H1 d v e1 rh1 dv1 q1 => b2 G1 sd s R1 H1 _ _ (sv.st e1) rh1 q1 fun G2 R2 H2 d2 v2 e2 rh2 dv2 q2 => o2 G2 R2 H2 v v2 d d2 _ _ rh2 (dv1.st e2) dv2 q2 (k.st (e1.trans e2))⟩
theorem DV.ofBl {K : PySem.W.Frag} {G : Hp} {c : Bool} {v : V} (h : DV K G (.bl c) v) : v = .bl c := by cases h; rfl
theorem dt_cmp {op : CmpOp} {r : DR2} (ho : OpD X (compareOp op) r) (ha : DE X a ta) (hb : DE X b tb) (hm : behindInMarks op b = false) : DT X (.Compare a [op] [b] pos) (dB (dOp r ta tb)) := by
  obtain ⟨r0, o1, o2⟩ := ho; obtain ⟨t1, a1, a2⟩ := ha; obtain ⟨t2, b1, b2⟩ := hb
  refine ⟨_, pt_cmpR o1 a1 b1 hm, fun G sd s R H Qd Q sv rh q k => a2 G sd s R H _ _ sv rh q fun G1 R1 H1 d v e1 rh1 dv1 q1 => b2 G1 sd s R1 H1 _ _ (sv.st e1) rh1 q1 fun G2 R2 H2 d2 v2 e2 rh2 dv2 q2 => o2 G2 R2 H2 v v2 d d2 _ _ rh2 (dv1.st e2) dv2 q2 fun G3 R3 H3 d3 v3 e3 rh3 dv3 q3 => ?_⟩
  obtain ⟨c, rfl, q4⟩ := q3
  exact ⟨c, DV.ofBl dv3, k G3 R3 H3 c (e1.trans (e2.trans e3)) rh3 q4⟩
theorem de_chain {op op' : CmpOp} {r r' : DR2} (ho : OpD X (compareOp op) r) (ho' : OpD X (compareOp op') r') (ha : DE X a ta) (hb : DE X b tb) (hc : DE X c tc) (hm : lastMarks [op, op'] [b, c] = false := by with_unfolding_all rfl) : DE X (.Compare a [op, op'] [b, c] pos) (dChain r r' ta tb tc) := by
  obtain ⟨r0, o1, o2⟩ := ho; obtain ⟨r0', o1', o2'⟩ := ho'; obtain ⟨t1, a1, a2⟩ := ha; obtain ⟨t2, b1, b2⟩ := hb; obtain ⟨t3, c1, c2⟩ := hc
  refine ⟨_, pe_chain o1 o1' a1 b1 c1 hm, fun G sd s R H Qd Q sv rh q k => a2 G sd s R H _ _ sv rh q fun G1 R1 H1 d v e1 rh1 dv1 q1 => b2 G1 sd s R1 H1 _ _ (sv.st e1) rh1 q1 fun G2 R2 H2 d2 v2 e2 rh2 dv2 q2 => o2 G2 R2 H2 v v2 d d2 _ _ rh2 (dv1.st e2) dv2 q2 fun G3 R3 H3 d3 v3 e3 rh3 dv3 q3 => ?_⟩
  obtain ⟨c, rfl, q4⟩ := q3
  refine ⟨c, DV.ofBl dv3, ?_⟩
  have g3 := e1.trans (e2.trans e3)
  cases c with
  | false => exact k G3 R3 H3 _ _ g3 rh3 (.bl false) q4
  | true => exact c2 G3 sd s R3 H3 _ _ (sv.st g3) rh3 q4 fun G4 R4 H4 d4 v4 e4 rh4 dv4 q5 => o2' G4 R4 H4 v2 v4 d2 d4 _ _ rh4 (dv2.st (e3.trans e4)) dv4 q5 (k.st (g3.trans e4))
theorem dt_chain {op op' : CmpOp} {r r' : DR2} (ho : OpD X (compareOp op) r) (ho' : OpD X (compareOp op') r') (ha : DE X a ta) (hb : DE X b tb) (hc : DE X c tc) (hm : lastMarks [op, op'] [b, c] = false := by with_unfolding_all rfl) : DT X (.Compare a [op, op'] [b, c] pos) (dB (dChain r r' ta tb tc)) := by
  obtain ⟨r0, o1, o2⟩ := ho; obtain ⟨r0', o1', o2'⟩ := ho'; obtain ⟨t1, a1, a2⟩ := ha; obtain ⟨t2, b1, b2⟩ := hb; obtain ⟨t3, c1, c2⟩ := hc
  refine ⟨_, pt_chain o1 o1' a1 b1 c1 hm, fun G sd s R H Qd Q sv rh q k => a2 G sd s R H _ _ sv rh q fun G1 R1 H1 d v e1 rh1 dv1 q1 => b2 G1 sd s R1 H1 _ _ (sv.st e1) rh1 q1 fun G2 R2 H2 d2 v2 e2 rh2 dv2 q2 => o2 G2 R2 H2 v v2 d d2 _ _ rh2 (dv1.st e2) dv2 q2 fun G3 R3 H3 d3 v3 e3 rh3 dv3 q3 => ?_⟩
  obtain ⟨c, rfl, q4⟩ := q3
  refine ⟨c, DV.ofBl dv3, ?_⟩
  have g3 := e1.trans (e2.trans e3)
  cases c with
  | false =>
    obtain ⟨c', e', q5⟩ := q4
    cases e'
    exact ⟨false, rfl, k G3 R3 H3 _ g3 rh3 q5⟩
  | true =>
    refine c2 G3 sd s R3 H3 _ _ (sv.st g3) rh3 q4 fun G4 R4 H4 d4 v4 e4 rh4 dv4 q5 => o2' G4 R4 H4 v2 v4 d2 d4 _ _ rh4 (dv2.st (e3.trans e4)) dv4 q5 fun G5 R5 H5 d5 v5 e5 rh5 dv5 q6 => ?_
    obtain ⟨c', rfl, q7⟩ := q6
    exact ⟨c', DV.ofBl dv5, k G5 R5 H5 c' (g3.trans (e4.trans e5)) rh5 q7⟩
theorem dt_val (h : DE X e te) (he : ∀ whole, isTrue e X.env whole = (do let v ← whole; standAt e.pos; holding [v] (truthy v)) := by intro _; rfl) : DT X e (dB te) := by
  obtain ⟨t1, a1, a2⟩ := h
  refine ⟨_, pt_val a1 he, fun G sd s R H Qd Q sv rh q k => a2 G sd s R H _ _ sv rh q fun G1 R1 H1 d v e1 rh1 dv1 q1 => ?_⟩
  obtain ⟨c, rfl, q2⟩ := q1
  exact ⟨c, DV.ofBl dv1, k G1 R1 H1 c e1 rh1 q2⟩
theorem DW.dt {t : DTT} (h : DW X e t) : DT X e t := let ⟨t1, a, b⟩ := h; ⟨t1, a.pt, b⟩
theorem dw_and1 (ha : DT X a tA) : DW X (.BoolOp .And [a] pos) tA := let ⟨t1, a1, a2⟩ := ha; ⟨t1, pw_and1 a1, a2⟩
theorem dw_or1 (ha : DT X a tA) : DW X (.BoolOp .Or [a] pos) tA := let ⟨t1, a1, a2⟩ := ha; ⟨t1, pw_or1 a1, a2⟩
theorem dw_and (ha : DT X a tA) (hb : DW X (.BoolOp .And (b :: rest) pos) tB') : DW X (.BoolOp .And (a :: b :: rest) pos) (dAnd tA tB') := by
  obtain ⟨t1, a1, a2⟩ := ha; obtain ⟨t2, b1, b2⟩ := hb
  refine ⟨_, pw_and a1 b1, fun G sd s R H Qd Q sv rh q k => a2 G sd s R H _ _ sv rh q fun G1 R1 H1 c e1 rh1 q1 => ?_⟩
  cases c with
  | false => exact k G1 R1 H1 _ e1 rh1 q1
  | true => exact b2 G1 sd s R1 H1 _ _ (sv.st e1) rh1 q1 (k.st e1)
theorem dw_or (ha : DT X a tA) (hb : DW X (.BoolOp .Or (b :: rest) pos) tB') : DW X (.BoolOp .Or (a :: b :: rest) pos) (dOr tA tB') := by
  obtain ⟨t1, a1, a2⟩ := ha; obtain ⟨t2, b1, b2⟩ := hb
  refine ⟨_, pw_or a1 b1, fun G sd s R H Qd Q sv rh q k => a2 G sd s R H _ _ sv rh q fun G1 R1 H1 c e1 rh1 q1 => ?_⟩
  cases c with
  | true => exact k G1 R1 H1 _ e1 rh1 q1
  | false => exact b2 G1 sd s R1 H1 _ _ (sv.st e1) rh1 q1 (k.st e1)
theorem dt_not (ha : DT X a tA) : DT X (.UnaryOp .Not a pos) (dNot tA) := by
  obtain ⟨t1, a1, a2⟩ := ha
  exact ⟨_, pt_not a1, fun G sd s R H Qd Q sv rh q k => a2 G sd s R H _ _ sv rh q fun G1 R1 H1 c e1 rh1 q1 => k G1 R1 H1 _ e1 rh1 q1⟩
theorem de_one {op : BoolOp} (ha : DE X a ta) : DE X (.BoolOp op [a] pos) ta := let ⟨t1, a1, a2⟩ := ha; ⟨t1, pe_one a1, a2⟩
theorem de_and (ha : DE X a ta) (hb : DE X (.BoolOp .And (b :: rest) pos) tb) : DE X (.BoolOp .And (a :: b :: rest) pos) (dAndV ta tb) := by
  obtain ⟨t1, a1, a2⟩ := ha; obtain ⟨t2, b1, b2⟩ := hb
  refine ⟨_, pe_and a1 b1, fun G sd s R H Qd Q sv rh q k => a2 G sd s R H _ _ sv rh q fun G1 R1 H1 d v e1 rh1 dv1 q1 => ?_⟩
  obtain ⟨c, rfl, q2⟩ := q1
  refine ⟨c, DV.ofBl dv1, ?_⟩
  cases c with
  | false => exact k G1 R1 H1 _ _ e1 rh1 (.bl _) q2
  | true => exact b2 G1 sd s R1 H1 _ _ (sv.st e1) rh1 q2 (k.st e1)
theorem de_or (ha : DE X a ta) (hb : DE X (.BoolOp .Or (b :: rest) pos) tb) : DE X (.BoolOp .Or (a :: b :: rest) pos) (dOrV ta tb) := by
  obtain ⟨t1, a1, a2⟩ := ha; obtain ⟨t2, b1, b2⟩ := hb
  refine ⟨_, pe_or a1 b1, fun G sd s R H Qd Q sv rh q k => a2 G sd s R H _ _ sv rh q fun G1 R1 H1 d v e1 rh1 dv1 q1 => ?_⟩
  obtain ⟨c, rfl, q2⟩ := q1
  refine ⟨c, DV.ofBl dv1, ?_⟩
  cases c with
  | true => exact k G1 R1 H1 _ _ e1 rh1 (.bl _) q2
  | false => exact b2 G1 sd s R1 H1 _ _ (sv.st e1) rh1 q2 (k.st e1)
theorem de_not (ha : DE X a ta) : DE X (.UnaryOp .Not a pos) (dNotV ta) := by
  obtain ⟨t1, a1, a2⟩ := ha
  refine ⟨_, pe_not a1, fun G sd s R H Qd Q sv rh q k => a2 G sd s R H _ _ sv rh q fun G1 R1 H1 d v e1 rh1 dv1 q1 => ?_⟩
  obtain ⟨c, rfl, q2⟩ := q1
  exact ⟨c, DV.ofBl dv1, k G1 R1 H1 _ _ e1 rh1 (.bl _) q2⟩
theorem de_if (hc : DT X c tA) (ha : DE X a ta) (hb : DE X b tb) : DE X (.IfExp c a b pos) (dIf tA ta tb) := by
  obtain ⟨t0, c1, c2⟩ := hc; obtain ⟨t1, a1, a2⟩ := ha; obtain ⟨t2, b1, b2⟩ := hb
  refine ⟨_, pe_ifExp c1 a1 b1, fun G sd s R H Qd Q sv rh q k => c2 G sd s R H _ _ sv rh q fun G1 R1 H1 c e1 rh1 q1 => ?_⟩
  cases c with
  | true => exact a2 G1 sd s R1 H1 _ _ (sv.st e1) rh1 q1 (k.st e1)
  | false => exact b2 G1 sd s R1 H1 _ _ (sv.st e1) rh1 q1 (k.st e1)
theorem da_nil : DA X [] dNil := ⟨_, pa_nil, fun G sd s R H Qd Q sv rh q k => k G R H [] [] (Stp.refl G R H) rh .nil q⟩
theorem da_cons (ha : DE X e te) (hr : DA X es t) (hs : starEach (e :: es) X.env = (false, eval e X.env) :: starEach es X.env := by rfl) : DA X (e :: es) (dCons te t) := by
  obtain ⟨t1, a1, a2⟩ := ha; obtain ⟨t2, b1, b2⟩ := hr
  exact ⟨_, pa_cons a1 b1 hs, fun G sd s R H Qd Q sv rh q k => a2 G sd s R H _ _ sv rh q fun G1 R1 H1 d v e1 rh1 dv1 q1 => b2 G1 sd s R1 H1 _ _ (sv.st e1) rh1 q1 fun G2 R2 H2 ds vs e2 rh2 dvs2 q2 => k G2 R2 H2 _ _ (e1.trans e2) rh2 (.cons (dv1.st e2) dvs2) q2⟩
theorem de_tup {x1} (h : DA X es t) : DE X (.Tuple es x1 pos) (dTup t) := by
  obtain ⟨t1, a1, a2⟩ := h
  refine ⟨_, pe_tup a1, fun G sd s R H Qd Q sv rh q k => a2 G sd s R H _ _ sv rh q fun G1 R1 H1 ds vs e1 rh1 dvs1 q1 => ?_⟩
  refine ⟨by rw [← dvs1.length]; exact q1.1, fun p hp => ?_⟩
  obtain ⟨s1, rh2⟩ := rh1.imm (o := .tup vs) hp
  exact k _ R1 _ _ _ (e1.trans s1) rh2 (.tup (.inl (.inl upd_same)) (dvs1.st s1)) q1.2
theorem de_lstF (h : DA X es t) : DE X (.List es pos) (dLstF t) := by
  obtain ⟨t1, a1, a2⟩ := h
  refine ⟨_, pe_lst a1, fun G sd s R H Qd Q sv rh q k => a2 G sd s R H _ _ sv rh q fun G1 R1 H1 ds vs e1 rh1 dvs1 q1 => ?_⟩
  refine ⟨by rw [← dvs1.length]; exact q1.1, fun p hp => ?_⟩
  obtain ⟨s1, rh2⟩ := rh1.imm (o := .lst vs) hp
  exact k _ R1 _ _ _ (e1.trans s1) rh2 (.lst upd_same (dvs1.st s1)) q1.2
theorem de_lst (h : DA X es t) : DE X (.List es pos) (dLst t) := by
  obtain ⟨t1, a1, a2⟩ := h
  refine ⟨_, pe_lst a1, fun G sd s R H Qd Q sv rh q k => a2 G sd s R H _ _ sv rh q fun G1 R1 H1 ds vs e1 rh1 dvs1 q1 => ?_⟩
  refine ⟨by rw [← dvs1.length]; exact q1.1, fun p hp => ?_⟩
  obtain ⟨s1, rh2⟩ := rh1.new (ro := .lst ds) (o := .lst vs) hp ⟨vs, rfl, dvs1⟩
  exact k _ _ _ _ _ (e1.trans s1) rh2 (.ref p) (q1.2 p (rh1.free hp))
theorem de_callB {x : Str} {id : String} {r : List D → Rs → DK → Prop} (hc : CallD X (.builtin id) r) (hg : Gl X x) (hm : X.mg x = none) (hv : bootBuiltins x = some (.builtin id)) (ha : DA X (e :: es) t) (hn : x ≠ "__name__" := by decide) (hdb : (x == ("__debug__" : Str)) = false := by decide)
    (he : starEach (e :: es) X.env = (false, eval e X.env) :: starEach es X.env := by rfl) (hpl : (backTo pos (starEach es X.env)).any (·.1) = false := by rfl) : DE X (.Call (.Name x p) (e :: es) [] pos) (dCB r t) := by
  obtain ⟨r0, o1, o2⟩ := hc; obtain ⟨t1, a1, a2⟩ := ha
  exact ⟨_, pe_callB o1 hg hm hv a1 hn hdb he hpl, fun G sd s R H Qd Q sv rh q k => a2 G sd s R H _ _ sv rh q fun G1 R1 H1 ds vs e1 rh1 dvs1 q1 => o2 G1 R1 H1 vs ds _ _ rh1 dvs1 q1 (k.st e1)⟩
theorem de_callTy {x : Str} {T : String} {r : List D → Rs → DK → Prop} (hc : CallD X (.type T) r) (hg : Gl X x) (hm : X.mg x = none) (hv : bootBuiltins x = some (.type T)) (ha : DA X (e :: es) t) (hn : x ≠ "__name__" := by decide) (hdb : (x == ("__debug__" : Str)) = false := by decide)
    (he : starEach (e :: es) X.env = (false, eval e X.env) :: starEach es X.env := by rfl) (hpl : (backTo pos (starEach es X.env)).any (·.1) = false := by rfl) : DE X (.Call (.Name x p) (e :: es) [] pos) (dCB r t) := by
  obtain ⟨r0, o1, o2⟩ := hc; obtain ⟨t1, a1, a2⟩ := ha
  exact ⟨_, pe_callTy o1 hg hm hv a1 hn hdb he hpl, fun G sd s R H Qd Q sv rh q k => a2 G sd s R H _ _ sv rh q fun G1 R1 H1 ds vs e1 rh1 dvs1 q1 => o2 G1 R1 H1 vs ds _ _ rh1 dvs1 q1 (k.st e1)⟩
theorem de_ix {r : DR2} (hr : IxD X r) (ha : DE X a ta) (hb : DE X b tb) (hs : PlainIx b) : DE X (.Subscript a b pos) (dOp r ta tb) := by
  obtain ⟨r0, o1, o2⟩ := hr; obtain ⟨t1, a1, a2⟩ := ha; obtain ⟨t2, b1, b2⟩ := hb
  exact ⟨_, pe_ix o1 a1 b1 hs, fun G sd s R H Qd Q sv rh q k => a2 G sd s R H _ _ sv rh q fun G1 R1 H1 d v e1 rh1 dv1 q1 => b2 G1 sd s R1 H1 _ _ (sv.st e1) rh1 q1 fun G2 R2 H2 d2 v2 e2 rh2 dv2 q2 => o2 G2 R2 H2 v v2 d d2 _ _ rh2 (dv1.st e2) dv2 q2 (k.st (e1.trans e2))⟩
end

/-! ### a slice's parts -/
abbrev DTO := DSt → Rs → (Option Int → Rs → Prop) → Prop
def LO (K : KF) (te : TO) (td : DTO) : Prop := ∀ G sd s R H Qd Q, SV K G sd s → RepH K G R H → td sd R Qd → (∀ G' R' H' o, Stp G R H G' R' H' → RepH K G' R' H' → Qd o R' → Q o H') → te s H Q
def DO (X : CxF) (e : Option Expr) (t : DTO) : Prop := ∃ te, PO X e te ∧ LO X.K te t
def dNoPart : DTO := fun _ R Q => Q none R
def dPart (t : DTE) : DTO := fun s R Q => t s R fun x R1 => ∃ i, x = .int i ∧ Q (some i) R1
def dSl (r : D → Option Int → Option Int → Rs → DK → Prop) (te : DTE) (tl th : DTO) : DTE := fun s R Q => te s R fun x R1 => tl s R1 fun l R2 => th s R2 fun u R3 => r x l u R3 Q
section
variable {X : CxF} {e : Expr} {lo hi : Option Expr} {te : DTE} {tl th : DTO} {pos p2 : Pos}
theorem do_none : DO X none dNoPart := ⟨_, po_none, fun G sd s R H Qd Q sv rh q k => k G R H _ (Stp.refl G R H) rh q⟩
theorem do_some (h : DE X e te) : DO X (some e) (dPart te) := by
  obtain ⟨t1, a1, a2⟩ := h
  refine ⟨_, po_some a1, fun G sd s R H Qd Q sv rh q k => a2 G sd s R H _ _ sv rh q fun G1 R1 H1 d v e1 rh1 dv1 q1 => ?_⟩
  obtain ⟨i, rfl, q2⟩ := q1
  cases dv1
  exact ⟨i, rfl, k G1 R1 H1 _ e1 rh1 q2⟩
theorem de_slice {r : D → Option Int → Option Int → Rs → DK → Prop} (hr : SlD X r) (he : DE X e te) (hl : DO X lo tl) (hu : DO X hi th) : DE X (.Subscript e (.Slice lo hi none p2) pos) (dSl r te tl th) := by
  obtain ⟨r0, o1, o2⟩ := hr; obtain ⟨t1, a1, a2⟩ := he; obtain ⟨t2, b1, b2⟩ := hl; obtain ⟨t3, c1, c2⟩ := hu
  exact ⟨_, pe_slice o1 a1 b1 c1, fun G sd s R H Qd Q sv rh q k => a2 G sd s R H _ _ sv rh q fun G1 R1 H1 d v e1 rh1 dv1 q1 => b2 G1 sd s R1 H1 _ _ (sv.st e1) rh1 q1 fun G2 R2 H2 l e2 rh2 q2 => c2 G2 sd s R2 H2 _ _ (sv.st (e1.trans e2)) rh2 q2 fun G3 R3 H3 u e3 rh3 q3 =>
    o2 G3 R3 H3 v d l u _ _ rh3 (dv1.st (e2.trans e3)) q3 (k.st (e1.trans (e2.trans e3)))⟩
end

/-! ### targets -/
abbrev DTG := D → DSt → Rs → (DSt → Rs → Prop) → Prop
abbrev DTGs := List D → DSt → Rs → (DSt → Rs → Prop) → Prop
def LG (K : KF) (g : TG) (gd : DTG) : Prop := ∀ G sd s R H d v Qd Q, SV K G sd s → RepH K G R H → DV K G d v → gd d sd R Qd → CBS K G R H Qd Q → g v s H Q
def LGs (K : KF) (g : TGs) (gd : DTGs) : Prop := ∀ G sd s R H ds vs Qd Q, SV K G sd s → RepH K G R H → DVs K G ds vs → gd ds sd R Qd → CBS K G R H Qd Q → g vs s H Q
def DG (X : CxF) (tg : Expr) (g : DTG) : Prop := ∃ t, PG X tg t ∧ LG X.K t g
def DGs (X : CxF) (tg : List Expr) (g : DTGs) : Prop := ∃ t, PGs X tg t ∧ LGs X.K t g
def dgName (i : Nat) : DTG := fun d s R Q => Q (s.set i (some d)) R
def dgNil : DTGs := fun ds s R Q => ds = [] ∧ Q s R
def dgCons (t : DTG) (u : DTGs) : DTGs := fun ds s R Q => ∃ d r, ds = d :: r ∧ t d s R fun s' R' => u r s' R' Q
def dgTup (n : Nat) (t : DTGs) : DTG := fun d s R Q => ∃ ds, d = .tup ds ∧ ds.length = n ∧ t ds s R Q
section
variable {X : CxF} {e : Expr} {es : List Expr} {te : DTE} {pos : Pos}
theorem dg_name {i : Nat} {x : Str} (hN : X.N.Nodup) (hi : X.N[i]? = some x) (hx : Loc X.env.scope x) (hf : X.fn x = true ∨ X.env.scope.names.lookup x = some .local := by first | exact .inl rfl | exact .inr rfl | assumption) : DG X (.Name x pos) (dgName i) :=
  ⟨_, pg_name hN hi hx hf, fun G sd s R H d v Qd Q sv rh dv q k => k G _ _ R H (Stp.refl G R H) (sv.set i dv) rh q⟩
theorem dgs_nil : DGs X [] dgNil := ⟨_, pgs_nil, fun G sd s R H ds vs Qd Q sv rh dv q k => by
  obtain ⟨rfl, q⟩ := q
  cases dv
  exact ⟨rfl, k G _ _ R H (Stp.refl G R H) sv rh q⟩⟩
theorem dgs_cons {t : DTG} {u : DTGs} (h : DG X e t) (r : DGs X es u) (hs : (assignEach (e :: es) X.env).map (·.2) = assign e X.env :: (assignEach es X.env).map (·.2) := by rfl) : DGs X (e :: es) (dgCons t u) := by
  obtain ⟨t1, a1, a2⟩ := h; obtain ⟨t2, b1, b2⟩ := r
  refine ⟨_, pgs_cons a1 b1 hs, fun G sd s R H ds vs Qd Q sv rh dv q k => ?_⟩
  obtain ⟨d, r, rfl, q⟩ := q
  cases dv with
  | cons x y => exact ⟨_, _, rfl, a2 G sd s R H _ _ _ _ sv rh x q fun G1 sd1 s1 R1 H1 e1 sv1 rh1 q1 => b2 G1 sd1 s1 R1 H1 _ _ _ _ sv1 rh1 (y.st e1) q1 (k.st e1)⟩
theorem dg_tup {x1} {n : Nat} {t : DTGs} (hc : X.calm = true) (h : DGs X es t) (hn : (assignEach es X.env).length = n := by rfl) (hst : (assignEach es X.env).findIdx? (·.1) = none := by rfl) : DG X (.Tuple es x1 pos) (dgTup n t) := by
  obtain ⟨t1, a1, a2⟩ := h
  subst hn
  refine ⟨_, pg_tup hc a1 rfl hst, fun G sd s R H d v Qd Q sv rh dv q k => ?_⟩
  obtain ⟨ds, rfl, hl, q⟩ := q
  cases dv with
  | tup h1 h2 => exact ⟨_, _, rfl, SqT.same rh.g h1, by rw [← h2.length]; exact hl, a2 G sd s R H _ _ _ _ sv rh h2 q k⟩
end

/-! ### statements -/
def dNext : DTS := fun D s R => D.nx s R
def dSeq (t u : DTS) : DTS := fun D s R => t { D with nx := u D } s R
def dRet (te : DTE) : DTS := fun D s R => te s R D.rt
def dDrop (te : DTE) : DTS := fun D s R => te s R fun _ R1 => D.nx s R1
def dIfS (c : DTT) (t u : DTS) : DTS := fun D s R => c s R fun b R1 => if b = true then t D s R1 else u D s R1
def dAsg (te : DTE) (g : DTG) : DTS := fun D s R => te s R fun x R1 => g x s R1 D.nx
def dNever : DTS := fun _ _ _ => False
def dWhile (c : DTT) (tb : DTS) : DTS := fun D s R => ∃ Pv : Nat → DSt → Rs → Prop, (∃ m, Pv m s R) ∧ ∀ m s R, Pv m s R → c s R fun b R1 =>
  if b = true then tb { D with nx := fun s' R' => ∃ m', m' < m ∧ Pv m' s' R', ct := fun s' R' => ∃ m', m' < m ∧ Pv m' s' R', bk := D.nx } s R1 else D.nx s R1
section
variable {X : CxF} {c e : Expr} {st : Stmt} {a b rest body : List Stmt} {te : DTE} {tc : DTT} {t u tb : DTS} {pos : Pos}
theorem dss_nil : DSs X [] dNext := ⟨_, pss_nil, fun G sd s R H Ed E sv rh q k => k.nx G sd s R H (Stp.refl G R H) sv rh q⟩
theorem dss_cons (h : DS X st t) (r : DSs X rest u) : DSs X (st :: rest) (dSeq t u) := by
  obtain ⟨t1, a1, a2⟩ := h; obtain ⟨t2, b1, b2⟩ := r
  refine ⟨_, pss_cons a1 b1, fun G sd s R H Ed E sv rh q k => a2 G sd s R H _ _ sv rh q ⟨fun G1 sd1 s1 R1 H1 e1 sv1 rh1 q1 => b2 G1 sd1 s1 R1 H1 _ _ sv1 rh1 q1 (k.st e1), k.rt, k.bk, k.ct⟩⟩
theorem dss_one (h : DS X st t) : DSs X [st] t := let ⟨t1, a1, a2⟩ := h; ⟨t1, pss_one a1, a2⟩
theorem ds_pass : DS X (.Pass pos) dNext := ⟨_, ps_pass, fun G sd s R H Ed E sv rh q k => k.nx G sd s R H (Stp.refl G R H) sv rh q⟩
theorem ds_ret (h : DE X e te) : DS X (.Return (some e) pos) (dRet te) := by
  obtain ⟨t1, a1, a2⟩ := h
  exact ⟨_, ps_ret a1, fun G sd s R H Ed E sv rh q k => a2 G sd s R H _ _ sv rh q k.rt⟩
theorem ds_expr (h : DE X e te) (hs : swapsWith e none pos.line X.env = pure false := by rfl) : DS X (.Expr e pos) (dDrop te) := by
  obtain ⟨t1, a1, a2⟩ := h
  exact ⟨_, ps_expr a1 hs, fun G sd s R H Ed E sv rh q k => a2 G sd s R H _ _ sv rh q fun G1 R1 H1 d v e1 rh1 dv1 q1 => k.nx G1 sd s R1 H1 e1 (sv.st e1) rh1 q1⟩
theorem ds_if (hc : DT X c tc) (ha : DSs X a t) (hb : DSs X b u) : DS X (.If c a b pos) (dIfS tc t u) := by
  obtain ⟨t0, c1, c2⟩ := hc; obtain ⟨t1, a1, a2⟩ := ha; obtain ⟨t2, b1, b2⟩ := hb
  refine ⟨_, ps_if c1 a1 b1, fun G sd s R H Ed E sv rh q k => c2 G sd s R H _ _ sv rh q fun G1 R1 H1 c e1 rh1 q1 => ?_⟩
  cases c with
  | true => exact a2 G1 sd s R1 H1 _ _ (sv.st e1) rh1 q1 (k.st e1)
  | false => exact b2 G1 sd s R1 H1 _ _ (sv.st e1) rh1 q1 (k.st e1)
theorem ds_never : DS X st dNever := ⟨_, ps_never, fun _ _ _ _ _ _ _ _ _ q _ => q.elim⟩
theorem dss_never : DSs X rest dNever := ⟨_, pss_never, fun _ _ _ _ _ _ _ _ _ q _ => q.elim⟩
theorem ds_asg {tg : Expr} {g : DTG} (h : DE X e te) (hg : DG X tg g) (hs : swapsWithSole [tg] e pos.line X.env = pure false := by rfl) (hw : swappedStores [tg] e X.env = pure none := by rfl) (h1 : (assignEach [tg] X.env).map (·.2) = [assign tg X.env] := by rfl) : DS X (.Assign [tg] e pos) (dAsg te g) := by
  obtain ⟨t1, a1, a2⟩ := h; obtain ⟨t2, b1, b2⟩ := hg
  exact ⟨_, ps_asg a1 b1 hs hw h1, fun G sd s R H Ed E sv rh q k => a2 G sd s R H _ _ sv rh q fun G1 R1 H1 d v e1 rh1 dv1 q1 => b2 G1 sd s R1 H1 _ _ _ _ (sv.st e1) rh1 dv1 q1 fun G2 sd2 s2 R2 H2 e2 sv2 rh2 q2 => k.nx G2 sd2 s2 R2 H2 (e1.trans e2) sv2 rh2 q2⟩
theorem ds_while (hp : PassesOwn (model X.prog X.w) X.A X.env X.xe) (hc : DT X c tc) (hb : DSs X body tb) : DS X (.While c body [] pos) (dWhile tc tb) := by
  obtain ⟨t0, c1, c2⟩ := hc; obtain ⟨t1, a1, a2⟩ := hb
  refine ⟨_, ps_while hp c1 a1, fun G sd s R H Ed E sv rh q k => ?_⟩
  obtain ⟨Pv, ⟨m0, p0⟩, step⟩ := q
  refine ⟨fun m s1 H1 => ∃ G' sd1 R', Stp G R H G' R' H1 ∧ SV X.K G' sd1 s1 ∧ RepH X.K G' R' H1 ∧ Pv m sd1 R', ⟨m0, G, sd, R, Stp.refl G R H, sv, rh, p0⟩, ?_⟩
  rintro m s1 H1 ⟨G1, sd1, R1, e1, sv1, rh1, p1⟩
  refine c2 G1 sd1 s1 R1 H1 _ _ sv1 rh1 (step m sd1 R1 p1) fun G2 R2 H2 b e2 rh2 q2 => ?_
  cases b with
  | false => exact k.nx G2 sd1 s1 R2 H2 (e1.trans e2) (sv1.st e2) rh2 q2
  | true =>
    refine ⟨fun s' H' => ∃ m', m' < m ∧ ∃ G' sd2 R', Stp G R H G' R' H' ∧ SV X.K G' sd2 s' ∧ RepH X.K G' R' H' ∧ Pv m' sd2 R', fun _ _ z => z, ?_⟩
    have kk := k.st (e1.trans e2)
    refine a2 G2 sd1 s1 R2 H2 _ _ (sv1.st e2) rh2 q2 ⟨fun G3 sd3 s3 R3 H3 e3 sv3 rh3 q3 => ?_, kk.rt, fun G3 sd3 s3 R3 H3 e3 sv3 rh3 q3 => kk.nx G3 sd3 s3 R3 H3 e3 sv3 rh3 q3, fun G3 sd3 s3 R3 H3 e3 sv3 rh3 q3 => ?_⟩
    · obtain ⟨m', hm, p3⟩ := q3
      exact ⟨m', hm, G3, sd3, R3, e1.trans (e2.trans e3), sv3, rh3, p3⟩
    · obtain ⟨m', hm, p3⟩ := q3
      exact ⟨m', hm, G3, sd3, R3, e1.trans (e2.trans e3), sv3, rh3, p3⟩
end
end DL
end
section
set_option Elab.async false
set_option maxRecDepth 100000
set_option linter.all false
set_option autoImplicit false
/-! DL3: what is walked, for, comprehensions, defs and their promises -/
namespace DL
open PySem PySem.Spec PyProof.Rows L2
variable [TabCtx]

/-! ### what is walked -/
/-- the iterator J yields xs while ok holds of what may change -/
def Sim (K : KF) (G0 : Hp) (J : It) (xs : List D) (ok : Rs → Prop) : Prop :=
  ∀ G R H, Same G0 G → RepH K G R H → ok R →
    (∀ (i : Nat) (d : D), xs[i]? = some d → J.go i H ∧ ∀ x H', J.yld i H x H' → ∃ G', Stp G R H G' R H' ∧ RepH K G' R H' ∧ DV K G' d x) ∧ ∀ i : Nat, xs.length ≤ i → J.stop i H
abbrev DTI := DSt → Rs → (List D → (Rs → Prop) → Rs → Prop) → Prop
def LI (K : KF) (wi : TI) (wd : DTI) : Prop := ∀ G sd s R H Kd Rr, SV K G sd s → RepH K G R H → wd sd R Kd →
  (∀ G' R' H' J xs ok, Stp G R H G' R' H' → RepH K G' R' H' → Sim K G' J xs ok → Kd xs ok R' → Rr J H') → wi s H Rr
def DI (X : CxF) (tg iter : Expr) (wd : DTI) : Prop := ∃ wi, PI X tg iter wi ∧ LI X.K wi wd

def dFor (wd : DTI) (g : DTG) (tb : DTS) : DTS := fun D s R => wd s R fun xs ok R1 => ∃ Pv : Nat → DSt → Rs → Prop, Pv 0 s R1 ∧ (∀ i s R, i ≤ xs.length → Pv i s R → ok R) ∧
  (∀ (i : Nat) x s R, xs[i]? = some x → Pv i s R → g x s R fun s2 R2 => tb { D with nx := Pv (i + 1), ct := Pv (i + 1), bk := D.nx } s2 R2) ∧ ∀ s R, Pv xs.length s R → D.nx s R
section
variable {X : CxF}
theorem ds_for {tg iter : Expr} {body : List Stmt} {wd : DTI} {g : DTG} {tb : DTS} {pos : Pos} (hp : PassesOwn (model X.prog X.w) X.A X.env X.xe) (hc : X.calm = true) (hi : DI X tg iter wd) (hg : DG X tg g) (hb : DSs X body tb)
    (hs : ∀ x, foldedSetIterable iter X.env x = pure x := by intro _; rfl) : DS X (.For tg iter body [] pos) (dFor wd g tb) := by
  obtain ⟨wi, i1, i2⟩ := hi; obtain ⟨g1, ga, gb⟩ := hg; obtain ⟨t1, a1, a2⟩ := hb
  refine ⟨_, ps_for hp hc i1 ga a1 hs, fun G sd s R H Ed E sv rh q k => i2 G sd s R H _ _ sv rh q fun G1 R1 H1 J xs ok e1 rh1 sim q1 => ?_⟩
  obtain ⟨Pv, p0, pok, step, fin⟩ := q1
  refine ⟨fun i m s' H' => ∃ G' sd' R', Stp G1 R1 H1 G' R' H' ∧ SV X.K G' sd' s' ∧ RepH X.K G' R' H' ∧ i ≤ xs.length ∧ m = xs.length - i ∧ Pv i sd' R', ⟨_, G1, sd, R1, Stp.refl _ _ _, sv.st e1, rh1, Nat.zero_le _, rfl, p0⟩, ?_⟩
  rintro i m s2 H2 ⟨G2, sd2, R2, e2, sv2, rh2, hi, rfl, p2⟩
  obtain ⟨go, stop⟩ := sim G2 R2 H2 e2.g rh2 (pok i sd2 R2 hi p2)
  by_cases hlt : i < xs.length
  · refine .inr ⟨(go i xs[i] (List.getElem?_eq_getElem hlt)).1, fun s' H' => ∃ G' sd' R', Stp G1 R1 H1 G' R' H' ∧ SV X.K G' sd' s' ∧ RepH X.K G' R' H' ∧ i + 1 ≤ xs.length ∧ Pv (i + 1) sd' R', ?_, fun x H' y => ?_⟩
    · rintro s' H' ⟨G3, sd3, R3, e3, sv3, rh3, h3, p3⟩
      exact ⟨xs.length - (i + 1), by omega, G3, sd3, R3, e3, sv3, rh3, h3, rfl, p3⟩
    · obtain ⟨G3, e3, rh3, dv3⟩ := (go i xs[i] (List.getElem?_eq_getElem hlt)).2 x H' y
      refine gb G3 sd2 s2 R2 H' _ _ _ _ (sv2.st e3) rh3 dv3 (step i xs[i] sd2 R2 (List.getElem?_eq_getElem hlt) p2) fun G4 sd4 s4 R4 H4 e4 sv4 rh4 q4 => ?_
      have e14 := e2.trans (e3.trans e4)
      have kk := k.st (e1.trans e14)
      refine a2 G4 sd4 s4 R4 H4 _ _ sv4 rh4 q4 ⟨fun G5 sd5 s5 R5 H5 e5 sv5 rh5 q5 => ⟨G5, sd5, R5, e14.trans e5, sv5, rh5, hlt, q5⟩, kk.rt, fun G5 sd5 s5 R5 H5 e5 sv5 rh5 q5 => kk.nx G5 sd5 s5 R5 H5 e5 sv5 rh5 q5, fun G5 sd5 s5 R5 H5 e5 sv5 rh5 q5 => ⟨G5, sd5, R5, e14.trans e5, sv5, rh5, hlt, q5⟩⟩
  · have e : i = xs.length := by omega
    subst e
    exact .inl ⟨stop _ (Nat.le_refl _), k.nx G2 sd2 s2 R2 H2 (e1.trans e2) sv2 rh2 (fin sd2 R2 p2)⟩
end

/-! ### sources -/
/-- the items of a sequence as it may be read -/
def seqOf (R : Rs) : D → Option (List D)
  | .tup xs => some xs
  | .lst xs => some xs
  | .rls xs => some xs
  | .ref l => match R l with
    | some (.lst xs) => some xs
    | _ => none
  | _ => none
/-- a list or tuple that the loop leaves as it is -/
def dISeq (te : DTE) : DTI := fun s R Kd => te s R fun d R1 => ∃ xs, seqOf R1 d = some xs ∧ Kd xs (fun R' => seqOf R' d = some xs) R1
/-- one that never changes -/
def dITup (te : DTE) : DTI := fun s R Kd => te s R fun d R1 => ∃ xs, d = .tup xs ∧ Kd xs (fun _ => True) R1
def dILst (te : DTE) : DTI := fun s R Kd => te s R fun d R1 => ∃ xs, (d = .lst xs ∧ Kd xs (fun _ => True) R1) ∨ (∃ l, d = .ref l ∧ R1 l = some (.lst xs) ∧ Kd xs (fun R' => R' l = some (.lst xs)) R1)
def dIRng1 (te : DTE) : DTI := fun s R Kd => te s R fun d R1 => ∃ n : Nat, d = .int n ∧ n < 2 ^ 62 ∧ Kd ((List.range n).map fun i => D.int (i : Nat)) (fun _ => True) R1
def dIRng2 (te tb : DTE) : DTI := fun s R Kd => te s R fun d R1 => tb s R1 fun d2 R2 => ∃ i j : Int, d = .int i ∧ d2 = .int j ∧ -(2 ^ 62) ≤ i ∧ i < 2 ^ 62 ∧ -(2 ^ 62) ≤ j ∧ j < 2 ^ 62 ∧ Kd ((List.range (j - i).toNat).map fun k => D.int (i + (k : Nat))) (fun _ => True) R2
def dIStr (te : DTE) : DTI := fun s R Kd => te s R fun d R1 => ∃ x : Str, d = .str x ∧ Kd (x.cps.toList.map fun c => D.str ⟨#[c]⟩) (fun _ => True) R1
section
variable {X : CxF} {tg e a b : Expr} {te ta tb : DTE} {pos p : Pos}
theorem sim_list {K : KF} {G : Hp} {l : Addr} {xs : List D} {ok : Rs → Prop} (h : ∀ G' R H, Same G G' → RepH K G' R H → ok R → ∃ vs, SqL K H l vs ∧ DVs K G' xs vs) : Sim K G (Itl K l) xs ok := by
  intro G' R H e rh hok
  obtain ⟨vs, hl, dv⟩ := h G' R H e rh hok
  refine ⟨fun i d hd => ?_, fun i hi => ⟨vs, hl, by rw [← dv.length]; exact hi⟩⟩
  obtain ⟨v, hv, dv'⟩ := dv.get hd
  refine ⟨⟨vs, v, hl, hv⟩, fun x H' y => ?_⟩
  obtain ⟨rfl, y⟩ := y
  have := y vs hl
  rw [hv] at this; cases this
  exact ⟨G', Stp.refl _ _ _, rh, dv'⟩
theorem sim_tup {K : KF} {G : Hp} {l : Addr} {xs : List D} {ok : Rs → Prop} (h : ∀ G' R H, Same G G' → RepH K G' R H → ok R → ∃ vs, SqT K H l vs ∧ DVs K G' xs vs) : Sim K G (Itt K l) xs ok := by
  intro G' R H e rh hok
  obtain ⟨vs, hl, dv⟩ := h G' R H e rh hok
  refine ⟨fun i d hd => ?_, fun i hi => ⟨vs, hl, by rw [← dv.length]; exact hi⟩⟩
  obtain ⟨v, hv, dv'⟩ := dv.get hd
  refine ⟨⟨vs, v, hl, hv⟩, fun x H' y => ?_⟩
  obtain ⟨rfl, y⟩ := y
  have := y vs hl
  rw [hv] at this; cases this
  exact ⟨G', Stp.refl _ _ _, rh, dv'⟩
theorem di_list (h : DE X e te) : DI X tg e (dILst te) := by
  obtain ⟨t1, a1, a2⟩ := h
  refine ⟨_, pi_list a1, fun G sd s R H Kd Rr sv rh q k => a2 G sd s R H _ _ sv rh q fun G1 R1 H1 d v e1 rh1 dv1 q1 => ?_⟩
  obtain ⟨xs, q1⟩ := q1
  rcases q1 with ⟨rfl, q2⟩ | ⟨l, rfl, hl, q2⟩
  · cases dv1 with
    | lst h1 h2 => exact ⟨_, rfl, ⟨_, .inl (.inl (rh1.g _ _ h1))⟩, k G1 R1 H1 _ _ _ e1 rh1 (sim_list fun G' R' H' e' rh' _ => ⟨_, .inl (.inl (rh'.g _ _ (e' _ _ h1))), h2.mono e'⟩) q2⟩
  · cases dv1
    obtain ⟨vs, h1, h2⟩ := rh1.lst hl
    exact ⟨_, rfl, ⟨_, .inl (.inl h1)⟩, k G1 R1 H1 _ _ _ e1 rh1 (sim_list fun G' R' H' e' rh' hok => let ⟨vs, p1, p2⟩ := rh'.lst hok; ⟨vs, .inl (.inl p1), p2⟩) q2⟩
theorem di_tup (h : DE X e te) : DI X tg e (dITup te) := by
  obtain ⟨t1, a1, a2⟩ := h
  refine ⟨_, pi_tup a1, fun G sd s R H Kd Rr sv rh q k => a2 G sd s R H _ _ sv rh q fun G1 R1 H1 d v e1 rh1 dv1 q1 => ?_⟩
  obtain ⟨xs, rfl, q2⟩ := q1
  cases dv1 with
  | tup h1 h2 => exact ⟨_, rfl, ⟨_, SqT.same rh1.g h1⟩, k G1 R1 H1 _ _ _ e1 rh1 (sim_tup fun G' R' H' e' rh' _ => ⟨_, SqT.same (e'.trans rh'.g) h1, h2.mono e'⟩) q2⟩
theorem sim_rng {K : KF} {G : Hp} {lo : Int} {n : Nat} : Sim K G (Itr lo n) ((List.range n).map fun i => D.int (lo + (i : Nat))) (fun _ => True) := by
  intro G' R H e rh _
  refine ⟨fun i d hd => ?_, fun i hi => ?_⟩
  rotate_left
  · show n ≤ i
    simpa using hi
  rw [List.getElem?_map] at hd
  by_cases hi : i < n
  · rw [List.getElem?_range hi] at hd
    cases hd
    refine ⟨hi, fun x H' y => ?_⟩
    obtain ⟨rfl, rfl⟩ := y
    exact ⟨G', Stp.refl _ _ _, rh, .int _⟩
  · rw [List.getElem?_eq_none (by simpa using hi)] at hd; cases hd
theorem di_range1 (hg : Gl X "range") (hm : X.mg "range" = none) (h : DE X a ta) (hst : starEach [a] X.env = (false, eval a X.env) :: starEach [] X.env := by rfl) : DI X tg (.Call (.Name "range" p) [a] [] pos) (dIRng1 ta) := by
  obtain ⟨t1, a1, a2⟩ := h
  refine ⟨_, pi_range1 hg hm (pa_cons a1 pa_nil hst) hst, fun G sd s R H Kd Rr sv rh q k => a2 G sd s R H _ _ sv rh q fun G1 R1 H1 d v e1 rh1 dv1 q1 => ?_⟩
  obtain ⟨n, rfl, hn, q2⟩ := q1
  cases dv1
  refine ⟨n, rfl, by omega, by omega, ?_⟩
  refine k G1 R1 H1 (Itr 0 (n : Int).toNat) _ _ e1 rh1 ?_ q2
  have := sim_rng (K := X.K) (G := G1) (lo := 0) (n := n)
  simp only [Int.zero_add] at this
  exact this
theorem di_range2 (hg : Gl X "range") (hm : X.mg "range" = none) (h : DE X a ta) (h2 : DE X b tb) (hst : starEach [a, b] X.env = (false, eval a X.env) :: starEach [b] X.env := by rfl) (hst2 : starEach [b] X.env = (false, eval b X.env) :: starEach [] X.env := by rfl) : DI X tg (.Call (.Name "range" p) [a, b] [] pos) (dIRng2 ta tb) := by
  obtain ⟨t1, a1, a2⟩ := h; obtain ⟨t2, b1, b2⟩ := h2
  refine ⟨_, pi_range2 hg hm (pa_cons a1 (pa_cons b1 pa_nil hst2) hst) (hst.trans (by rw [hst2]; rfl)) hst2, fun G sd s R H Kd Rr sv rh q k => a2 G sd s R H _ _ sv rh q fun G1 R1 H1 d v e1 rh1 dv1 q1 => b2 G1 sd s R1 H1 _ _ (sv.st e1) rh1 q1 fun G2 R2 H2 d2 v2 e2 rh2 dv2 q2 => ?_⟩
  obtain ⟨i, j, rfl, rfl, h1, h2, h3, h4, q3⟩ := q2
  cases dv1; cases dv2
  exact ⟨i, j, rfl, ⟨h1, h2, h3, h4⟩, k G2 R2 H2 _ _ _ (e1.trans e2) rh2 sim_rng q3⟩
theorem di_str (h : DE X e te) : DI X tg e (dIStr te) := by
  obtain ⟨t1, a1, a2⟩ := h
  refine ⟨_, pi_str a1, fun G sd s R H Kd Rr sv rh q k => a2 G sd s R H _ _ sv rh q fun G1 R1 H1 d v e1 rh1 dv1 q1 => ?_⟩
  obtain ⟨x, rfl, q2⟩ := q1
  cases dv1
  refine ⟨x, rfl, k G1 R1 H1 _ _ _ e1 rh1 ?_ q2⟩
  intro G' R H e rh _
  refine ⟨fun i d hd => ?_, fun i hi => ?_⟩
  · rw [List.getElem?_map] at hd
    cases q : x.cps.toList[i]? with
    | none => rw [q] at hd; cases hd
    | some c =>
      rw [q] at hd; cases hd
      have q' : x.cps[i]? = some c := by simpa using q
      have hi : i < x.cps.size := (Array.getElem?_eq_some_iff.mp q').1
      refine ⟨hi, fun y H' z => ?_⟩
      obtain ⟨rfl, c', q2, rfl⟩ := z
      rw [q'] at q2; cases q2
      exact ⟨G', Stp.refl _ _ _, rh, .str _⟩
  · show x.cps.size ≤ i
    simpa using hi
end

/-! ### comprehensions -/
def dwipe (s : DSt) : List Nat → DSt
  | [] => s
  | v :: vs => (dwipe s vs).set v none
theorem SV.wipe {K : PySem.W.Frag} {G : Hp} {sd : DSt} {s : L2.St} (h : SV K G sd s) : ∀ vs : List Nat, SV K G (dwipe sd vs) (wipe s vs)
  | [] => h
  | v :: vs => (SV.wipe h vs).forget v
theorem wipe_set_out {s : L2.St} {i : Nat} {x : Option V} : ∀ {vs : List Nat}, i ∉ vs → wipe (s.set i x) vs = (wipe s vs).set i x
  | [], _ => rfl
  | v :: vs, h => by
    simp only [List.mem_cons, not_or] at h
    unfold wipe
    rw [wipe_set_out h.2, List.set_comm _ _ (fun e => h.1 (by omega))]
theorem wipe_set {s : L2.St} {i : Nat} {x : Option V} : ∀ {vs : List Nat}, i ∈ vs → wipe (s.set i x) vs = wipe s vs
  | [], h => by simp at h
  | v :: vs, h => by
    unfold wipe
    by_cases hi : i ∈ vs
    · rw [wipe_set hi]
    · have e : i = v := by simpa [hi] using h
      subst e
      rw [wipe_set_out hi, List.set_set]
/-- a target that stores slots of vs alone -/
def LGw (K : KF) (vs : List Nat) (g : TG) (gd : DTG) : Prop := ∀ G sd s R H d v Qd Q, SV K G sd s → RepH K G R H → DV K G d v → gd d sd R Qd → CBS K G R H Qd (fun s' H' => wipe s' vs = wipe s vs → Q s' H') → g v s H Q
def LGsw (K : KF) (vs : List Nat) (g : TGs) (gd : DTGs) : Prop := ∀ G sd s R H ds xs Qd Q, SV K G sd s → RepH K G R H → DVs K G ds xs → gd ds sd R Qd → CBS K G R H Qd (fun s' H' => wipe s' vs = wipe s vs → Q s' H') → g xs s H Q
def DGw (X : CxF) (vs : List Nat) (tg : Expr) (g : DTG) : Prop := ∃ t, PG X tg t ∧ LGw X.K vs t g
def DGsw (X : CxF) (vs : List Nat) (tg : List Expr) (g : DTGs) : Prop := ∃ t, PGs X tg t ∧ LGsw X.K vs t g
section
variable {X : CxF} {e : Expr} {es : List Expr} {pos : Pos} {vs : List Nat}
theorem dgw_name {i : Nat} {x : Str} (hN : X.N.Nodup) (hi : X.N[i]? = some x) (hx : Loc X.env.scope x) (hv : i ∈ vs := by simp) (hf : X.fn x = true ∨ X.env.scope.names.lookup x = some .local := by first | exact .inl rfl | exact .inr rfl | assumption) : DGw X vs (.Name x pos) (dgName i) :=
  ⟨_, pg_name hN hi hx hf, fun G sd s R H d v Qd Q sv rh dv q k => k G _ _ R H (Stp.refl G R H) (sv.set i dv) rh q (wipe_set hv)⟩
theorem dgsw_nil : DGsw X vs [] dgNil := ⟨_, pgs_nil, fun G sd s R H ds xs Qd Q sv rh dv q k => by
  obtain ⟨rfl, q⟩ := q
  cases dv
  exact ⟨rfl, k G _ _ R H (Stp.refl G R H) sv rh q rfl⟩⟩
theorem dgsw_cons {t : DTG} {u : DTGs} (h : DGw X vs e t) (r : DGsw X vs es u) (hs : (assignEach (e :: es) X.env).map (·.2) = assign e X.env :: (assignEach es X.env).map (·.2) := by rfl) : DGsw X vs (e :: es) (dgCons t u) := by
  obtain ⟨t1, a1, a2⟩ := h; obtain ⟨t2, b1, b2⟩ := r
  refine ⟨_, pgs_cons a1 b1 hs, fun G sd s R H ds xs Qd Q sv rh dv q k => ?_⟩
  obtain ⟨d, r, rfl, q⟩ := q
  cases dv with
  | cons x y => exact ⟨_, _, rfl, a2 G sd s R H _ _ _ _ sv rh x q fun G1 sd1 s1 R1 H1 e1 sv1 rh1 q1 w1 => b2 G1 sd1 s1 R1 H1 _ _ _ _ sv1 rh1 (y.st e1) q1 fun G2 sd2 s2 R2 H2 e2 sv2 rh2 q2 w2 => k G2 sd2 s2 R2 H2 (e1.trans e2) sv2 rh2 q2 (w2.trans w1)⟩
theorem dgw_tup {x1} {n : Nat} {t : DTGs} (hc : X.calm = true) (h : DGsw X vs es t) (hn : (assignEach es X.env).length = n := by rfl) (hst : (assignEach es X.env).findIdx? (·.1) = none := by rfl) : DGw X vs (.Tuple es x1 pos) (dgTup n t) := by
  obtain ⟨t1, a1, a2⟩ := h
  subst hn
  refine ⟨_, pg_tup hc a1 rfl hst, fun G sd s R H d v Qd Q sv rh dv q k => ?_⟩
  obtain ⟨ds, rfl, hl, q⟩ := q
  cases dv with
  | tup h1 h2 => exact ⟨_, _, rfl, SqT.same rh.g h1, by rw [← h2.length]; exact hl, a2 G sd s R H _ _ _ _ sv rh h2 q k⟩
end
def DTs (X : CxF) (ifs : List Expr) (t : DTT) : Prop := ∃ te, PTs X ifs te ∧ LT X.K te t
def dYes : DTT := fun _ R Q => Q true R
theorem dts_nil {X : CxF} : DTs X [] dYes := ⟨_, pts_nil, fun G sd s R H Qd Q sv rh q k => k G R H true (Stp.refl G R H) rh q⟩
theorem dts_one {X : CxF} {c : Expr} {t : DTT} (h : DT X c t) : DTs X [c] t := let ⟨t1, a1, a2⟩ := h; ⟨t1, pts_one a1, a2⟩
/-- the turns of a comprehension -/
def dLcT (wd : DTI) (g : DTG) (tt : DTT) (te : DTE) (vs : List Nat) (s : DSt) (R : Rs) (Q : List D → Rs → Prop) : Prop := wd s R fun xs ok R1 => xs.length ≤ sizeLine ∧ ∃ Pv : Nat → List D → Rs → Prop, Pv 0 [] R1 ∧ (∀ i acc R, i ≤ xs.length → Pv i acc R → ok R) ∧
  (∀ (i : Nat) x acc R, xs[i]? = some x → acc.length ≤ i → Pv i acc R → g x (dwipe s vs) R fun s2 R2 => tt s2 R2 fun b R3 => if b = true then te s2 R3 fun y R4 => Pv (i + 1) (acc ++ [y]) R4 else Pv (i + 1) acc R3) ∧
  ∀ acc R, acc.length ≤ xs.length → Pv xs.length acc R → Q acc R
/-- its list never changes -/
def dLcF (wd : DTI) (g : DTG) (tt : DTT) (te : DTE) (vs : List Nat) : DTE := fun s R Q => dLcT wd g tt te vs s R fun acc R' => Q (.lst acc) R'
/-- its list may change -/
def dLc (wd : DTI) (g : DTG) (tt : DTT) (te : DTE) (vs : List Nat) : DTE := fun s R Q => dLcT wd g tt te vs s R fun acc R' => ∀ p, R' p = none → Q (.ref p) (put R' p (.lst acc))
section
variable {X : CxF} {elt tg iter : Expr} {ifs : List Expr} {scope : Scope} {own : List (Str × Nat)} {pos : Pos} {wd : DTI} {g : DTG} {tt : DTT} {te : DTE}
/-- the list stands hidden at its place -/
def Hid (G : Hp) (R : Rs) (H : Hp) (p : Addr) (o : HO) : Prop := H p = some o ∧ R p = none ∧ G p = none
theorem Hid.st {G G' : Hp} {R R' : Rs} {H H' : Hp} {p : Addr} {o : HO} (h : Hid G R H p o) (e : Stp G R H G' R' H') (n : NoTab o := by intro ps z; cases z) : Hid G' R' H' p o := e.f p o h.1 n h.2.1 h.2.2
theorem RepH.hide {K : KF} {G : Hp} {R : Rs} {H : Hp} (h : RepH K G R H) {p : Addr} {o : HO} (hr : R p = none) (hg : G p = none) (φ : K.Φ.p G R (upd H p o)) (b : K.F.B.p G R (upd H p o)) : RepH K G R (upd H p o) :=
  ⟨fun b u q => by rw [upd_ne (ne_of_none q hg)]; exact h.g b u q, fun a ro q => by
    obtain ⟨h1, u, h2, h3⟩ := h.r a ro q
    have hb : a ≠ p := by intro z; subst z; rw [hr] at q; cases q
    exact ⟨h1, u, by rw [upd_ne hb]; exact h2, h3⟩, φ, b⟩
/-- the step where a hidden thing at p is written -/
theorem Stp.wr {G0 G : Hp} {R0 R : Rs} {H0 H : Hp} {p : Addr} {o : HO} (e : Stp G0 R0 H0 G R H) (h0 : H0 p = none) : Stp G0 R0 H0 G R (upd H p o) := ⟨e.g, fun a u q1 n q2 q3 => by
  have hb : a ≠ p := ne_of_none q1 h0
  rw [upd_ne hb]
  exact e.f a u q1 n q2 q3, fun a q z h => by
  have ⟨_, _, ps0, h3, _⟩ := h
  have hb : a ≠ p := ne_of_none h3 h0
  obtain ⟨z1, z2, ps, z3, z4⟩ := e.t a q z h
  exact ⟨z1, z2, ps, by rw [upd_ne hb]; exact z3, z4⟩⟩
theorem lcT_core {K : KF} {vs : List Nat} {wi : TI} {g0 : TG} {tt0 : TT} {te0 : TE} (hi : LI K wi wd) (hg : LGw K vs g0 g) (ht : LT K tt0 tt) (he : LE K te0 te) {G : Hp} {sd : DSt} {s : L2.St} {R : Rs} {H : Hp} {Qd : List D → Rs → Prop} {Q : VK}
    (sv : SV K G sd s) (rh : RepH K G R H) (q : dLcT wd g tt te vs sd R Qd)
    (k : ∀ G1 R1 H1 G' R' H' p acc xs, Stp G R H G1 R1 H1 → H1 p = none → Stp G1 R1 H1 G' R' H' → RepH K G' R' H' → Hid G' R' H' p (.lst xs) → DVs K G' acc xs → Qd acc R' → Q (.ref p) H') : tLc wi g0 tt0 te0 vs s H Q := by
  refine hi G sd s R H _ _ sv rh q fun G1 R1 H1 J xs ok e1 rh1 sim q1 => fun p hp => ?_
  obtain ⟨hz, Pv, p0, pok, step, fin⟩ := q1
  have r1p := rh1.free hp
  have g1p := rh1.gfree hp
  have sv1 := sv.st e1
  refine ⟨fun i m H2 => ∃ G2 R2 acc ys, Stp G1 R1 H1 G2 R2 H2 ∧ RepH K G2 R2 H2 ∧ Hid G2 R2 H2 p (.lst ys) ∧ DVs K G2 acc ys ∧ acc.length ≤ i ∧ i ≤ xs.length ∧ m = xs.length - i ∧ Pv i acc R2,
    ⟨_, G1, R1, [], [], (Stp.refl _ _ _).wr hp, rh1.hide r1p g1p (K.Φ.st ((Stp.refl _ _ _).wr hp) rh1.φ) (K.F.B.st ((Stp.refl _ _ _).wr hp) rh1.b), ⟨upd_same, r1p, g1p⟩, .nil, Nat.le_refl _, Nat.zero_le _, rfl, p0⟩, ?_⟩
  rintro i m H2 ⟨G2, R2, acc, ys, e2, rh2, hd2, dv2, ha, hi', rfl, p2⟩
  obtain ⟨go, stop⟩ := sim G2 R2 H2 e2.g rh2 (pok i acc R2 hi' p2)
  by_cases hlt : i < xs.length
  · obtain ⟨go1, go2⟩ := go i xs[i] (List.getElem?_eq_getElem hlt)
    refine .inr ⟨go1, fun H3 => ∃ G3 R3 acc ys, Stp G1 R1 H1 G3 R3 H3 ∧ RepH K G3 R3 H3 ∧ Hid G3 R3 H3 p (.lst ys) ∧ DVs K G3 acc ys ∧ acc.length ≤ i + 1 ∧ Pv (i + 1) acc R3, ?_, fun x H' y => ?_⟩
    · rintro H3 ⟨G3, R3, acc3, ys3, e3, rh3, hd3, dv3, ha3, p3⟩
      exact ⟨xs.length - (i + 1), by omega, G3, R3, acc3, ys3, e3, rh3, hd3, dv3, ha3, hlt, rfl, p3⟩
    · obtain ⟨G3, e3, rh3, dv3⟩ := go2 x H' y
      have hd3 := hd2.st e3
      have sv3 : SV K G3 (dwipe sd vs) (wipe s vs) := ((sv1.st e2).st e3).wipe vs
      refine hg G3 _ _ R2 H' _ _ _ _ sv3 rh3 dv3 (step i xs[i] acc R2 (List.getElem?_eq_getElem hlt) ha p2) fun G4 sd4 s4 R4 H4 e4 sv4 rh4 q4 w4 => ?_
      refine ⟨w4.trans (by
        have : ∀ us : List Nat, (∀ i ∈ us, i ∈ vs) → wipe (wipe s us) vs = wipe s vs := by
          intro us
          induction us with
          | nil => intro _; rfl
          | cons u us ih =>
            intro hu
            show wipe ((wipe s us).set u none) vs = _
            rw [wipe_set (hu u (by simp)), ih fun i hi => hu i (by simp [hi])]
        exact this vs fun _ h => h), ?_⟩
      refine ht G4 sd4 s4 R4 H4 _ _ sv4 rh4 q4 fun G5 R5 H5 b e5 rh5 q5 => ?_
      cases b with
      | false =>
        have e25 := e3.trans (e4.trans e5)
        exact ⟨G5, R5, acc, ys, e2.trans e25, rh5, hd2.st e25, dv2.st e25, Nat.le_succ_of_le ha, q5⟩
      | true =>
        refine he G5 sd4 s4 R5 H5 _ _ (sv4.st e5) rh5 q5 fun G6 R6 H6 d v e6 rh6 dv6 q6 => ?_
        have e26 := e3.trans (e4.trans (e5.trans e6))
        obtain ⟨h1, h2, h3⟩ := hd2.st e26
        have dvA := dv2.st e26
        refine ⟨ys, h1, ?_, G6, R6, acc ++ [d], ys ++ [v], (e2.trans e26).wr hp, rh6.hide h2 h3 (K.Φ.st ((e2.trans e26).wr hp) rh1.φ) (K.F.B.st ((e2.trans e26).wr hp) rh1.b), ⟨upd_same, h2, h3⟩, dvA.append (.cons dv6 .nil), by simp; omega, q6⟩
        rw [← dvA.length]; omega
  · have e : i = xs.length := by omega
    subst e
    exact .inl ⟨stop _ (Nat.le_refl _), k G1 R1 H1 G2 R2 H2 p acc ys e1 hp e2 rh2 hd2 dv2 (fin acc R2 ha p2)⟩
/-- a hidden new list is told as one that never changes -/
theorem RepH.tell {K : KF} {G : Hp} {R : Rs} {H : Hp} (h : RepH K G R H) {p : Addr} {o : HO} (hd : Hid G R H p o) (φ : K.Φ.p (upd G p o) R H) (b : K.F.B.p (upd G p o) R H) : Same G (upd G p o) ∧ RepH K (upd G p o) R H := by
  have s1 : Same G (upd G p o) := fun b u q => by rw [upd_ne (ne_of_none q hd.2.2)]; exact q
  refine ⟨s1, ⟨fun b u q => ?_, fun a ro q => ?_, φ, b⟩⟩
  · by_cases hb : b = p
    · subst hb; rw [upd_same] at q; cases q; exact hd.1
    · rw [upd_ne hb] at q; exact h.g b u q
  · obtain ⟨h1, u, h2, h3⟩ := h.r a ro q
    have hb : a ≠ p := by intro z; subst z; rw [hd.2.1] at q; cases q
    exact ⟨by rw [upd_ne hb]; exact h1, u, h2, h3.mono s1⟩
theorem RepH.tellR {K : KF} {G : Hp} {R : Rs} {H : Hp} (h : RepH K G R H) {p : Addr} {o : HO} {ro : RO} (hd : Hid G R H p o) (k : ROk K G ro o) (φ : K.Φ.p G (put R p ro) H) (b : K.F.B.p G (put R p ro) H) : RepH K G (put R p ro) H := by
  refine ⟨h.g, fun a r q => ?_, φ, b⟩
  by_cases hb : a = p
  · subst hb; rw [put_same] at q; cases q; exact ⟨hd.2.2, o, hd.1, k⟩
  · rw [put_ne hb] at q; exact h.r a r q
theorem Stp.tellG {G0 G : Hp} {R0 R : Rs} {H0 H : Hp} {p : Addr} {o : HO} (e : Stp G0 R0 H0 G R H) (h0 : H0 p = none) (hg : G p = none) : Stp G0 R0 H0 (upd G p o) R H := by
  have s1 : Same G (upd G p o) := fun b u q => by rw [upd_ne (ne_of_none q hg)]; exact q
  exact ⟨e.g.trans s1, fun a u q1 n q2 q3 => by
    have hb : a ≠ p := ne_of_none q1 h0
    rw [upd_ne hb]
    exact e.f a u q1 n q2 q3, fun a q z h => by
    have ⟨_, _, ps0, h3, _⟩ := h
    have hb : a ≠ p := ne_of_none h3 h0
    obtain ⟨z1, z2, ps, z3, z4, z5⟩ := e.t a q z h
    exact ⟨by rw [upd_ne hb]; exact z1, z2, ps, z3, z4, fun pos cv hc => let ⟨c, e1, e2⟩ := z5 pos cv hc; ⟨c, e1, s1 _ _ e2⟩⟩⟩
theorem Stp.tellR {G0 G : Hp} {R0 R : Rs} {H0 H : Hp} {p : Addr} {ro : RO} (e : Stp G0 R0 H0 G R H) (h0 : H0 p = none) : Stp G0 R0 H0 G (put R p ro) H :=
  ⟨e.g, fun a u q1 n q2 q3 => by
    have hb : a ≠ p := ne_of_none q1 h0
    rw [put_ne hb]
    exact e.f a u q1 n q2 q3, fun a q z h => by
    have ⟨_, _, ps0, h3, _⟩ := h
    have hb : a ≠ p := ne_of_none h3 h0
    obtain ⟨z1, z2, ps, z3, z4, z5⟩ := e.t a q z h
    exact ⟨z1, by rw [put_ne hb]; exact z2, ps, z3, z4, z5⟩⟩
theorem LE.lcF {K : KF} {vs : List Nat} {wi : TI} {g0 : TG} {tt0 : TT} {te0 : TE} (hi : LI K wi wd) (hg : LGw K vs g0 g) (ht : LT K tt0 tt) (he : LE K te0 te) : LE K (tLc wi g0 tt0 te0 vs) (dLcF wd g tt te vs) := fun G sd s R H Qd Q sv rh q k =>
  lcT_core hi hg ht he sv rh q fun G1 R1 H1 G' R' H' p acc xs e1 hp e2 rh2 hd dv q2 => by
    obtain ⟨s1, rh3⟩ := rh2.tell hd (K.Φ.st (e1.trans (e2.tellG hp hd.2.2)) rh.φ) (K.F.B.st (e1.trans (e2.tellG hp hd.2.2)) rh.b)
    exact k _ R' H' _ _ (e1.trans (e2.tellG hp hd.2.2)) rh3 (.lst upd_same (dv.mono s1)) q2
theorem LE.lc {K : KF} {vs : List Nat} {wi : TI} {g0 : TG} {tt0 : TT} {te0 : TE} (hi : LI K wi wd) (hg : LGw K vs g0 g) (ht : LT K tt0 tt) (he : LE K te0 te) : LE K (tLc wi g0 tt0 te0 vs) (dLc wd g tt te vs) := fun G sd s R H Qd Q sv rh q k =>
  lcT_core hi hg ht he sv rh q fun G1 R1 H1 G' R' H' p acc xs e1 hp e2 rh2 hd dv q2 =>
    k _ _ H' _ _ (e1.trans (e2.tellR (ro := .lst acc) hp)) (rh2.tellR hd ⟨xs, rfl, dv⟩ (K.Φ.st (e1.trans (e2.tellR (ro := .lst acc) hp)) rh.φ) (K.F.B.st (e1.trans (e2.tellR (ro := .lst acc) hp)) rh.b)) (.ref p) (q2 p hd.2.1)
/-- what is asked of a comprehension's parts -/
structure LcD (X : CxF) (tg iter : Expr) (ifs : List Expr) (elt : Expr) (scope : Scope) (own : List (Str × Nat)) (wd : DTI) (g : DTG) (tt : DTT) (te : DTE) : Prop where
  i : DI X tg iter wd
  ok : BlkOk X.N X.env.scope scope own
  g : ∃ g0 : TG, (∀ (s : Shared) (H : Hp) (C : Addr) (cl : List (Str × Addr)) (fp : List Addr), PG (X.blk s H scope (compEnvC scope cl C X.env) fp) tg g0) ∧ LGw X.K (own.map (·.2)) g0 g
  t : ∃ t0 : TT, (∀ (s : Shared) (H : Hp) (C : Addr) (cl : List (Str × Addr)) (fp : List Addr), PTs (X.blk s H scope (compEnvC scope cl C X.env) fp) ifs t0) ∧ LT X.K t0 tt
  e : ∃ e0 : TE, (∀ (s : Shared) (H : Hp) (C : Addr) (cl : List (Str × Addr)) (fp : List Addr), PE (X.blk s H scope (compEnvC scope cl C X.env) fp) elt e0) ∧ LE X.K e0 te
def cE (K : KF) (td : DTE) : TE := fun s H Q => ∃ G sd R Qd, SV K G sd s ∧ RepH K G R H ∧ td sd R Qd ∧ CB K G R H Qd Q
def cT (K : KF) (td : DTT) : TT := fun s H Q => ∃ G sd R Qd, SV K G sd s ∧ RepH K G R H ∧ td sd R Qd ∧ CBT K G R H Qd Q
def cGw (K : KF) (vs : List Nat) (gd : DTG) : TG := fun v s H Q => ∃ G sd R d Qd, SV K G sd s ∧ RepH K G R H ∧ DV K G d v ∧ gd d sd R Qd ∧ CBS K G R H Qd (fun s' H' => wipe s' vs = wipe s vs → Q s' H')
theorem LE.c {K : KF} {td : DTE} : LE K (cE K td) td := fun G sd s R H Qd Q sv rh q k => ⟨G, sd, R, Qd, sv, rh, q, k⟩
theorem LT.c {K : KF} {td : DTT} : LT K (cT K td) td := fun G sd s R H Qd Q sv rh q k => ⟨G, sd, R, Qd, sv, rh, q, k⟩
theorem LGw.c {K : KF} {vs : List Nat} {gd : DTG} : LGw K vs (cGw K vs gd) gd := fun G sd s R H d v Qd Q sv rh dv q k => ⟨G, sd, R, d, Qd, sv, rh, dv, q, k⟩
theorem DE.pe {e : Expr} {td : DTE} (h : DE X e td) : PE X e (cE X.K td) := by
  obtain ⟨t1, a1, a2⟩ := h
  exact ⟨fun pins s σ H Q I ⟨G, sd, R, Qd, sv, rh, q, k⟩ => a1.run pins s σ H Q I (a2 G sd σ R H Qd Q sv rh q k)⟩
theorem DT.pt {e : Expr} {td : DTT} (h : DT X e td) : PT X e (cT X.K td) := by
  obtain ⟨t1, a1, a2⟩ := h
  exact ⟨fun pins s σ H Q I ⟨G, sd, R, Qd, sv, rh, q, k⟩ => a1.run pins s σ H Q I (a2 G sd σ R H Qd Q sv rh q k)⟩
theorem DTs.pts {es : List Expr} {td : DTT} (h : DTs X es td) : PTs X es (cT X.K td) := by
  obtain ⟨t1, a1, a2⟩ := h
  exact ⟨fun pins s σ H Q I ⟨G, sd, R, Qd, sv, rh, q, k⟩ => a1.run pins s σ H Q I (a2 G sd σ R H Qd Q sv rh q k)⟩
theorem DGw.pg {e : Expr} {vs : List Nat} {gd : DTG} (h : DGw X vs e gd) : PG X e (cGw X.K vs gd) := by
  obtain ⟨t1, a1, a2⟩ := h
  exact ⟨fun pins s σ H v u Q I r ⟨G, sd, R, d, Qd, sv, rh, dv, q, k⟩ => a1.run pins s σ H v u Q I r (a2 G sd σ R H d v Qd Q sv rh dv q k)⟩
theorem lcd (hi : DI X tg iter wd) (ok : BlkOk X.N X.env.scope scope own) (hg : ∀ (s : Shared) (H : Hp) (C : Addr) (cl : List (Str × Addr)) (fp : List Addr), DGw (X.blk s H scope (compEnvC scope cl C X.env) fp) (own.map (·.2)) tg g)
    (ht : ∀ (s : Shared) (H : Hp) (C : Addr) (cl : List (Str × Addr)) (fp : List Addr), DTs (X.blk s H scope (compEnvC scope cl C X.env) fp) ifs tt)
    (he : ∀ (s : Shared) (H : Hp) (C : Addr) (cl : List (Str × Addr)) (fp : List Addr), DE (X.blk s H scope (compEnvC scope cl C X.env) fp) elt te) : LcD X tg iter ifs elt scope own wd g tt te :=
  ⟨hi, ok, ⟨_, fun s H C cl fp => (hg s H C cl fp).pg, LGw.c⟩, ⟨_, fun s H C cl fp => (ht s H C cl fp).pts, LT.c⟩, ⟨_, fun s H C cl fp => (he s H C cl fp).pe, LE.c⟩⟩
theorem de_lcF (hc : X.calm = true) (hN : X.N.Nodup) (h : LcD X tg iter ifs elt scope own wd g tt te) (hs : ∀ x, foldedSetIterable iter X.env x = pure x := by intro _; rfl) : DE X (.ListComp elt [⟨tg, iter, ifs, 0⟩] scope pos) (dLcF wd g tt te (own.map (·.2))) := by
  obtain ⟨⟨wi, i1, i2⟩, ok, ⟨g0, ga, gb⟩, ⟨t0, ta, tb⟩, ⟨e0, ea, eb⟩⟩ := h
  exact ⟨_, pe_lc hc hN i1 ok ga ta ea hs, LE.lcF i2 gb tb eb⟩
theorem de_lc (hc : X.calm = true) (hN : X.N.Nodup) (h : LcD X tg iter ifs elt scope own wd g tt te) (hs : ∀ x, foldedSetIterable iter X.env x = pure x := by intro _; rfl) : DE X (.ListComp elt [⟨tg, iter, ifs, 0⟩] scope pos) (dLc wd g tt te (own.map (·.2))) := by
  obtain ⟨⟨wi, i1, i2⟩, ok, ⟨g0, ga, gb⟩, ⟨t0, ta, tb⟩, ⟨e0, ea, eb⟩⟩ := h
  exact ⟨_, pe_lc hc hN i1 ok ga ta ea hs, LE.lc i2 gb tb eb⟩
theorem LS.asg {K : KF} {te0 : TE} {te : DTE} (i : Nat) (h : LE K te0 te) : LS K (tAsg te0 (gName i)) (dAsg te (dgName i)) := fun G sd s R H Ed E sv rh q k =>
  h G sd s R H _ _ sv rh q fun G1 R1 H1 d v e1 rh1 dv1 q1 => k.nx G1 _ _ R1 H1 e1 ((sv.st e1).set i dv1) rh1 q1
/-- name = [..], on one line -/
theorem ds_setLcF {i : Nat} {y : Str} {py spos : Pos} (hc : X.calm = true) (hN : X.N.Nodup) (hy : X.N[i]? = some y) (hyl : X.env.scope.names.lookup y = some .local) (hsw : swapsWith (.ListComp elt [⟨tg, iter, ifs, 0⟩] scope pos) (some (.Name y py)) spos.line X.env = pure true)
    (h : LcD X tg iter ifs elt scope own wd g tt te) (hs : ∀ x, foldedSetIterable iter X.env x = pure x := by intro _; rfl) :
    DS X (.Assign [.Name y py] (.ListComp elt [⟨tg, iter, ifs, 0⟩] scope pos) spos) (dAsg (dLcF wd g tt te (own.map (·.2))) (dgName i)) := by
  obtain ⟨⟨wi, i1, i2⟩, ok, ⟨g0, ga, gb⟩, ⟨t0, ta, tb⟩, ⟨e0, ea, eb⟩⟩ := h
  exact ⟨_, ps_setLc hc hN hy hyl hsw i1 ok ga ta ea hs, LS.asg i (LE.lcF i2 gb tb eb)⟩
theorem ds_setLc {i : Nat} {y : Str} {py spos : Pos} (hc : X.calm = true) (hN : X.N.Nodup) (hy : X.N[i]? = some y) (hyl : X.env.scope.names.lookup y = some .local) (hsw : swapsWith (.ListComp elt [⟨tg, iter, ifs, 0⟩] scope pos) (some (.Name y py)) spos.line X.env = pure true)
    (h : LcD X tg iter ifs elt scope own wd g tt te) (hs : ∀ x, foldedSetIterable iter X.env x = pure x := by intro _; rfl) :
    DS X (.Assign [.Name y py] (.ListComp elt [⟨tg, iter, ifs, 0⟩] scope pos) spos) (dAsg (dLc wd g tt te (own.map (·.2))) (dgName i)) := by
  obtain ⟨⟨wi, i1, i2⟩, ok, ⟨g0, ga, gb⟩, ⟨t0, ta, tb⟩, ⟨e0, ea, eb⟩⟩ := h
  exact ⟨_, ps_setLc hc hN hy hyl hsw i1 ok ga ta ea hs, LS.asg i (LE.lc i2 gb tb eb)⟩
end
end DL
end
section
set_option Elab.async false
set_option maxRecDepth 100000
set_option linter.all false
set_option autoImplicit false
/-! DLG: a def's promise where no repr is under way (guards empty) -/
namespace DL
open PySem PySem.Spec PyProof.Rows L2
variable [TabCtx]

structure FnG (P : Program) (w : World) (K : PySem.W.Frag) (mg : Str → Option Value) (base : Heap) (CX : CXT) (k : Nat) (f : Addr) (fd : FuncData) (ps : List Str) (sp : Sp) : Prop where
  len : ∀ vs H Q E, sp vs H Q E → vs.length = ps.length
  go : ∀ (A : Around), A.guards = some [] → Room k A → ∀ (outer : List Env) (s : Shared) (H : Hp), Env0 P w K mg base A outer s H →
    ∀ (args : Args) (us : List Value) (vs : List V) (Q : VK) (E : XK), BindsTo s fd args (ps.zip us) → Vals vs us → sp vs H Q E → codeAny (model P w) A (.call (.ref f) args) (CR CX outer P w H s Q E) s
theorem FnG.mono {P : Program} {w : World} {K : PySem.W.Frag} {mg : Str → Option Value} {base : Heap} {CX : CXT} {j k : Nat} {f : Addr} {fd : FuncData} {ps : List Str} {sp : Sp} (F : FnG P w K mg base CX j f fd ps sp) (h : j ≤ k) : FnG P w K mg base CX k f fd ps sp :=
  ⟨F.len, fun A g r => F.go A g (r.mono h)⟩
theorem FnG.of {P : Program} {w : World} {K : PySem.W.Frag} {mg : Str → Option Value} {base : Heap} {CX : CXT} {k : Nat} {f : Addr} {fd : FuncData} {ps : List Str} {sp : Sp} (F : FnOk P w K mg base CX k f fd ps sp) : FnG P w K mg base CX k f fd ps sp :=
  ⟨F.len, fun A _ r outer s H e args us vs Q E => F.run A outer s H args us vs Q E r e⟩

section
variable {X : Cx} {CX : CXT} {k : Nat} {f C : Addr} {fd : FuncData} {ps : List Str} {sp : Sp} {dvs : List V} {ds : List Value} {E : XK} {x m : Str} {p pos apos : Pos} {e o : Expr} {es : List Expr} {ta : TE} {t : TA}
theorem goG {pins : List (Addr × Obj)} {σ : L2.St} {H : Hp} {s : Shared} {Q : VK} {us : List Value} {vs : List V} (F : FnG X.prog X.w X.K X.mg X.base CX k f fd ps sp) (hgd : X.A.guards = some []) (room : Room k X.A) (bd : Binds X.K fd ps ds) (dd : Vals dvs ds) (ps' : Passes CX X E)
    (I : Inv X pins σ H s) (rv : Vals vs us) (q : sp (vs ++ dvs) H Q E) : wpAny (model X.prog X.w) X.A (call (.ref f) us) (EP X pins σ Q) X.xe s := by
  have all : Vals (vs ++ dvs) (us ++ ds) := rv.append dd
  have n : (us ++ ds).length = ps.length := all.length.symm.trans (F.len _ _ _ _ q)
  apply wpAny_call
  apply codeAny_mono (F.go X.A hgd room X.stack s H I.env0 ⟨us, []⟩ (us ++ ds) (vs ++ dvs) Q E (bd s us I.kIn n) all q)
  rintro (er | fl) s' z
  · exact ps' pins σ H s er s' I z
  · cases fl <;> first | exact False.elim z | exact I.after z
theorem pe_callG (F : FnG X.prog X.w X.K X.mg X.base CX k f fd ps sp) (hgd : X.A.guards = some []) (room : Room k X.A) (gl : Gl X x) (hm : X.mg x = some (.ref f)) (kp : PySem.W.keepIn X.K (.ref f) = true) (bd : Binds X.K fd ps ds) (dd : Vals dvs ds) (ps' : Passes CX X E)
    (ha : PA X (e :: es) t) (hdb : (x == ("__debug__" : Str)) = false := by decide) (he : starEach (e :: es) X.env = (false, eval e X.env) :: starEach es X.env := by rfl) (hpl : (backTo pos (starEach es X.env)).any (·.1) = false := by rfl) :
    PE X (.Call (.Name x p) (e :: es) [] pos) (tCall sp dvs E t) :=
  ⟨fun pins s σ H Q I h => wpAny_Call_Name_kw (ld_glob I gl hm (PySem.W.callWith_K (h₀ := X.base) I.ok.mod.kin kp
    (thn (ha.run pos pins s σ H _ I h) fun us s1 ⟨vs, H1, I1, r, q⟩ => ⟨I1.kIn, goG F hgd room bd dd ps' I1 r q⟩) he hpl) hdb)⟩
end

section
variable {CX : CXT} {P : Program} {w : World} {K : PySem.W.Frag} {mg : Str → Option Value} {base : Heap}
theorem fnG_of {k : Nat} {f : Addr} {name qual : Str} {params : Arguments} {body : List Stmt} {scope : Scope} {dV kV doc pm cdv ct oc : Value} {an od : Option Addr}
    {osl : Array (Option Value)} {N ps : List Str} {sp : Sp} (lk : K.lookup f = some ⟨oc, od, .func (PySem.W.fnOf name qual params body scope dV kV doc pm an cdv ct), osl⟩) (hcd : PySem.W.codeIn K cdv qual = true) (S : FnScope N ps scope)
    (len : ∀ vs H Q E, sp vs H Q E → vs.length = ps.length)
    (hbody : ∀ (A : Around), A.guards = some [] → ∀ (outer : List Env) (s : Shared) (H : Hp) (vs : List V) (Q : VK) (E : XK), Room k (A.deeper (envOfC qual scope s.heap.objs.size f cdv)) → sp vs H Q E →
      ∃ t, PSs (cxOf CX P w K mg base N qual scope f cdv A outer s H E) body t ∧ t { nx := fun _ H' => Q .non H', rt := Q } (L2.start N vs) H) :
    FnG P w K mg base CX (k + 1) f (PySem.W.fnOf name qual params body scope dV kV doc pm an cdv ct) ps sp where
  len := len
  go := by
    intro A gd room outer s H e0 args us vs Q E bd rv q
    have kin : K.In s.heap := e0.mod.kin.keeps fun b o z => (e0.bs b o z).1
    have nl : s.heap.NoLimit := e0.mod.nolimit.keeps fun b o z => (e0.bs b o z).1
    apply codeAny_call_function room.depth (kin _ _ lk) rfl S.co S.gen rfl (PySem.W.codeRec_of kin hcd)
    apply bd
    have kinds : ∀ y ∈ ps.zip us, scope.names.lookup y.1 = some .local ∨ (scope.names.lookup y.1 = some .cell ∧ ((cellsFrom (s.heap.objs.size + 1) scope.names []).lookup y.1).isSome = true) := by
      rintro ⟨n, v⟩ hy
      exact (S.par n (List.of_mem_zip hy).1).imp id fun z => ⟨z, PySem.W.cellsFrom_some _ _ _ (.inl z)⟩
    apply wpAny_newFunctionEnv_cells S.kind kinds
    rintro env rfl s1 ic
    refine ⟨nl.keeps ic.toInCall.keep, codeAny_func ?_⟩
    obtain ⟨t, ht, tq⟩ := hbody A gd outer s H vs Q E (room.deeper _) q
    have inv : Inv (cxOf CX P w K mg base N qual scope f cdv A outer s H E) [] (L2.start N vs) H s1 := inv_start S room.hd e0 (len _ _ _ _ q) rv ic
    have done : ∀ {σ' : L2.St} {H' : Hp} {v : V} {u : Value} {s' : Shared}, Inv (cxOf CX P w K mg base N qual scope f cdv A outer s H E) [] σ' H' s' → RelV v u → Q v H' → CE outer P w H s Q u s' := by
      intro σ' H' v u s' J r z
      exact ⟨v, H', J.os, J.bare, J.base, J.hok, r, z⟩
    apply wpAny_mono (ht.run [] s1 _ H _ inv tq)
    · rintro fl s' z
      cases fl with
      | ret u => obtain ⟨v, σ', H', J, r, z⟩ := z; exact done J r z
      | next => obtain ⟨σ', H', J, z⟩ := z; exact done (v := V.non) (u := Value.none) J rfl z
      | brk => obtain ⟨_, _, _, z⟩ := z; exact z.elim
      | cont => obtain ⟨_, _, _, z⟩ := z; exact z.elim
    · exact fun _ _ z => z
/-- a def of the text that lets nothing out -/
theorem okG {x qual : Str} {st : Stmt} {f : Addr} {fd : FuncData} {N ps : List Str} {k : Nat} {sp : Sp} (F : Fun K x qual st f fd) (S : FnScope N ps (defScope st)) (len : ∀ vs H Q E, sp vs H Q E → vs.length = ps.length)
    (hbody : ∀ (cdv : Value) (A : Around), A.guards = some [] → ∀ (outer : List Env) (s : Shared) (H : Hp) (vs : List V) (Q : VK) (E : XK), Room k (A.deeper (envOfC qual (defScope st) s.heap.objs.size f cdv)) → sp vs H Q E →
      ∃ t, PSs (cxOf CX0 P w K mg base N qual (defScope st) f cdv A outer s H E).nox (defBody st) t ∧ t { nx := fun _ H' => Q .non H', rt := Q } (L2.start N vs) H) : FnG P w K mg base CX0 (k + 1) f fd ps sp := by
  obtain ⟨oc, od, kV, doc, pm, an, cdv, ct, osl, rfl, lk, cd⟩ := F.ex
  refine fnG_of lk cd S len fun A gd outer s H vs Q E room q => ?_
  obtain ⟨t, h, z⟩ := hbody cdv A gd outer s H vs Q E room q
  exact ⟨t, h.nox, z⟩
end
end DL
end
section
set_option Elab.async false
set_option maxRecDepth 100000
set_option linter.all false
set_option autoImplicit false
/-! DLE: the end of a law's row, from a promise FnG -/
namespace DL
open PySem PySem.Spec PyProof.Rows L2
variable [TabCtx]

section
variable {P : Program} {w : World} {K : PySem.W.Frag} {mg mb : Str → Option Value} {CX : CXT} {k : Nat} {fa a : Addr} {fd : FuncData} {x : Str} {sp : Sp} {s1 : Shared} {vs : List Value} {ns : List Int}
/-- at an abstract heap that tracks the script at most -/
theorem law_at {H : Hp} (kin : K.In s1.heap) (gns : s1.heap.Ns mainGlobals mg) (bns : s1.heap.Ns builtinsNs mb) (blt : ∀ x : Str, x ≠ "__name__" → mb x = bootBuiltins x) (nl : s1.heap.NoLimit) (gens : s1.gens = #[])
    (obj : s1.heap.get? a = some { cls := .type "list", data := .seq vs.toArray }) (room : Room k callerA)
    (F : ∀ base : Heap, K.In base → base.Ns mainGlobals mg → FnG P w K mg base CX k fa fd [x] sp) (bd : ∀ (s : Shared) (u : Value), BindsTo s fd ⟨[u], []⟩ [(x, u)])
    (q : sp [.ref a] H (fun v _ => v = .bl true) fun _ _ _ => False) (noX : ∀ e s', CX [] H s1 (fun _ _ _ => False) e s' → False)
    (only : Only H) (hok : HOk P w H s1.heap) (one : ∀ b u, H b = some u → b = a ∧ K.lookup a = none) :
    codeAny (model P w) callerA (.call (.ref fa) ⟨[.ref a], []⟩) (fun r s' => r = .ok (.ret (.bool true)) ∧ OldK s1.heap s'.heap ∧ s'.os = s1.os ∧ AllBare s'.gens) s1 := by
  -- a namespace's object is not the script
  have keep : ∀ {b : Addr} {m : Str → Option Value}, s1.heap.Ns b m → (hidT s1.heap H).Ns b m := by
    rintro b m ⟨o, es, ep, e, d, r⟩
    refine ⟨o, es, ep, hidT_get e ?_, d, r⟩
    cases z : H b with
    | none => rfl
    | some u =>
      have eb := (one b u z).1
      rw [eb, obj] at e
      cases e
      cases d
  have inK : K.In (hidT s1.heap H) := by
    intro b o e
    refine hidT_get (kin b o e) ?_
    cases z : H b with
    | none => rfl
    | some u =>
      obtain ⟨eb, no⟩ := one b u z
      rw [eb, no] at e
      cases e
  have md : Mod K mg (hidT s1.heap H) := ⟨inK, keep gns, ⟨mb, keep bns, blt⟩, by obtain ⟨mc, h1, h2⟩ := nl; exact ⟨mc, keep h1, h2⟩⟩
  have none_in : ∀ b : Addr, b ∉ frs ([] : List Env) := fun b z => by cases z
  have ev : Env0 P w K mg (hidT s1.heap H) callerA [] s1 H := ⟨rfl, md, fun _ _ e => of_hidT e, Nat.le_of_eq (hidT_size _ _), trivial, fun b z => (none_in b z).elim, hok, .of_eq gens⟩
  apply codeAny_mono ((F _ inK (keep gns)).go callerA rfl room [] s1 H ev ⟨[.ref a], []⟩ [.ref a] [.ref a] _ _ (bd s1 (.ref a)) (.cons rfl .nil) q)
  rintro (er | fl) s2 z
  · exact (noX er s2 z).elim
  · cases fl with
    | next => exact False.elim z
    | brk => exact False.elim z
    | cont => exact False.elim z
    | ret u =>
      obtain ⟨v, H2, os, bare, un, hok2, rel, tr⟩ := z
      cases (show v = .bl true from tr)
      cases (show u = Value.bool true from rel)
      refine ⟨rfl, OldK.of_keep fun b o e => ?_, os, bare⟩
      rcases only b with z | ⟨ob, xs, z⟩
      · exact un.keep b o e z (none_in b) (by simp)
      · have e1 : s1.heap.get? b = some ob := (hok b _ z).1
        have e2 : s2.heap.get? b = some ob := (hok2 b _ (un.frzs b ob _ z)).1
        rw [e] at e1
        rw [e2, e1]
theorem law_callG (kin : K.In s1.heap) (gns : s1.heap.Ns mainGlobals mg) (bns : s1.heap.Ns builtinsNs mb) (blt : ∀ x : Str, x ≠ "__name__" → mb x = bootBuiltins x) (nl : s1.heap.NoLimit) (gens : s1.gens = #[])
    (obj : s1.heap.get? a = some { cls := .type "list", data := .seq vs.toArray }) (inz : IntsAre vs ns) (few : ns.length ≤ sizeLine) (room : Room k callerA)
    (F : ∀ base : Heap, K.In base → base.Ns mainGlobals mg → FnG P w K mg base CX k fa fd [x] sp) (bd : ∀ (s : Shared) (u : Value), BindsTo s fd ⟨[u], []⟩ [(x, u)])
    (hsp : ∀ H : Hp, SqL K H a (ns.map V.int) → sp [.ref a] H (fun v _ => v = .bl true) fun _ _ _ => False)
    (noX : ∀ H e s', CX [] H s1 (fun _ _ _ => False) e s' → False) :
    codeAny (model P w) callerA (.call (.ref fa) ⟨[.ref a], []⟩) (fun r s' => r = .ok (.ret (.bool true)) ∧ OldK s1.heap s'.heap ∧ s'.os = s1.os ∧ AllBare s'.gens) s1 := by
  have n1 := inz.length
  cases lk : K.lookup a with
  | some o =>
    have e := kin a o lk
    rw [obj] at e
    cases e
    have sq : SqL K (fun _ => none) a (ns.map V.int) := .inr ⟨_, vs.toArray, _, lk, rfl, rfl, rfl, by rw [List.size_toArray, n1]; exact few, by simpa using vals_ints inz⟩
    exact law_at kin gns bns blt nl gens obj room F bd (hsp _ sq) (noX _) (fun _ => .inl rfl) (fun _ u z => by cases (show (none : Option HO) = some u from z)) fun _ u z => by cases (show (none : Option HO) = some u from z)
  | none =>
    let H : Hp := upd (fun _ => none) a (.frz { cls := .type "list", data := .seq vs.toArray } (.lst (ns.map V.int)))
    have at_ : ∀ b u, H b = some u → b = a ∧ u = .frz { cls := .type "list", data := .seq vs.toArray } (.lst (ns.map V.int)) := by
      intro b u z
      by_cases hb : b = a
      · subst hb
        have z2 : upd (fun _ => none) b _ b = some u := z
        rw [upd_same] at z2
        cases z2
        exact ⟨rfl, rfl⟩
      · have z2 : upd (fun _ => none) a _ b = some u := z
        rw [upd_ne hb] at z2
        cases z2
    have sq : SqL K H a (ns.map V.int) := .inl (.inr ⟨_, upd_same⟩)
    refine law_at kin gns bns blt nl gens obj room F bd (hsp H sq) (noX H) (fun b => ?_) (fun b u z => ?_) fun b u z => ⟨(at_ b u z).1, lk⟩
    · cases z : H b with
      | none => exact .inl rfl
      | some u => exact .inr ⟨_, _, by rw [(at_ b u z).2]⟩
    · obtain ⟨rfl, rfl⟩ := at_ b u z
      exact ⟨obj, by rw [List.length_map]; exact few, vs, _, vals_ints inz, obj⟩
end
theorem walkG {l : PySem.W.OpenLaw} {n k : Nat} {q : Program} {loose : List Str} {XP : (Str → Option Value) → Heap → Prop} {YP : World → Heap → Prop} {d : DefRec} {K : Params → PySem.W.Frag} {CX : World → CXT} {sp : World → Sp} {x : Str}
    (hn : l.most = some n) (hn2 : n ≤ sizeLine) (hdf : d.params.defaults = []) (room : Room k callerA)
    (hY : ∀ (w : World) (h : Heap), YP w h → (K w.params).In h)
    (F : ∀ (w : World) (mg : Str → Option Value) (fa : Addr) (h : Heap), (K w.params).In h → h.Ns mainGlobals mg → mg d.name = some (.ref fa) →
      ∃ fd : FuncData, (∀ (s : Shared) (u : Value), BindsTo s fd ⟨[u], []⟩ [(x, u)]) ∧
        ∀ base : Heap, (K w.params).In base → base.Ns mainGlobals mg → FnG l.prog w (K w.params) mg base (CX w) k fa fd [x] (sp w))
    (hsp : ∀ (w : World) (H : Hp) (a : Addr) (ns : List Int), ns.length ≤ n → SqL (K w.params) H a (ns.map V.int) → sp w [.ref a] H (fun v _ => v = .bl true) fun _ _ _ => False)
    (noX : ∀ (w : World) (H : Hp) (s : Shared) (e : Value) (s' : Shared), CX w [] H s (fun _ _ _ => False) e s' → False) :
    PySem.W.WalkO q loose XP YP l.row.toRowW d [] (fun f vs => PySem.call f vs) := by
  apply Att.attach_call hn hdf
  intro w s0 s1 mg mb fa o pm cd doc a vs ns G Y ho hd hcd hmg hobj hints hlen hg
  have kin := hY w _ Y
  obtain ⟨fd, bd, hF⟩ := F w mg fa _ kin G.T.g hmg
  exact law_callG kin G.T.g G.T.b G.T.builtins G.T.nolimit hg hobj hints (Nat.le_trans hlen hn2) room hF bd (fun H sq => hsp w H a ns hlen sq) fun H e s' => noX w H s1 e s'
end DL
end
section
set_option Elab.async false
set_option maxRecDepth 100000
set_option linter.all false
set_option autoImplicit false
/-! DL4: defs and their promises, calls -/
namespace DL
open PySem PySem.Spec PyProof.Rows L2
variable [TabCtx]

/-- an exception: its class, its fields -/
abbrev DXK := Value → List (Str × D) → Rs → Prop
def ExD (K : PySem.W.Frag) (G : Hp) (R : Rs) (H : Hp) (od : Option Addr) (fs : List (Str × D)) : Prop := match od with
  | none => fs = []
  | some d => ∃ vs : List V, H d = some (.xd ((fs.map (·.1)).zip vs)) ∧ R d = none ∧ G d = none ∧ DVs K G (fs.map (·.2)) vs
theorem ExD.st {K : PySem.W.Frag} {G G' : Hp} {R R' : Rs} {H H' : Hp} {od : Option Addr} {fs : List (Str × D)} (h : ExD K G R H od fs) (e : Stp G R H G' R' H') : ExD K G' R' H' od fs := by
  unfold ExD at *
  cases od with
  | none => exact h
  | some d =>
    obtain ⟨vs, h1, h2, h3, h4⟩ := h
    obtain ⟨q1, q2, q3⟩ := e.f d _ h1 (by intro ps z; cases z) h2 h3
    exact ⟨vs, q1, q2, q3, h4.st e⟩
def CBX (K : KF) (G : Hp) (R : Rs) (H : Hp) (Ed : DXK) (E : XK) : Prop := ∀ G' R' H' cls od fs, Stp G R H G' R' H' → RepH K G' R' H' → ExD K G' R' H' od fs → Ed cls fs R' → E cls od H'
theorem CBX.st {K : KF} {G G' : Hp} {R R' : Rs} {H H' : Hp} {Ed : DXK} {E : XK} (h : CBX K G R H Ed E) (e : Stp G R H G' R' H') : CBX K G' R' H' Ed E := fun g r h' c o f q => h g r h' c o f (e.trans q)
section
variable {K : KF} {F : KB} {Φ : Phi} {G : Hp} {R : Rs} {H : Hp}
theorem RepH.toAll (h : RepH K G R H) : RepH ⟨K.F, .all⟩ G R H := ⟨h.g, h.r, trivial, h.b⟩
theorem RepH.ofAll (h : RepH ⟨F, .all⟩ G R H) (φ : Φ.p G R H) : RepH ⟨F, Φ⟩ G R H := ⟨h.g, h.r, φ, h.b⟩
theorem CB.toAll {Qd : DK} {Q : VK} (h : CB K G R H Qd Q) (φ : K.Φ.p G R H) : CB ⟨K.F, .all⟩ G R H Qd Q := fun G' R' H' d v e rh dv q => h G' R' H' d v e (rh.ofAll (K.Φ.st e φ)) dv q
theorem CB.ofAll {Qd : DK} {Q : VK} (h : CB ⟨F, .all⟩ G R H Qd Q) : CB ⟨F, Φ⟩ G R H Qd Q := fun G' R' H' d v e rh dv q => h G' R' H' d v e rh.toAll dv q
end
abbrev DSp := List D → Rs → DK → DXK → Prop
def spOf (K : KB) (dsp : DSp) : Sp := fun vs H Q E => ∃ G ds R Qd Ed, DVs K G ds vs ∧ RepH ⟨K, .all⟩ G R H ∧ dsp ds R Qd Ed ∧ CB ⟨K, .all⟩ G R H Qd Q ∧ CBX ⟨K, .all⟩ G R H Ed E
abbrev Ed0 : DXK := fun _ _ _ => False

/-- a def's end: what it made may be forgotten; a list that it made and hands back may be told as one that never changes -/
def Fin (Qd : DK) : DK := fun d R' => (∃ R2, (∀ a ro, R2 a = some ro → R' a = some ro) ∧ Qd d R2) ∨
  (∃ p ds R2, d = .ref p ∧ R' p = some (.lst ds) ∧ (∀ a ro, R2 a = some ro → a ≠ p ∧ R' a = some ro) ∧ Qd (.lst ds) R2)
theorem fin {Qd : DK} {d : D} {R : Rs} (h : Qd d R) : Fin Qd d R := .inl ⟨R, fun _ _ q => q, h⟩
theorem finS {Qd : DK} {d : D} {R R' : Rs} (s : ∀ a ro, R a = some ro → R' a = some ro) (h : Qd d R) : Fin Qd d R' := .inl ⟨R, s, h⟩
theorem finF {Qd : DK} {p : Addr} {ds : List D} {R R' : Rs} (e : R' p = some (.lst ds)) (hp : R p = none) (s : ∀ a ro, R a = some ro → R' a = some ro) (h : Qd (.lst ds) R) : Fin Qd (.ref p) R' :=
  .inr ⟨p, ds, R, rfl, e, fun a ro q => ⟨fun z => (by subst z; rw [hp] at q; cases q), s a ro q⟩, h⟩
theorem CB.fin {K : KF} {G : Hp} {R : Rs} {H : Hp} {Qd : DK} {Q : VK} (h : CB K G R H Qd Q) : CB K G R H (Fin Qd) Q := fun G' R' H' d v e rh dv q => by
  rcases q with ⟨R2, s, q⟩ | ⟨p, ds, R2, rfl, hp, s, q⟩
  · exact h G' R2 H' d v (e.drop s) (rh.sub0 s) dv q
  · cases dv
    obtain ⟨vs, h1, h2⟩ := rh.lst hp
    obtain ⟨gp, _⟩ := rh.r p _ hp
    have hr2 : R2 p = none := by
      cases z : R2 p with
      | none => rfl
      | some ro => exact absurd rfl (s p ro z).1
    have s' : ∀ a ro, R2 a = some ro → R' a = some ro := fun a ro z => (s a ro z).2
    have S2 : Stp G' R' H' (upd G' p (.lst vs)) R2 H' := .mk0 (fun b u q => by rw [upd_ne (ne_of_none q gp)]; exact q) fun a o q1 q2 q3 => by
      have hb : a ≠ p := by intro z; subst z; rw [hp] at q2; cases q2
      refine ⟨q1, ?_, by rw [upd_ne hb]; exact q3⟩
      cases z : R2 a with
      | none => rfl
      | some ro => rw [s' a ro z] at q2; cases q2
    obtain ⟨s1, rh2⟩ := (rh.sub0 s').tell (p := p) (o := .lst vs) ⟨h1, hr2, gp⟩ (K.Φ.st S2 rh.φ) (K.F.B.st S2 rh.b)
    exact h _ R2 H' _ _ (e.trans S2) rh2 (.lst upd_same (h2.mono s1)) q
def dstart (N : List Str) (ds : List D) : DSt := ds.map some ++ List.replicate (N.length - ds.length) none
theorem SV.start {K : PySem.W.Frag} {G : Hp} {N : List Str} {ds : List D} {vs : List V} (h : DVs K G ds vs) : SV K G (dstart N ds) (L2.start N vs) := by
  refine ⟨by unfold dstart L2.start; simp [h.length], fun i d hd => ?_⟩
  have hl := h.length
  unfold dstart at hd
  unfold L2.start
  by_cases hi : i < ds.length
  · rw [List.getElem?_append_left (by simpa using hi), List.getElem?_map, List.getElem?_eq_getElem hi] at hd
    cases hd
    obtain ⟨v, hv, dv⟩ := h.get (List.getElem?_eq_getElem hi)
    exact ⟨v, by rw [List.getElem?_append_left (by simp; omega), List.getElem?_map, hv]; rfl, dv⟩
  · rw [List.getElem?_append_right (by simpa using hi), List.getElem?_replicate] at hd
    split at hd <;> cases hd

section
variable {P : Program} {w : World} {K : KB} {mg : Str → Option Value} {base : Heap}
theorem spOf_len {dsp : DSp} {n : Nat} (len : ∀ ds R Q E, dsp ds R Q E → ds.length = n) : ∀ vs H Q E, spOf K dsp vs H Q E → vs.length = n := fun vs H Q E ⟨G, ds, R, Qd, Ed, dv, rh, q, _⟩ => by rw [← dv.length]; exact len _ _ _ _ q
/-- a def that lets no exception out -/
theorem okD {x qual : Str} {st : Stmt} {f : Addr} {fd : FuncData} {N ps : List Str} {k : Nat} {dsp : DSp} (F : Fun K x qual st f fd) (S : FnScope N ps (defScope st)) (len : ∀ ds R Q E, dsp ds R Q E → ds.length = ps.length)
    (hbody : ∀ (cdv : Value) (A : Around) (outer : List Env) (s : Shared) (H : Hp) (E : XK), A.guards = some [] → Room k (A.deeper (envOfC qual (defScope st) s.heap.objs.size f cdv)) →
      ∃ t, DSs ⟨(cxOf CX0 P w K mg base N qual (defScope st) f cdv A outer s H E).nox, .all, K.B⟩ (defBody st) t ∧ ∀ ds R Qd Ed, dsp ds R Qd Ed → t { nx := fun _ R' => Fin Qd .non R', rt := Fin Qd } (dstart N ds) R) : FnG P w K mg base CX0 (k + 1) f fd ps (spOf K dsp) := by
  refine okG F S (spOf_len len) fun cdv A gd outer s H vs Q E hr ⟨G, ds, R, Qd, Ed, dv, rh, q, cb, cx⟩ => ?_
  obtain ⟨t, ⟨t0, a1, a2⟩, h⟩ := hbody cdv A outer s H E gd hr
  refine ⟨t0, a1, a2 G _ _ R H _ _ (SV.start dv) rh (h ds R Qd Ed q) ⟨fun G' sd s R' H' e sv rh' q => cb.fin G' R' H' _ _ e rh' .non q, fun G' R' H' d v e rh' dv' q => cb.fin G' R' H' d v e rh' dv' q, fun _ _ _ _ _ _ _ _ q => q.elim, fun _ _ _ _ _ _ _ _ q => q.elim⟩⟩
end

/-! ### calls -/
def dCall (dsp : DSp) (Ed : DXK) (t : DTA) : DTE := fun s R Q => t s R fun ds R1 => dsp ds R1 Q Ed
section
variable {X : CxF} {CX : CXT} {k : Nat} {f C : Addr} {fd : FuncData} {ps : List Str} {dsp : DSp} {x m : Str} {p pos apos : Pos} {e o : Expr} {es : List Expr} {t : DTA}
theorem LE.call {K : KF} {t0 : TA} {Ed : DXK} {E : XK} (h : LA K t0 t) (hx : ∀ G R H, K.Φ.p G R H → CBX ⟨K.F, .all⟩ G R H Ed E) : LE K (tCall (spOf K.F dsp) [] E t0) (dCall dsp Ed t) := fun G sd s R H Qd Q sv rh q k =>
  h G sd s R H _ _ sv rh q fun G1 R1 H1 ds vs e1 rh1 dv1 q1 => by
    rw [List.append_nil]
    exact ⟨G1, ds, R1, Qd, Ed, dv1, rh1.toAll, q1, (k.st e1).toAll rh1.φ, hx _ _ _ rh1.φ⟩
theorem de_call (F : FnG X.prog X.w X.K X.mg X.base CX k f fd ps (spOf X.K.F dsp)) (hgd : X.A.guards = some []) (hr : Room k X.A) (hg : Gl X x) (hm : X.mg x = some (.ref f)) (hk : PySem.W.keepIn X.K (.ref f) = true) (hb : Binds X.K fd ps []) (hx : Passes CX X E0)
    (ha : DA X (e :: es) t) (hdb : (x == ("__debug__" : Str)) = false := by decide) (he : starEach (e :: es) X.env = (false, eval e X.env) :: starEach es X.env := by rfl) (hpl : (backTo pos (starEach es X.env)).any (·.1) = false := by rfl) :
    DE X (.Call (.Name x p) (e :: es) [] pos) (dCall dsp Ed0 t) := by
  obtain ⟨t0, a1, a2⟩ := ha
  exact ⟨_, pe_callG F hgd hr hg hm hk hb .nil hx a1 hdb he hpl, LE.call a2 fun _ _ _ _ _ _ _ _ _ _ _ _ _ q => q.elim⟩
end

/-! ### methods of built-in types -/
def TyD (T : String) (d : D) (R : Rs) : Prop := match d with
  | .str _ => T = "str"
  | .int _ => T = "int"
  | .lst _ => T = "list"
  | .rls _ => T = "list"
  | .dK _ _ => T = "dict"
  | .dT _ _ => T = "dict"
  | .ref l => (T = "list" ∧ ∃ xs, R l = some (.lst xs)) ∨ (T = "dict" ∧ ((∃ kvs, R l = some (.dK kvs)) ∨ ∃ kvs, R l = some (.dT kvs)))
  | _ => False
theorem TyD.ty {K : KF} {G : Hp} {R : Rs} {H : Hp} {T : String} {d : D} {v : V} (h : TyD T d R) (rh : RepH K G R H) (dv : DV K G d v) : tyV K T v H := by
  cases dv with
  | non => exact h.elim
  | bl b => exact h.elim
  | ty n => exact h.elim
  | tup _ _ => exact h.elim
  | ins _ _ _ => exact h.elim
  | lam _ _ => exact h.elim
  | dK h1 h2 h3 => exact .inr (.inr (.inl ⟨h, .inl ⟨_, rh.g _ _ h1⟩⟩))
  | dT h1 h2 h3 => exact .inr (.inr (.inl ⟨h, .inr ⟨_, rh.g _ _ h1⟩⟩))
  | int i => exact h
  | str x => exact h
  | lst h1 h2 => exact .inl ⟨h, _, .inl (.inl (rh.g _ _ h1))⟩
  | rls h1 h2 => exact .inl ⟨h, _, SqL.same rh.g h1⟩
  | ref a =>
    rcases h with ⟨h, xs, q⟩ | ⟨h, q⟩
    · obtain ⟨vs, q1, _⟩ := rh.lst q
      exact .inl ⟨h, vs, .inl (.inl q1)⟩
    · refine .inr (.inr (.inl ⟨h, ?_⟩))
      rcases q with ⟨kvs, q⟩ | ⟨kvs, q⟩
      · obtain ⟨_, o, h2, vs, rfl, _⟩ := rh.r a _ q
        exact .inl ⟨_, h2⟩
      · obtain ⟨_, o, h2, vs, rfl, _⟩ := rh.r a _ q
        exact .inr ⟨_, h2⟩
def dBM0 (T : String) (r : D → List D → Rs → DK → Prop) (to : DTE) : DTE := fun s R Q => to s R fun d R1 => TyD T d R1 ∧ r d [] R1 Q
def dBM (T : String) (r : D → List D → Rs → DK → Prop) (to : DTE) (t : DTA) : DTE := fun s R Q => to s R fun d R1 => TyD T d R1 ∧ t s R1 fun ds R2 => r d ds R2 Q
section
variable {X : CxF} {o e : Expr} {es : List Expr} {to : DTE} {t : DTA} {name : Str} {apos cpos : Pos} {T id : String} {r : D → List D → Rs → DK → Prop}
theorem de_bm0 (pa : PlainAttrs T) (slot : Slot T name id) (hty : typeOf (.builtin id) = pure (.type "method_descriptor")) (hm : MtD X id r) (ho : DE X o to)
    (hbase : attributeBase o name X.env (eval o X.env) = eval o X.env := by rfl) (hline : (apos.endLine == cpos.line) = true := by rfl) : DE X (.Call (.Attribute o name apos) [] [] cpos) (dBM0 T r to) := by
  obtain ⟨r0, m1, m2⟩ := hm; obtain ⟨t0, a1, a2⟩ := ho
  exact ⟨_, pe_bm0 pa slot hty m1 a1 hbase hline, fun G sd s R H Qd Q sv rh q k => a2 G sd s R H _ _ sv rh q fun G1 R1 H1 d v e1 rh1 dv1 q1 => ⟨q1.1.ty rh1 dv1, m2 G1 R1 H1 v [] d [] _ _ rh1 dv1 .nil q1.2 (k.st e1)⟩⟩
theorem de_bm (pa : PlainAttrs T) (slot : Slot T name id) (hty : typeOf (.builtin id) = pure (.type "method_descriptor")) (hm : MtD X id r) (ho : DE X o to) (ha : DA X (e :: es) t)
    (hbase : attributeBase o name X.env (eval o X.env) = eval o X.env := by rfl)
    (hfew : ((backTo cpos (starEach (e :: es) X.env)).all (fun x => !x.1) && (backToKw cpos (keywordEach [] X.env)).all (fun x => x.1.isSome)
      && decide ((e :: es).length + ([] : List Keyword).length + (if ([] : List Keyword).isEmpty then 0 else 1) < 30)) = true := by rfl)
    (hline : (apos.endLine == cpos.line) = true := by rfl) (hs : starEach (e :: es) X.env = (false, eval e X.env) :: starEach es X.env := by rfl) (hplain : (backTo cpos (starEach es X.env)).any (·.1) = false := by rfl) :
    DE X (.Call (.Attribute o name apos) (e :: es) [] cpos) (dBM T r to t) := by
  obtain ⟨r0, m1, m2⟩ := hm; obtain ⟨t0, a1, a2⟩ := ho; obtain ⟨t1, b1, b2⟩ := ha
  exact ⟨_, pe_bm pa slot hty m1 a1 b1 hbase hfew hline hs hplain, fun G sd s R H Qd Q sv rh q k => a2 G sd s R H _ _ sv rh q fun G1 R1 H1 d v e1 rh1 dv1 q1 => ⟨q1.1.ty rh1 dv1, b2 G1 sd s R1 H1 _ _ (sv.st e1) rh1 q1.2 fun G2 R2 H2 ds vs e2 rh2 dv2 q2 =>
    m2 G2 R2 H2 v vs d ds _ _ rh2 (dv1.st e2) dv2 q2 (k.st (e1.trans e2))⟩⟩
end

/-! ### stores -/
abbrev DTSet := D → D → D → Rs → (Rs → Prop) → Prop
def LSet (K : KF) (t : TSet) (td : DTSet) : Prop := ∀ G R H o i v od idx vd Qd Q, RepH K G R H → DV K G od o → DV K G idx i → DV K G vd v → td od idx vd R Qd → (∀ G' R' H', Stp G R H G' R' H' → RepH K G' R' H' → Qd R' → Q H') → t o i v H Q
def DSet (X : CxF) (td : DTSet) : Prop := ∃ t, PSet X t ∧ LSet X.K t td
def dgSub (to ti : DTE) (t : DTSet) : DTG := fun d s R Q => to s R fun o R1 => ti s R1 fun i R2 => t o i d R2 fun R3 => Q s R3
section
variable {X : CxF} {o i : Expr} {to ti : DTE} {t : DTSet} {pos : Pos}
theorem dg_sub (ho : DE X o to) (hi : DE X i ti) (hs : DSet X t)
    (ha : ∀ v, assign (.Subscript o i pos) X.env v = (do
      let ov ← holding [v] (eval o X.env)
      let iv ← holding [v, ov] (eval i X.env)
      standAt pos
      holding [v, ov, iv] (setItem ov iv v)
      release [v, ov, iv] []) := by intro _; rfl) : DG X (.Subscript o i pos) (dgSub to ti t) := by
  obtain ⟨t0, o1, o2⟩ := ho; obtain ⟨t1, i1, i2⟩ := hi; obtain ⟨t2, s1, s2⟩ := hs
  exact ⟨_, pg_sub o1 i1 s1 ha, fun G sd s R H d v Qd Q sv rh dv q k => o2 G sd s R H _ _ sv rh q fun G1 R1 H1 d1 v1 e1 rh1 dv1 q1 => i2 G1 sd s R1 H1 _ _ (sv.st e1) rh1 q1 fun G2 R2 H2 d2 v2 e2 rh2 dv2 q2 =>
    s2 G2 R2 H2 _ _ _ _ _ _ _ _ rh2 (dv1.st e2) dv2 ((dv.st e1).st e2) q2 fun G3 R3 H3 e3 rh3 q3 => k G3 sd s R3 H3 (e1.trans (e2.trans e3)) (((sv.st e1).st e2).st e3) rh3 q3⟩
/-- l[i] = v -/
def rdSetL : DTSet := fun o i v R Q => ∃ l ds k j, o = .ref l ∧ i = .int k ∧ R l = some (.lst ds) ∧ ixN ds.length k = some j ∧ Q (put R l (.lst (ds.set j v)))
theorem dset_list : DSet X rdSetL := by
  refine ⟨_, set_list, fun G R H o i v od idx vd Qd Q rh do_ di dv q k => ?_⟩
  obtain ⟨l, ds, n, j, rfl, rfl, hl, hj, q⟩ := q
  cases do_; cases di
  obtain ⟨vs, h1, h2⟩ := rh.lst hl
  refine ⟨l, vs, n, j, rfl, rfl, h1, by rw [← h2.length]; exact hj, ?_⟩
  obtain ⟨s1, rh1⟩ := rh.chg (ro := .lst (ds.set j vd)) (o := .lst (vs.set j v)) hl ⟨_, rfl, h2.set dv j⟩
  exact k G _ _ s1 rh1 q
end

/-! ### two names at once -/
def dPar (i j : Nat) (ta : DTA) : DTS := fun D s R => ta s R fun ds R1 => ∃ x y, ds = [x, y] ∧ D.nx ((s.set i (some x)).set j (some y)) R1
section
variable {X : CxF} {pos : Pos}
theorem ds_par {i j : Nat} {x y : Str} {a b : Expr} {ta : DTA} {px py pt : Pos} {kt k2 pt2} (hc : X.calm = true) (hN : X.N.Nodup) (hi : X.N[i]? = some x) (hj : X.N[j]? = some y) (hij : i ≠ j)
    (hx : X.env.scope.names.lookup x = some .local) (hy : X.env.scope.names.lookup y = some .local) (ha : DA X [a, b] ta)
    (hw : swappedStores [.Tuple [.Name x px, .Name y py] kt pt] (.Tuple [a, b] k2 pt2) X.env = pure (some [x, y]))
    (hs : swapsWithSole [.Tuple [.Name x px, .Name y py] kt pt] (.Tuple [a, b] k2 pt2) pos.line X.env = pure false := by rfl) :
    DS X (.Assign [.Tuple [.Name x px, .Name y py] kt pt] (.Tuple [a, b] k2 pt2) pos) (dPar i j ta) := by
  obtain ⟨t0, a1, a2⟩ := ha
  refine ⟨_, ps_par hc hN hi hj hij hx hy a1 hw hs, fun G sd s R H Ed E sv rh q k => a2 G sd s R H _ _ sv rh q fun G1 R1 H1 ds vs e1 rh1 dv1 q1 => ?_⟩
  obtain ⟨u, v, rfl, q2⟩ := q1
  cases dv1 with
  | cons d1 r =>
    cases r with
    | cons d2 r => cases r; exact ⟨_, _, rfl, k.nx G1 _ _ R1 H1 e1 (((sv.st e1).set i d1).set j d2) rh1 q2⟩
end
end DL
end
section
set_option Elab.async false
set_option maxRecDepth 100000
set_option linter.all false
set_option autoImplicit false
/-! DL5: operations on values -/
namespace DL
open PySem PySem.Spec PyProof.Rows L2
variable [TabCtx]

section
variable {X : CxF}
/-! ### ints -/
def rdI (C : Int → Int → Prop) (g : Int → Int → D) : DR2 := fun x y R Q => ∃ i j, x = .int i ∧ y = .int j ∧ C i j ∧ Q (g i j) R
def rdI0 (g : Int → Int → D) : DR2 := fun x y R Q => ∃ i j, x = .int i ∧ y = .int j ∧ Q (g i j) R
theorem LR2.i {K : KF} {C : Int → Int → Prop} {g : Int → Int → V} {gd : Int → Int → D} (h : ∀ G i j, DV K G (gd i j) (g i j)) : LR2 K (rI C g) (rdI C gd) := fun G R H x y xd yd Qd Q rh dx dy ⟨i, j, hx, hy, c, q⟩ k => by
  subst hx; subst hy; cases dx; cases dy
  exact ⟨i, j, rfl, rfl, c, k G R H _ _ (Stp.refl _ _ _) rh (h G i j) q⟩
theorem LR2.i0 {K : KF} {g : Int → Int → V} {gd : Int → Int → D} (h : ∀ G i j, DV K G (gd i j) (g i j)) : LR2 K (rI0 g) (rdI0 gd) := fun G R H x y xd yd Qd Q rh dx dy ⟨i, j, hx, hy, q⟩ k => by
  subst hx; subst hy; cases dx; cases dy
  exact ⟨i, j, rfl, rfl, k G R H _ _ (Stp.refl _ _ _) rh (h G i j) q⟩
theorem od_add : OpD X (binaryOp .Add) (rdI0 fun i j => .int (i + j)) := ⟨_, op_add, LR2.i0 fun _ _ _ => .int _⟩
theorem od_sub : OpD X (binaryOp .Sub) (rdI0 fun i j => .int (i - j)) := ⟨_, op_sub, LR2.i0 fun _ _ _ => .int _⟩
theorem od_mul : OpD X (binaryOp .Mult) (rdI CMul fun i j => .int (i * j)) := ⟨_, op_mul, LR2.i fun _ _ _ => .int _⟩
theorem od_fdiv : OpD X (binaryOp .FloorDiv) (rdI CDiv fun i j => .int (i / j)) := ⟨_, op_fdiv, LR2.i fun _ _ _ => .int _⟩
theorem od_mod : OpD X (binaryOp .Mod) (rdI (fun _ j => 0 < j) fun i j => .int (i % j)) := ⟨_, op_mod, LR2.i fun _ _ _ => .int _⟩
theorem od_pow : OpD X (binaryOp .Pow) (rdI CPow fun i j => .int (i ^ j.toNat)) := ⟨_, op_pow, LR2.i fun _ _ _ => .int _⟩
theorem od_lt : OpD X (compareOp .Lt) (rdI0 fun i j => .bl (decide (i < j))) := ⟨_, op_lt, LR2.i0 fun _ _ _ => .bl _⟩
theorem od_le : OpD X (compareOp .LtE) (rdI0 fun i j => .bl (decide (i ≤ j))) := ⟨_, op_le, LR2.i0 fun _ _ _ => .bl _⟩
theorem od_gt : OpD X (compareOp .Gt) (rdI0 fun i j => .bl (decide (j < i))) := ⟨_, op_gt, LR2.i0 fun _ _ _ => .bl _⟩
theorem od_ge : OpD X (compareOp .GtE) (rdI0 fun i j => .bl (decide (j ≤ i))) := ⟨_, op_ge, LR2.i0 fun _ _ _ => .bl _⟩
/-! ### texts -/
theorem od_adds : OpD X (binaryOp .Add) (fun x y R Q => ∃ a b, x = .str a ∧ y = .str b ∧ a.length + b.length ≤ sizeLine ∧ Q (.str (a ++ b)) R) := ⟨_, op_add_str, fun G R H x y xd yd Qd Q rh dx dy ⟨i, j, hx, hy, c, q⟩ k => by
  subst hx; subst hy; cases dx; cases dy
  exact ⟨i, j, rfl, rfl, c, k G R H _ _ (Stp.refl _ _ _) rh (.str _) q⟩⟩
/-! ### equality of scalars -/
def D.sc : D → Option V
  | .non => some .non
  | .bl b => some (.bl b)
  | .int i => some (.int i)
  | .str x => some (.str x)
  | _ => none
theorem DV.sc {K : PySem.W.Frag} {G : Hp} {d : D} {v u : V} (h : DV K G d v) (e : d.sc = some u) : v = u := by
  cases h <;> first | (cases e; rfl) | cases e
def rdEqS (neg : Bool) : DR2 := fun x y R Q => ∃ u v, x.sc = some u ∧ y.sc = some v ∧ scal u v = true ∧ Q (.bl (if neg then !decide (u = v) else decide (u = v))) R
theorem od_eqS : OpD X (compareOp .Eq) (rdEqS false) := ⟨_, op_eq, fun G R H x y xd yd Qd Q rh dx dy ⟨u, v, hx, hy, c, q⟩ k => by
  rw [dx.sc hx, dy.sc hy]
  exact ⟨c, k G R H _ _ (Stp.refl _ _ _) rh (.bl _) q⟩⟩
theorem od_neS : OpD X (compareOp .NotEq) (rdEqS true) := ⟨_, op_ne, fun G R H x y xd yd Qd Q rh dx dy ⟨u, v, hx, hy, c, q⟩ k => by
  rw [dx.sc hx, dy.sc hy]
  exact ⟨c, k G R H _ _ (Stp.refl _ _ _) rh (.bl _) q⟩⟩
/-! ### is None -/
def D.isNon : D → Bool
  | .non => true
  | _ => false
theorem DV.isNon {K : PySem.W.Frag} {G : Hp} {d : D} {v : V} (h : DV K G d v) : decide (v = .non) = d.isNon := by
  cases h <;> rfl
theorem od_isN : OpD X (compareOp .Is) (fun x y R Q => y = .non ∧ Q (.bl x.isNon) R) := ⟨_, op_isN, fun G R H x y xd yd Qd Q rh dx dy ⟨hy, q⟩ k => by
  subst hy; cases dy
  exact ⟨rfl, by rw [dx.isNon]; exact k G R H _ _ (Stp.refl _ _ _) rh (.bl _) q⟩⟩
theorem od_notN : OpD X (compareOp .IsNot) (fun x y R Q => y = .non ∧ Q (.bl (!x.isNon)) R) := ⟨_, op_notN, fun G R H x y xd yd Qd Q rh dx dy ⟨hy, q⟩ k => by
  subst hy; cases dy
  exact ⟨rfl, by rw [dx.isNon]; exact k G R H _ _ (Stp.refl _ _ _) rh (.bl _) q⟩⟩

/-! ### data: equality, membership, repr -/
/-- d may be read as the data p -/
def AsPy (R : Rs) (d : D) (p : PyData) : Prop := (d.plain = true ∧ p = d.py) ∨ ∃ l ds, d = .ref l ∧ R l = some (.lst ds) ∧ D.plains ds = true ∧ p = .list (D.pys ds)
theorem AsPy.dp {K : KF} {G : Hp} {R : Rs} {H : Hp} {d : D} {p : PyData} {v : V} (h : AsPy R d p) (rh : RepH K G R H) (dv : DV K G d v) : Dp K H v p := by
  rcases h with ⟨h, rfl⟩ | ⟨l, ds, rfl, hl, hp, rfl⟩
  · exact Dp.same rh.g (dv.dp h)
  · cases dv
    obtain ⟨vs, h1, h2⟩ := rh.lst hl
    exact .lst (.inl (.inl h1)) (DpAll.same rh.g (h2.dp hp))
def rdEqD (neg : Bool) : DR2 := fun x y R Q => ∃ p q, AsPy R x p ∧ AsPy R y q ∧ SeqAt.shaped p = true ∧ SeqAt.shaped q = true ∧ Q (.bl (if neg then !PyData.eqv p q else PyData.eqv p q)) R
theorem od_eqD (hu : X.A.units + 64 < cLine) : OpD X (compareOp .Eq) (rdEqD false) := ⟨_, op_eqD hu, fun G R H x y xd yd Qd Q rh dx dy ⟨p, q, hp, hq, sp, sq, z⟩ k =>
  ⟨p, q, hp.dp rh dx, hq.dp rh dy, sp, sq, k G R H _ _ (Stp.refl _ _ _) rh (.bl _) z⟩⟩
theorem od_neD (hu : X.A.units + 64 < cLine) : OpD X (compareOp .NotEq) (rdEqD true) := ⟨_, op_neD hu, fun G R H x y xd yd Qd Q rh dx dy ⟨p, q, hp, hq, sp, sq, z⟩ k =>
  ⟨p, q, hp.dp rh dx, hq.dp rh dy, sp, sq, k G R H _ _ (Stp.refl _ _ _) rh (.bl _) z⟩⟩
def rdInD (neg : Bool) : DR2 := fun x y R Q => ∃ p qs, AsPy R x p ∧ AsPy R y (.list qs) ∧ SeqAt.shaped p = true ∧ SeqAt.shaped (.list qs) = true ∧ Q (.bl (if neg then !(qs.any fun z => PyData.eqv z p) else qs.any fun z => PyData.eqv z p)) R
theorem od_inD (hu : X.A.units + 65 < cLine) : OpD X (compareOp .In) (rdInD false) := ⟨_, op_inD hu, fun G R H x y xd yd Qd Q rh dx dy ⟨p, q, hp, hq, sp, sq, z⟩ k =>
  ⟨p, q, hp.dp rh dx, hq.dp rh dy, sp, sq, k G R H _ _ (Stp.refl _ _ _) rh (.bl _) z⟩⟩
theorem od_notInD (hu : X.A.units + 65 < cLine) : OpD X (compareOp .NotIn) (rdInD true) := ⟨_, op_notInD hu, fun G R H x y xd yd Qd Q rh dx dy ⟨p, q, hp, hq, sp, sq, z⟩ k =>
  ⟨p, q, hp.dp rh dx, hq.dp rh dy, sp, sq, k G R H _ _ (Stp.refl _ _ _) rh (.bl _) z⟩⟩

/-! ### built-in functions -/
def rd1 (g : D → Rs → DK → Prop) : List D → Rs → DK → Prop := fun ds R Q => match ds with
  | [d] => g d R Q
  | _ => False
theorem cd_abs : CallD X (.builtin "abs") (fun ds R Q => ∃ i, ds = [.int i] ∧ Q (.int (if i < 0 then -i else i)) R) := ⟨_, call_abs, fun G R H xs ds Qd Q rh dv ⟨i, hx, q⟩ k => by
  subst hx
  cases dv with
  | cons a b => cases a; cases b; exact ⟨i, rfl, k G R H _ _ (Stp.refl _ _ _) rh (.int _) q⟩⟩
theorem cd_max2 (hc : X.calm = true) : CallD X (.builtin "max") (fun ds R Q => ∃ i j, ds = [.int i, .int j] ∧ Q (.int (if j > i then j else i)) R) := ⟨_, call_max2 hc, fun G R H xs ds Qd Q rh dv ⟨i, j, hx, q⟩ k => by
  subst hx
  cases dv with
  | cons a b =>
    cases b with
    | cons b c => cases a; cases b; cases c; exact ⟨i, j, rfl, k G R H _ _ (Stp.refl _ _ _) rh (.int _) q⟩⟩
theorem cd_min2 (hc : X.calm = true) : CallD X (.builtin "min") (fun ds R Q => ∃ i j, ds = [.int i, .int j] ∧ Q (.int (if j < i then j else i)) R) := ⟨_, call_min2 hc, fun G R H xs ds Qd Q rh dv ⟨i, j, hx, q⟩ k => by
  subst hx
  cases dv with
  | cons a b =>
    cases b with
    | cons b c => cases a; cases b; cases c; exact ⟨i, j, rfl, k G R H _ _ (Stp.refl _ _ _) rh (.int _) q⟩⟩
theorem cd_intB : CallD X (.type "int") (fun ds R Q => ∃ b, ds = [.bl b] ∧ Q (.int (if b = true then 1 else 0)) R) := ⟨_, call_int1, fun G R H xs ds Qd Q rh dv ⟨i, hx, q⟩ k => by
  subst hx
  cases dv with
  | cons a b => cases a; cases b; exact .inr ⟨i, rfl, k G R H _ _ (Stp.refl _ _ _) rh (.int _) q⟩⟩
theorem seqOf_ref {R : Rs} {l : Addr} {xs : List D} (h : seqOf R (.ref l) = some xs) : R l = some (.lst xs) := by
  unfold seqOf at h
  cases e : R l with
  | none => simp [e] at h
  | some o => cases o <;> simp [e] at h; subst h; rfl
theorem seqOf_lst {R : Rs} {l : Addr} {xs : List D} (h : R l = some (.lst xs)) : seqOf R (.ref l) = some xs := by
  unfold seqOf
  simp [h]
theorem seq_dv {K : KF} {G : Hp} {R : Rs} {H : Hp} {d : D} {v : V} {xs : List D} (h : seqOf R d = some xs) (rh : RepH K G R H) (dv : DV K G d v) : ∃ a vs, v = .ref a ∧ (SqL K H a vs ∨ SqT K H a vs) ∧ DVs K G xs vs := by
  cases dv with
  | tup h1 h2 => cases h; exact ⟨_, _, rfl, .inr (SqT.same rh.g h1), h2⟩
  | lst h1 h2 => cases h; exact ⟨_, _, rfl, .inl (.inl (.inl (rh.g _ _ h1))), h2⟩
  | rls h1 h2 => cases h; exact ⟨_, _, rfl, .inl (SqL.same rh.g h1), h2⟩
  | ref l =>
    obtain ⟨vs, h1, h2⟩ := rh.lst (seqOf_ref h)
    exact ⟨_, _, rfl, .inl (.inl (.inl h1)), h2⟩
  | non => cases h
  | bl _ => cases h
  | int _ => cases h
  | str _ => cases h
  | ty _ => cases h
  | ins _ _ _ => cases h
  | dK _ _ _ => cases h
  | dT _ _ _ => cases h
  | lam _ _ => cases h
theorem LRA.one {K : KF} {r : List V → Hp → VK → Prop} {g : D → Rs → DK → Prop} (h : ∀ G R H d v Qd Q, RepH K G R H → DV K G d v → g d R Qd → CB K G R H Qd Q → r [v] H Q) : LRA K r (rd1 g) := fun G R H xs ds Qd Q rh dv q k => by
  cases dv with
  | nil => exact q.elim
  | cons a b =>
    cases b with
    | cons _ _ => exact q.elim
    | nil => exact h G R H _ _ Qd Q rh a q k
/-- len of a list or tuple -/
theorem cd_len : CallD X (.builtin "len") (rd1 fun d R Q => ∃ xs, seqOf R d = some xs ∧ Q (.int xs.length) R) := ⟨_, call_len_seq, LRA.one fun G R H d v Qd Q rh dv ⟨xs, hx, q⟩ k => by
  obtain ⟨a, vs, rfl, hs, h2⟩ := seq_dv hx rh dv
  have fin := k G R H _ _ (Stp.refl _ _ _) rh (.int _) q
  rw [h2.length] at fin
  exact ⟨a, vs, rfl, hs, fin⟩⟩
theorem cd_lenS : CallD X (.builtin "len") (rd1 fun d R Q => ∃ x, d = .str x ∧ x.length ≤ sizeLine ∧ Q (.int x.length) R) := ⟨_, call_len_str, LRA.one fun G R H d v Qd Q rh dv ⟨x, hx, hz, q⟩ k => by
  subst hx; cases dv
  exact ⟨x, rfl, hz, k G R H _ _ (Stp.refl _ _ _) rh (.int _) q⟩⟩
/-- tuple(list), tuple(tuple) -/
theorem cd_tuple : CallD X (.type "tuple") (rd1 fun d R Q => ∃ xs, seqOf R d = some xs ∧ Q (.tup xs) R) := ⟨_, call_tuple_of, LRA.one fun G R H d v Qd Q rh dv ⟨xs, hx, q⟩ k => by
  have main : ∀ a vs, v = .ref a → SqL X.K H a vs → DVs X.K G xs vs → ∃ p ys, [v] = [.ref p] ∧ ((SqL X.K H p ys ∧ ∀ l, H l = none → Q (.ref l) (upd H l (.tup ys))) ∨ (SqT X.K H p ys ∧ Q (.ref p) H)) := fun a vs e hs h2 => by
    subst e
    refine ⟨a, vs, rfl, .inl ⟨hs, fun l hl => ?_⟩⟩
    obtain ⟨s1, rh2⟩ := rh.imm (o := .tup vs) hl
    exact k _ R _ _ _ s1 rh2 (.tup (.inl (.inl upd_same)) (h2.st s1)) q
  cases dv with
  | tup h1 h3 => cases hx; exact ⟨_, _, rfl, .inr ⟨SqT.same rh.g h1, k G R H _ _ (Stp.refl _ _ _) rh (.tup h1 h3) q⟩⟩
  | lst h1 h3 => cases hx; exact main _ _ rfl (.inl (.inl (rh.g _ _ h1))) h3
  | rls h1 h3 => cases hx; exact main _ _ rfl (SqL.same rh.g h1) h3
  | ref l =>
    obtain ⟨vs, h1, h2⟩ := rh.lst (seqOf_ref hx)
    exact main _ _ rfl (.inl (.inl h1)) h2
  | non => cases hx
  | bl _ => cases hx
  | int _ => cases hx
  | str _ => cases hx
  | ty _ => cases hx
  | ins _ _ _ => cases hx
  | dK _ _ _ => cases hx
  | dT _ _ _ => cases hx
  | lam _ _ => cases hx⟩
/-- list(list), list(tuple): new; one that may change, one that never does -/
theorem cd_list : CallD X (.type "list") (rd1 fun d R Q => ∃ xs, seqOf R d = some xs ∧ ∀ p, R p = none → Q (.ref p) (put R p (.lst xs))) := ⟨_, call_list_of, LRA.one fun G R H d v Qd Q rh dv ⟨xs, hx, q⟩ k => by
  obtain ⟨a, vs, rfl, hs, h2⟩ := seq_dv hx rh dv
  refine ⟨a, vs, rfl, hs, fun l hl => ?_⟩
  obtain ⟨s1, rh2⟩ := rh.new (ro := .lst xs) (o := .lst vs) hl ⟨_, rfl, h2⟩
  exact k _ _ _ _ _ s1 rh2 (.ref _) (q l (rh.free hl))⟩
theorem cd_listF : CallD X (.type "list") (rd1 fun d R Q => ∃ xs, seqOf R d = some xs ∧ Q (.lst xs) R) := ⟨_, call_list_of, LRA.one fun G R H d v Qd Q rh dv ⟨xs, hx, q⟩ k => by
  obtain ⟨a, vs, rfl, hs, h2⟩ := seq_dv hx rh dv
  refine ⟨a, vs, rfl, hs, fun l hl => ?_⟩
  obtain ⟨s1, rh2⟩ := rh.imm (o := .lst vs) hl
  exact k _ R _ _ _ s1 rh2 (.lst upd_same (h2.st s1)) q⟩
/-- sorted of texts: a new list that never changes, or one that may -/
theorem cd_sortedS : CallD X (.builtin "sorted") (rd1 fun d R Q => ∃ xs : List Str, (d = .lst (xs.map D.str) ∨ ∃ l, d = .ref l ∧ R l = some (.lst (xs.map D.str))) ∧ xs.length < 64 ∧ ∀ ys : List Str, ys.Perm xs → sortedS ys = true → Q (.lst (ys.map D.str)) R) :=
  ⟨_, cr_sortedS, LRA.one fun G R H d v Qd Q rh dv ⟨xs, hx, hl, q⟩ k => by
  have : ∃ a, v = .ref a ∧ SqL X.K H a (xs.map V.str) := by
    rcases hx with rfl | ⟨l, rfl, hl⟩
    · cases dv with
      | lst h1 h2 => rw [h2.strs] at h1; exact ⟨_, rfl, .inl (.inl (rh.g _ _ h1))⟩
    · cases dv
      obtain ⟨vs, h1, h2⟩ := rh.lst hl
      rw [h2.strs] at h1
      exact ⟨_, rfl, .inl (.inl h1)⟩
  obtain ⟨a, rfl, hs⟩ := this
  refine ⟨a, xs, rfl, hs, hl, fun ys p hp hso hn => ?_⟩
  obtain ⟨s1, rh2⟩ := rh.imm (o := .lst (ys.map V.str)) hn
  exact k _ R _ _ _ s1 rh2 (.lst upd_same (DVs.ofStrs ys)) (q ys hp hso)⟩
theorem cd_any (hc : X.calm = true) : CallD X (.builtin "any") (rd1 fun d R Q => ∃ xs : List Bool, d = .lst (xs.map D.bl) ∧ Q (.bl (xs.any id)) R) := ⟨_, cr_any hc, LRA.one fun G R H d v Qd Q rh dv ⟨xs, hx, q⟩ k => by
  subst hx
  cases dv with
  | lst h1 h2 => rw [h2.bls] at h1; exact ⟨_, xs, rfl, .inl (.inl (rh.g _ _ h1)), k G R H _ _ (Stp.refl _ _ _) rh (.bl _) q⟩⟩
theorem cd_all (hc : X.calm = true) : CallD X (.builtin "all") (rd1 fun d R Q => ∃ xs : List Bool, d = .lst (xs.map D.bl) ∧ Q (.bl (xs.all id)) R) := ⟨_, cr_all hc, LRA.one fun G R H d v Qd Q rh dv ⟨xs, hx, q⟩ k => by
  subst hx
  cases dv with
  | lst h1 h2 => rw [h2.bls] at h1; exact ⟨_, xs, rfl, .inl (.inl (rh.g _ _ h1)), k G R H _ _ (Stp.refl _ _ _) rh (.bl _) q⟩⟩

/-! ### isinstance of a built-in class -/
def D.tyName (R : Rs) : D → Option String
  | .non => some "NoneType"
  | .bl _ => some "bool"
  | .int _ => some "int"
  | .str _ => some "str"
  | .tup _ => some "tuple"
  | .lst _ => some "list"
  | .rls _ => some "list"
  | .dK _ _ => some "dict"
  | .dT _ _ => some "dict"
  | .ref l => match R l with
    | some (.lst _) => some "list"
    | some (.dK _) => some "dict"
    | some (.dT _) => some "dict"
    | _ => none
  | _ => none
theorem tyX_of {K : KF} {G : Hp} {R : Rs} {H : Hp} {d : D} {v : V} {T : String} (h : d.tyName R = some T) (rh : RepH K G R H) (dv : DV K G d v) : TyX K H v (.type T) := by
  cases dv with
  | non => cases h; exact .base .non
  | bl b => cases h; exact .base (.bl b)
  | int i => cases h; exact .base (.int i)
  | str x => cases h; exact .base (.str x)
  | ty n => cases h
  | ins _ _ _ => cases h
  | lam _ _ => cases h
  | dK h1 _ _ => cases h; exact .base (.dK (rh.g _ _ h1))
  | dT h1 _ _ => cases h; exact .base (.dT (rh.g _ _ h1))
  | tup h1 h2 =>
    cases h
    rcases SqT.same rh.g h1 with (h | ⟨o, h⟩) | ⟨o, its, n, h, hc, _⟩
    · exact .base (.tup h)
    · exact .fTuple h
    · exact .kTuple h hc
  | lst h1 h2 => cases h; exact .base (.lst (rh.g _ _ h1))
  | rls h1 h2 =>
    cases h
    rcases SqL.same rh.g h1 with (h | ⟨o, h⟩) | ⟨o, its, n, h, hc, _⟩
    · exact .base (.lst h)
    · exact .base (.frz h)
    · exact .kList h hc
  | ref l =>
    unfold D.tyName at h
    cases e : R l with
    | none => simp [e] at h
    | some ro =>
      obtain ⟨_, o, h2, h3⟩ := rh.r l _ e
      cases ro <;> simp [e] at h <;> subst h
      · obtain ⟨vs, rfl, _⟩ := h3; exact .base (.lst h2)
      · obtain ⟨vs, rfl, _⟩ := h3; exact .base (.dK h2)
      · obtain ⟨vs, rfl, _⟩ := h3; exact .base (.dT h2)
/-- isinstance(x, T) -/
def rdIsi (isa : String → String → Option Bool) : List D → Rs → DK → Prop := fun ds R Q => match ds with
  | [d, .ty T] => ∃ S b, d.tyName R = some S ∧ isa S T = some b ∧ Q (.bl b) R
  | _ => False
theorem cd_isi : CallD X (.builtin "isinstance") (rdIsi kitB) := ⟨_, call_isi, fun G R H xs ds Qd Q rh dv q k => by
  cases dv with
  | nil => exact q.elim
  | @cons d1 ds1 v1 vs1 a b =>
    cases b with
    | nil => exact q.elim
    | @cons d2 ds2 v2 vs2 b c =>
      cases c with
      | cons _ _ => cases d2 <;> exact q.elim
      | nil =>
        cases b with
        | ty T =>
          obtain ⟨S, z, h1, h2, q⟩ := q
          exact ⟨_, _, .type S, .type T, z, rfl, .ty T, tyX_of h1 rh a, kit_ty h2, k G R H _ _ (Stp.refl _ _ _) rh (.bl _) q⟩
        | _ => exact q.elim⟩

/-! ### subscripts -/
theorem atI_dv {K : PySem.W.Frag} {G : Hp} {xs : List D} {vs : List V} {i : Int} {d : D} (h : DVs K G xs vs) (e : atI xs i = some d) : ∃ v, atI vs i = some v ∧ DV K G d v := by
  unfold atI at e ⊢
  rw [h.length] at e
  cases z : ixN vs.length i with
  | none => rw [z] at e; cases e
  | some j => rw [z] at e; exact h.get e
theorem xd_seq : IxD X (fun x y R Q => ∃ xs i d, seqOf R x = some xs ∧ y = .int i ∧ atI xs i = some d ∧ Q d R) := ⟨_, ix_seq, fun G R H x y xd yd Qd Q rh dx dy ⟨xs, i, d, hx, hy, hd, q⟩ k => by
  subst hy; cases dy
  obtain ⟨a, vs, rfl, hs, h2⟩ := seq_dv hx rh dx
  obtain ⟨v, h3, h4⟩ := atI_dv h2 hd
  have fin := k G R H _ _ (Stp.refl _ _ _) rh h4 q
  rcases hs with hs | hs
  · exact .inl ⟨a, vs, i, v, rfl, rfl, hs, h3, fin⟩
  · exact .inr (.inl ⟨a, vs, i, v, rfl, rfl, hs, h3, fin⟩)⟩
theorem xd_str : IxD X (fun x y R Q => ∃ z i c, x = .str z ∧ y = .int i ∧ z.length ≤ sizeLine ∧ atI z.cps.toList i = some c ∧ Q (.str ⟨#[c]⟩) R) := ⟨_, ix_str, fun G R H x y xd yd Qd Q rh dx dy ⟨z, i, c, hx, hy, hz, hd, q⟩ k => by
  subst hx; subst hy; cases dx; cases dy
  exact ⟨z, i, c, rfl, rfl, hz, hd, k G R H _ _ (Stp.refl _ _ _) rh (.str _) q⟩⟩
/-! ### slices -/
def cutD (xs : List D) (lo hi : Option Int) : List D := (xs.drop (HT.sIx xs.length 0 lo)).take (HT.sIx xs.length xs.length hi - HT.sIx xs.length 0 lo)
theorem cut_dv {K : PySem.W.Frag} {G : Hp} {xs : List D} {vs : List V} {lo hi : Option Int} (h : DVs K G xs vs) : DVs K G (cutD xs lo hi) (cutV vs lo hi) := by
  unfold cutD cutV
  rw [h.length]
  exact (h.drop _).take _
theorem cutD_whole {xs : List D} {lo hi : Option Int} (h1 : HT.sIx xs.length 0 lo = 0) (h2 : HT.sIx xs.length xs.length hi = xs.length) : cutD xs lo hi = xs := by
  unfold cutD
  rw [h1, h2]
  simp
theorem sd_tup : SlD X (fun x lo hi R Q => ∃ xs, x = .tup xs ∧ Q (.tup (cutD xs lo hi)) R) := ⟨_, sl_tupA, fun G R H x d lo hi Qd Q rh dv ⟨xs, hx, q⟩ k => by
  subst hx
  cases dv with
  | @tup a vs _ h1 h2 =>
    refine ⟨a, vs, rfl, SqT.same rh.g h1, fun ⟨z1, z2⟩ => ?_, fun _ p hp => ?_⟩
    · rw [← h2.length] at z1 z2
      rw [cutD_whole z1 z2] at q
      exact k G R H _ _ (Stp.refl _ _ _) rh (.tup h1 h2) q
    · obtain ⟨s1, rh2⟩ := rh.imm (o := .tup (cutV vs lo hi)) hp
      exact k _ R _ _ _ s1 rh2 (.tup (.inl (.inl upd_same)) ((cut_dv h2).st s1)) q⟩
theorem sd_lstF : SlD X (fun x lo hi R Q => ∃ xs, seqOf R x = some xs ∧ (∀ ys, x ≠ .tup ys) ∧ Q (.lst (cutD xs lo hi)) R) := ⟨_, sl_list, fun G R H x d lo hi Qd Q rh dv ⟨xs, hx, hn, q⟩ k => by
  have : ∃ a vs, x = .ref a ∧ SqL X.K H a vs ∧ DVs X.K G xs vs := by
    cases dv with
    | tup h1 h2 => exact absurd rfl (hn _)
    | lst h1 h2 => cases hx; exact ⟨_, _, rfl, .inl (.inl (rh.g _ _ h1)), h2⟩
    | rls h1 h2 => cases hx; exact ⟨_, _, rfl, SqL.same rh.g h1, h2⟩
    | ref l => obtain ⟨vs, h1, h2⟩ := rh.lst (seqOf_ref hx); exact ⟨_, _, rfl, .inl (.inl h1), h2⟩
    | _ => cases hx
  obtain ⟨a, vs, rfl, hs, h2⟩ := this
  refine ⟨a, vs, rfl, hs, fun p hp => ?_⟩
  obtain ⟨s1, rh2⟩ := rh.imm (o := .lst (cutV vs lo hi)) hp
  exact k _ R _ _ _ s1 rh2 (.lst upd_same ((cut_dv h2).st s1)) q⟩
theorem sd_str : SlD X (fun x lo hi R Q => ∃ z, x = .str z ∧ z.length ≤ sizeLine ∧ Q (.str (cutS z lo hi)) R) := ⟨_, sl_str, fun G R H x d lo hi Qd Q rh dv ⟨z, hx, hz, q⟩ k => by
  subst hx; cases dv
  exact ⟨z, rfl, hz, k G R H _ _ (Stp.refl _ _ _) rh (.str _) q⟩⟩

/-! ### methods of lists -/
theorem md_append : MtD X "list.append" (fun x ds R Q => ∃ l xs y, x = .ref l ∧ ds = [y] ∧ R l = some (.lst xs) ∧ xs.length < sizeLine ∧ Q .non (put R l (.lst (xs ++ [y])))) := ⟨_, mt_append, fun G R H x vs d ds Qd Q rh dv dvs ⟨l, xs, y, hx, hy, hl, hz, q⟩ k => by
  subst hx; subst hy; cases dv
  cases dvs with
  | cons a b =>
    cases b
    obtain ⟨us, h1, h2⟩ := rh.lst hl
    obtain ⟨s1, rh2⟩ := rh.chg (ro := .lst (xs ++ [y])) (o := .lst (us ++ [_])) hl ⟨_, rfl, h2.append (.cons a .nil)⟩
    exact ⟨l, us, _, rfl, rfl, h1, by rw [← h2.length]; exact hz, k _ _ _ _ _ s1 rh2 .non q⟩⟩
theorem md_pop : MtD X "list.pop" (fun x ds R Q => ∃ l xs y, x = .ref l ∧ ds = [] ∧ R l = some (.lst (xs ++ [y])) ∧ Q y (put R l (.lst xs))) := ⟨_, mt_pop, fun G R H x vs d ds Qd Q rh dv dvs ⟨l, xs, y, hx, hy, hl, q⟩ k => by
  subst hx; subst hy; cases dv; cases dvs
  obtain ⟨us, h1, h2⟩ := rh.lst hl
  have hlen := h2.length
  have hy : (xs ++ [y])[us.length - 1]? = some y := by
    rw [← hlen]; simp
  obtain ⟨v, hv, dv⟩ := h2.get hy
  have h3 := h2.dropLast
  rw [List.dropLast_concat] at h3
  obtain ⟨s1, rh2⟩ := rh.chg (ro := .lst xs) (o := .lst us.dropLast) hl ⟨_, rfl, h3⟩
  exact ⟨l, us, v, rfl, rfl, h1, hv, k _ _ _ _ _ s1 rh2 dv q⟩⟩
end
end DL
end
section
set_option Elab.async false
set_option maxRecDepth 100000
set_option linter.all false
set_option autoImplicit false
/-! DL6: operations that the hand layer has no rule for -/
namespace DL
open PySem PySem.Spec PyProof.Rows L2
variable [TabCtx]

section
variable {X : CxF}
/-! ### a list or tuple against the empty one -/
/-- one of kind list: its items -/
def lstOf (R : Rs) : D → Option (List D)
  | .lst xs => some xs
  | .rls xs => some xs
  | .ref l => match R l with
    | some (.lst xs) => some xs
    | _ => none
  | _ => none
theorem lst_dv {K : KF} {G : Hp} {R : Rs} {H : Hp} {d : D} {v : V} {xs : List D} (h : lstOf R d = some xs) (rh : RepH K G R H) (dv : DV K G d v) : ∃ a vs, v = .ref a ∧ SqL K H a vs ∧ DVs K G xs vs := by
  cases dv with
  | lst h1 h2 => cases h; exact ⟨_, _, rfl, .inl (.inl (rh.g _ _ h1)), h2⟩
  | rls h1 h2 => cases h; exact ⟨_, _, rfl, SqL.same rh.g h1, h2⟩
  | ref l =>
    have h' : R l = some (.lst xs) := by
      unfold lstOf at h
      cases e : R l with
      | none => simp [e] at h
      | some o => cases o <;> simp [e] at h; subst h; rfl
    obtain ⟨vs, h1, h2⟩ := rh.lst h'
    exact ⟨_, _, rfl, .inl (.inl h1), h2⟩
  | _ => cases h
theorem plainL_is {h : Heap} {a : Addr} {its : Array Value} (p : PlainL h a its) : h.IsList a its := by
  obtain ⟨o, n, h1, h2, _, h3⟩ := p
  exact ⟨o, h1, h2, n, h3⟩
/-- [..] == [], [..] != [] -/
def rNil (K : PySem.W.Frag) (neg : Bool) : R2 := fun x y H Q => ∃ a b xs, x = .ref a ∧ y = .ref b ∧ SqL K H a xs ∧ SqL K H b [] ∧ Q (.bl (if neg then !xs.isEmpty else xs.isEmpty)) H
theorem op_neNil (hu : X.A.units < cLine) : OpR X (compareOp .NotEq) (rNil X.K true) := by
  intro pins s σ H x y v u Q I rx ry h
  obtain ⟨a, b, xs, rfl, rfl, h1, h2, q⟩ := h
  cases rx; cases ry
  obtain ⟨its, r1, p1, _⟩ := I.list h1
  obtain ⟨its2, r2, p2, _⟩ := I.list h2
  cases r2
  cases r1 with
  | nil => exact SeqAt.RcNeAt.lists (e := fun _ => true) (plainL_is p1) (plainL_is p2) rfl hu (fun j h => absurd h (by simp)) _ _ _ _ ⟨.bl false, H, I, rfl, q⟩
  | cons _ _ => exact SeqAt.RcNeAt.lists_lengths (plainL_is p1) (plainL_is p2) (by simp) hu _ _ _ _ ⟨.bl true, H, I, rfl, q⟩
theorem op_eqNil (hu : X.A.units < cLine) : OpR X (compareOp .Eq) (rNil X.K false) := by
  intro pins s σ H x y v u Q I rx ry h
  obtain ⟨a, b, xs, rfl, rfl, h1, h2, q⟩ := h
  cases rx; cases ry
  obtain ⟨its, r1, p1, _⟩ := I.list h1
  obtain ⟨its2, r2, p2, _⟩ := I.list h2
  cases r2
  cases r1 with
  | nil => exact SeqAt.RcAt.lists (e := fun _ => true) (plainL_is p1) (plainL_is p2) rfl hu (fun j h => absurd h (by simp)) _ _ _ _ ⟨.bl true, H, I, rfl, q⟩
  | cons _ _ => exact SeqAt.RcAt.lists_lengths (plainL_is p1) (plainL_is p2) (by simp) hu _ _ _ _ ⟨.bl false, H, I, rfl, q⟩
def rdNil (neg : Bool) : DR2 := fun x y R Q => ∃ xs, lstOf R x = some xs ∧ lstOf R y = some [] ∧ Q (.bl (if neg then !xs.isEmpty else xs.isEmpty)) R
theorem LR2.nil {K : KF} (neg : Bool) : LR2 K (rNil K neg) (rdNil neg) := fun G R H x y xd yd Qd Q rh dx dy ⟨xs, h1, h2, q⟩ k => by
  obtain ⟨a, vs, rfl, s1, d1⟩ := lst_dv h1 rh dx
  obtain ⟨b, us, rfl, s2, d2⟩ := lst_dv h2 rh dy
  cases d2
  have e : vs.isEmpty = xs.isEmpty := by cases d1 <;> rfl
  exact ⟨a, b, vs, rfl, rfl, s1, s2, by rw [e]; exact k G R H _ _ (Stp.refl _ _ _) rh (.bl _) q⟩
theorem od_neNil (hu : X.A.units < cLine) : OpD X (compareOp .NotEq) (rdNil true) := ⟨_, op_neNil hu, LR2.nil true⟩
theorem od_eqNil (hu : X.A.units < cLine) : OpD X (compareOp .Eq) (rdNil false) := ⟨_, op_eqNil hu, LR2.nil false⟩
/-- (..) == (), (..) != () -/
def rNilT (K : PySem.W.Frag) (neg : Bool) : R2 := fun x y H Q => ∃ a b xs, x = .ref a ∧ y = .ref b ∧ SqT K H a xs ∧ SqT K H b [] ∧ Q (.bl (if neg then !xs.isEmpty else xs.isEmpty)) H
theorem isTup_is {h : Heap} {a : Addr} {its : Array Value} (p : IsTup h a its) : h.IsTuple a its := by
  obtain ⟨o, h1, h2, n, h3⟩ := p
  exact ⟨o, h1, h2, n, h3⟩
theorem op_neNilT (hu : X.A.units < cLine) : OpR X (compareOp .NotEq) (rNilT X.K true) := by
  intro pins s σ H x y v u Q I rx ry h
  obtain ⟨a, b, xs, rfl, rfl, h1, h2, q⟩ := h
  cases rx; cases ry
  obtain ⟨its, r1, p1, _⟩ := I.tuple h1
  obtain ⟨its2, r2, p2, _⟩ := I.tuple h2
  cases r2
  refine SeqAt.RcNeAt.tuples (e := fun _ => true) (isTup_is p1) (isTup_is p2) hu (fun j h1 h2 => absurd h2 (by simp)) _ _ _ _ ⟨.bl _, H, I, rfl, ?_⟩
  cases r1 with
  | nil => exact q
  | cons _ _ => exact q
theorem op_eqNilT (hu : X.A.units < cLine) : OpR X (compareOp .Eq) (rNilT X.K false) := by
  intro pins s σ H x y v u Q I rx ry h
  obtain ⟨a, b, xs, rfl, rfl, h1, h2, q⟩ := h
  cases rx; cases ry
  obtain ⟨its, r1, p1, _⟩ := I.tuple h1
  obtain ⟨its2, r2, p2, _⟩ := I.tuple h2
  cases r2
  refine SeqAt.RcAt.tuples (e := fun _ => true) (isTup_is p1) (isTup_is p2) hu (fun j h1 h2 => absurd h2 (by simp)) _ _ _ _ ⟨.bl _, H, I, rfl, ?_⟩
  cases r1 with
  | nil => exact q
  | cons _ _ => exact q
def rdNilT (neg : Bool) : DR2 := fun x y R Q => ∃ xs, x = .tup xs ∧ y = .tup [] ∧ Q (.bl (if neg then !xs.isEmpty else xs.isEmpty)) R
theorem LR2.nilT {K : KF} (neg : Bool) : LR2 K (rNilT K neg) (rdNilT neg) := fun G R H x y xd yd Qd Q rh dx dy ⟨xs, h1, h2, q⟩ k => by
  subst h1; subst h2
  cases dx with
  | @tup a vs _ s1 d1 =>
    cases dy with
    | tup s2 d2 =>
      cases d2
      have e : vs.isEmpty = xs.isEmpty := by cases d1 <;> rfl
      exact ⟨_, _, vs, rfl, rfl, SqT.same rh.g s1, SqT.same rh.g s2, by rw [e]; exact k G R H _ _ (Stp.refl _ _ _) rh (.bl _) q⟩
theorem od_neNilT (hu : X.A.units < cLine) : OpD X (compareOp .NotEq) (rdNilT true) := ⟨_, op_neNilT hu, LR2.nilT true⟩
theorem od_eqNilT (hu : X.A.units < cLine) : OpD X (compareOp .Eq) (rdNilT false) := ⟨_, op_eqNilT hu, LR2.nilT false⟩

/-! ### repr of data -/
def rRepr (K : PySem.W.Frag) : List V → Hp → VK → Prop := fun xs H Q => ∃ x d, xs = [x] ∧ Dp K H x d ∧ d.showable = true ∧ d.hasDict = false ∧ d.depth ≤ 190 ∧ d.shown.length ≤ sizeLine ∧ Q (.str d.shown) H
theorem call_reprD {k : Nat} (hgd : X.A.guards = some []) (hr : Room k X.A) : CallR X (.builtin "repr") (rRepr X.K) := by
  have hr : Room k X.X.A := hr
  intro pins s σ H xs us Q I r h
  obtain ⟨x, d, rfl, hd, hs, hnd, hdp, hz, q⟩ := h
  cases r with
  | @cons _ u _ us r1 r2 =>
    cases r2
    have un := hr.un
    obtain ⟨as, rd⟩ := Dp.reads I d x u hd r1
    cases hd with
    | non =>
      cases (show u = Value.none from r1)
      exact PySem.P.repr_of_none ⟨.str _, H, I.tok _, ⟨_, rfl⟩, q⟩
    | bl b =>
      cases (show u = Value.bool b from r1)
      exact PySem.P.repr_of_bool ⟨.str _, H, I.tok _, ⟨_, rfl⟩, q⟩
    | int i =>
      obtain ⟨t, e⟩ := (show ∃ t, u = Value.int i t from r1)
      subst e
      exact PySem.P.repr_of_int (by simpa [PyData.showable] using hs) ⟨.str _, H, I.tok _, ⟨_, rfl⟩, q⟩
    | str z =>
      obtain ⟨t, e⟩ := (show ∃ t, u = Value.str z t from r1)
      subst e
      exact PySem.P.repr_of_str ⟨.str _, H, I.tok _, ⟨_, rfl⟩, q⟩ hz
    | lst _ _ =>
      cases (show u = Value.ref _ from r1)
      exact repr_of_reads' rd hs (fun z => by rw [hnd] at z; cases z) hgd (by omega) (fun _ _ e => e) (fun h' u tk kp => ⟨.str _, H, I.kept (t' := tk) kp, ⟨_, rfl⟩, q⟩) hz
    | tup _ _ =>
      cases (show u = Value.ref _ from r1)
      exact repr_of_reads' rd hs (fun z => by rw [hnd] at z; cases z) hgd (by omega) (fun _ _ e => e) (fun h' u tk kp => ⟨.str _, H, I.kept (t' := tk) kp, ⟨_, rfl⟩, q⟩) hz
mutual
theorem hasDict_py : ∀ d : D, d.py.hasDict = false
  | .non => rfl
  | .bl _ => rfl
  | .int _ => rfl
  | .str _ => rfl
  | .ty _ => rfl
  | .ref _ => rfl
  | .tup xs => by rw [D.py, PyData.hasDict]; exact hasDict_pys xs
  | .lst xs => by rw [D.py, PyData.hasDict]; exact hasDict_pys xs
  | .rls xs => by rw [D.py, PyData.hasDict]; exact hasDict_pys xs
  | .ins _ _ _ => rfl
  | .dK _ _ => rfl
  | .dT _ _ => rfl
  | .lam _ => rfl
theorem hasDict_pys : ∀ ds : List D, PyData.hasDictAll (D.pys ds) = false
  | [] => by rw [D.pys]; rfl
  | d :: ds => by rw [D.pys, PyData.hasDictAll, hasDict_py d, hasDict_pys ds]; rfl
end
theorem AsPy.noDict {R : Rs} {d : D} {p : PyData} (h : AsPy R d p) : p.hasDict = false := by
  rcases h with ⟨_, rfl⟩ | ⟨_, ds, _, _, _, rfl⟩
  · exact hasDict_py d
  · rw [PyData.hasDict]; exact hasDict_pys ds
theorem cd_repr {k : Nat} (hgd : X.A.guards = some []) (hr : Room k X.A) : CallD X (.builtin "repr") (rd1 fun d R Q => ∃ p, AsPy R d p ∧ p.showable = true ∧ p.depth ≤ 190 ∧ p.shown.length ≤ sizeLine ∧ Q (.str p.shown) R) := ⟨_, call_reprD hgd hr, LRA.one fun G R H d v Qd Q rh dv ⟨p, hp, h1, h2, h3, q⟩ k =>
  ⟨v, p, rfl, hp.dp rh dv, h1, hp.noDict, h2, h3, k G R H _ _ (Stp.refl _ _ _) rh (.str _) q⟩⟩

/-! ### extend -/
theorem md_extend : MtD X "list.extend" (fun x ds R Q => ∃ l xs zs, x = .ref l ∧ ds = [.lst zs] ∧ R l = some (.lst xs) ∧ xs.length + zs.length ≤ sizeLine ∧ Q .non (put R l (.lst (xs ++ zs)))) := ⟨_, mt_extend, fun G R H x vs d ds Qd Q rh dv dvs ⟨l, xs, zs, hx, hy, hl, hz, q⟩ k => by
  subst hx; subst hy; cases dv
  cases dvs with
  | cons a b =>
    cases b
    cases a with
    | @lst b us _ h3 h4 =>
      obtain ⟨ws, h1, h2⟩ := rh.lst hl
      obtain ⟨s1, rh2⟩ := rh.chg (ro := .lst (xs ++ zs)) (o := .lst (ws ++ us)) hl ⟨_, rfl, h2.append h4⟩
      exact ⟨l, b, ws, us, rfl, rfl, h1, rh.g _ _ h3, by rw [← h2.length, ← h4.length]; exact hz, k _ _ _ _ _ s1 rh2 .non q⟩⟩
open AutoSeq1 in
theorem ext_tuple (l : Addr) (items : Array Value) (n : Nat) (b : Addr) (items2 : Array Value) (n2 : Nat) (dd : Option Addr) (sl : Array (Option Value)) (hs0 : ¬(!items.isEmpty && Builtin.List.listTooLong (items.size + items2.size)) = true) (hs1 : items.size ≤ sizeLine) (hs2 : items.size + items2.size ≤ sizeLine + 1) :
    Meets (Builtin.«list.extend» ⟨[.ref l, .ref b], []⟩) (fun _ T s => s.heap.get? l = some { cls := .type "list", dict := none, data := .seq items n, slots := #[] } ∧ s.heap.get? b = some { cls := .type "tuple", dict := dd, data := .seq items2 n2, slots := sl } ∧ T (.ok (.ret Value.none)) { s with heap := s.heap.update l (Obj.mapSeq fun x => x ++ items2), toks := s.toks }) := by
  apply Meets.of_wp
  intro prog w A T s h
  obtain ⟨hp, g, d, tk, os⟩ := s
  obtain ⟨hl, hb, h⟩ := h
  have f1 := AutoSeq1.idx_int; have f2 := AutoSeq1.sub_tuple_tuple
  have f3 := AutoSeq1.sub_list_list; have f4 := AutoSeq1.sub_tuple_list; have f5 := AutoSeq1.sub_list_tuple
  have z : (items ++ items2).size ≤ sizeLine + 1 := by simpa using hs2
  wp_walk using (wpAny_updateSeq hl rfl (hz := hs1) (_hz' := z)), wpAny_loadPart' hl, wpAny_loadPart' hb
  exact ⟨_, rfl, h⟩

def rExtT (K : PySem.W.Frag) : V → List V → Hp → VK → Prop := fun x vs H Q => ∃ l b xs zs, x = .ref l ∧ vs = [.ref b] ∧ H l = some (.lst xs) ∧ SqT K H b zs ∧ xs.length + zs.length ≤ sizeLine ∧ Q .non (upd H l (.lst (xs ++ zs)))
theorem mt_extT : MtR X "list.extend" (rExtT X.K) := by
  intro pins s σ H x vs v us Q I rx rv h
  obtain ⟨l, b, xs, zs, rfl, rfl, hH, hB, hz, q⟩ := h
  cases rx
  cases rv with
  | cons ru rt =>
    cases rt
    cases ru
    obtain ⟨z, its, n, r, hl, e⟩ := I.lstM hH
    obtain ⟨its2, r2, ⟨⟨oc, od, dt, sl⟩, e2, c2, n2, d2⟩, z2⟩ := I.tuple hB
    simp only at c2 d2
    subst c2 d2
    have l2 := r2.length
    have hsz : its.toArray.size + its2.toArray.size ≤ sizeLine := by rw [List.size_toArray, List.size_toArray]; omega
    have hlong : ¬ (!its.toArray.isEmpty && Builtin.List.listTooLong (its.toArray.size + its2.toArray.size)) = true := by
      rw [notLongL hsz, Bool.and_false]
      exact Bool.false_ne_true
    have ty : s.TypeIs (.ref l) "list" := ⟨_, e, rfl⟩
    refine call_meets PySem.F.slot_list_extend ty PySem.F.entry_list_extend (PySem.F.args_list_extend_2 _ _) (ext_tuple l its.toArray n b its2.toArray n2 od sl hlong (by rw [List.size_toArray]; omega) (by omega)) ?_
    exact ⟨e, e2, .non, _, I.lset (its' := its ++ its2) hH e (by simp) (r.append r2) (by rw [List.length_append]; omega), rfl, q⟩
theorem md_extT : MtD X "list.extend" (fun x ds R Q => ∃ l xs zs, x = .ref l ∧ ds = [.tup zs] ∧ R l = some (.lst xs) ∧ xs.length + zs.length ≤ sizeLine ∧ Q .non (put R l (.lst (xs ++ zs)))) := ⟨_, mt_extT, fun G R H x vs d ds Qd Q rh dv dvs ⟨l, xs, zs, hx, hy, hl, hz, q⟩ k => by
  subst hx; subst hy; cases dv
  cases dvs with
  | cons a b =>
    cases b
    cases a with
    | @tup b us _ h3 h4 =>
      obtain ⟨ws, h1, h2⟩ := rh.lst hl
      obtain ⟨s1, rh2⟩ := rh.chg (ro := .lst (xs ++ zs)) (o := .lst (ws ++ us)) hl ⟨_, rfl, h2.append h4⟩
      exact ⟨l, b, ws, us, rfl, rfl, h1, SqT.same rh.g h3, by rw [← h2.length, ← h4.length]; exact hz, k _ _ _ _ _ s1 rh2 .non q⟩⟩

/-! ### a + b of lists -/
/-- lists as the concatenation wants them -/
def trk (R : Rs) : D → Option (List D)
  | .lst xs => some xs
  | .ref l => match R l with
    | some (.lst xs) => some xs
    | _ => none
  | _ => none
theorem trk_dv {K : KF} {G : Hp} {R : Rs} {H : Hp} {d : D} {v : V} {xs : List D} (h : trk R d = some xs) (rh : RepH K G R H) (dv : DV K G d v) : ∃ a vs, v = .ref a ∧ H a = some (.lst vs) ∧ DVs K G xs vs := by
  cases dv with
  | lst h1 h2 => cases h; exact ⟨_, _, rfl, rh.g _ _ h1, h2⟩
  | ref l =>
    have h' : R l = some (.lst xs) := by
      unfold trk at h
      cases e : R l with
      | none => simp [e] at h
      | some o => cases o <;> simp [e] at h; subst h; rfl
    obtain ⟨vs, h1, h2⟩ := rh.lst h'
    exact ⟨_, _, rfl, h1, h2⟩
  | _ => cases h
/-- the sum never changes -/
theorem od_catF : OpD X (binaryOp .Add) (fun x y R Q => ∃ xs ys, trk R x = some xs ∧ trk R y = some ys ∧ xs.length + ys.length ≤ sizeLine ∧ Q (.lst (xs ++ ys)) R) := ⟨_, op_cat, fun G R H x y xd yd Qd Q rh dx dy ⟨xs, ys, hx, hy, hz, q⟩ k => by
  obtain ⟨a, vs, rfl, h1, d1⟩ := trk_dv hx rh dx
  obtain ⟨b, us, rfl, h2, d2⟩ := trk_dv hy rh dy
  refine ⟨a, b, vs, us, rfl, rfl, h1, h2, by rw [← d1.length, ← d2.length]; exact hz, fun p hp => ?_⟩
  obtain ⟨s1, rh2⟩ := rh.imm (o := .lst (vs ++ us)) hp
  exact k _ R _ _ _ s1 rh2 (.lst upd_same ((d1.append d2).st s1)) q⟩
/-- the sum may change -/
theorem od_cat : OpD X (binaryOp .Add) (fun x y R Q => ∃ xs ys, trk R x = some xs ∧ trk R y = some ys ∧ xs.length + ys.length ≤ sizeLine ∧ ∀ p, R p = none → Q (.ref p) (put R p (.lst (xs ++ ys)))) := ⟨_, op_cat, fun G R H x y xd yd Qd Q rh dx dy ⟨xs, ys, hx, hy, hz, q⟩ k => by
  obtain ⟨a, vs, rfl, h1, d1⟩ := trk_dv hx rh dx
  obtain ⟨b, us, rfl, h2, d2⟩ := trk_dv hy rh dy
  refine ⟨a, b, vs, us, rfl, rfl, h1, h2, by rw [← d1.length, ← d2.length]; exact hz, fun p hp => ?_⟩
  obtain ⟨s1, rh2⟩ := rh.new (ro := .lst (xs ++ ys)) (o := .lst (vs ++ us)) hp ⟨_, rfl, d1.append d2⟩
  exact k _ _ _ _ _ s1 rh2 (.ref p) (q p (rh.free hp))⟩
/-! ### tuples -/
theorem od_catT : OpD X (binaryOp .Add) (fun x y R Q => ∃ xs ys, x = .tup xs ∧ y = .tup ys ∧ xs.length + ys.length ≤ sizeLine ∧ Q (.tup (xs ++ ys)) R) := ⟨_, op_catA, fun G R H x y xd yd Qd Q rh dx dy ⟨xs, ys, hx, hy, hz, q⟩ k => by
  subst hx; subst hy
  cases dx with
  | @tup a vs _ h1 d1 =>
    cases dy with
    | @tup b us _ h2 d2 =>
      refine ⟨a, b, vs, us, rfl, rfl, SqT.same rh.g h1, SqT.same rh.g h2, by rw [← d1.length, ← d2.length]; exact hz, fun e => ?_, fun _ e => ?_, fun _ _ p hp => ?_⟩
      · subst e; cases d1; exact k G R H _ _ (Stp.refl _ _ _) rh (.tup h2 d2) q
      · subst e; cases d2; rw [List.append_nil] at q; exact k G R H _ _ (Stp.refl _ _ _) rh (.tup h1 d1) q
      · obtain ⟨s1, rh2⟩ := rh.imm (o := .tup (vs ++ us)) hp
        exact k _ R _ _ _ s1 rh2 (.tup (.inl (.inl upd_same)) ((d1.append d2).st s1)) q⟩
/-! ### in: a sign in a text, a text in a list or tuple of texts -/
theorem od_inSign : OpD X (compareOp .In) (fun x y R Q => ∃ (c : Nat) (z : Str), x = .str ⟨#[c]⟩ ∧ y = .str z ∧ Q (.bl (decide (c ∈ z.cps.toList))) R) := ⟨_, op_in_sign, fun G R H x y xd yd Qd Q rh dx dy ⟨c, z, hx, hy, q⟩ k => by
  subst hx; subst hy; cases dx; cases dy
  exact ⟨c, z, rfl, rfl, k G R H _ _ (Stp.refl _ _ _) rh (.bl _) q⟩⟩
def rdInS (neg : Bool) : DR2 := fun x y R Q => ∃ (a : Str) (xs : List Str), x = .str a ∧ seqOf R y = some (xs.map D.str) ∧ Q (.bl (if neg then !decide (a ∈ xs) else decide (a ∈ xs))) R
theorem inV_str (a : Str) (xs : List Str) : inV (.str a) (xs.map V.str) = decide (a ∈ xs) := by
  unfold inV
  induction xs with
  | nil => rfl
  | cons x xs ih =>
    rw [List.map_cons, List.any_cons, ih]
    by_cases h : x = a
    · subst h; simp [eqV]
    · have h2 : ¬ a = x := fun e => h e.symm
      simp [eqV, h, h2]
theorem flat_strs (xs : List Str) : (xs.map V.str).all flatV = true := by
  induction xs with
  | nil => rfl
  | cons x xs ih => rw [List.map_cons, List.all_cons, ih]; rfl
theorem od_inS : OpD X (compareOp .In) (rdInS false) := ⟨_, op_in_seq, fun G R H x y xd yd Qd Q rh dx dy ⟨a, xs, hx, hy, q⟩ k => by
  subst hx; cases dx
  obtain ⟨p, vs, rfl, hs, d2⟩ := seq_dv hy rh dy
  rw [d2.strs] at hs
  exact ⟨p, _, rfl, hs, rfl, flat_strs xs, by rw [inV_str]; exact k G R H _ _ (Stp.refl _ _ _) rh (.bl _) q⟩⟩
theorem od_notInS : OpD X (compareOp .NotIn) (rdInS true) := ⟨_, op_notIn_seq, fun G R H x y xd yd Qd Q rh dx dy ⟨a, xs, hx, hy, q⟩ k => by
  subst hx; cases dx
  obtain ⟨p, vs, rfl, hs, d2⟩ := seq_dv hy rh dy
  rw [d2.strs] at hs
  exact ⟨p, _, rfl, hs, rfl, flat_strs xs, by rw [inV_str]; exact k G R H _ _ (Stp.refl _ _ _) rh (.bl _) q⟩⟩
/-! ### join -/
theorem md_join : MtD X "str.join" (fun x ds R Q => ∃ (a : Str) (d : D) (ys : List Str), x = .str a ∧ ds = [d] ∧ seqOf R d = some (ys.map D.str) ∧ (ys.map (·.length)).sum + ys.length * a.length ≤ 16777216 ∧ Q (.str (Txt.join a ys)) R) := ⟨_, mt_join, fun G R H x vs d ds Qd Q rh dv dvs ⟨a, d2, ys, hx, hy, hs, hz, q⟩ k => by
  subst hx; subst hy; cases dv
  cases dvs with
  | cons p b =>
    cases b
    obtain ⟨c, ws, rfl, h1, h2⟩ := seq_dv hs rh p
    rw [h2.strs] at h1
    exact ⟨a, c, ys, rfl, rfl, h1, hz, k G R H _ _ (Stp.refl _ _ _) rh (.str _) q⟩⟩
/-! ### is True -/
theorem od_isB : OpD X (compareOp .Is) (fun x y R Q => ∃ a b, x = .bl a ∧ y = .bl b ∧ Q (.bl (decide (a = b))) R) := ⟨_, op_isBl, fun G R H x y xd yd Qd Q rh dx dy ⟨a, b, hx, hy, q⟩ k => by
  subst hx; subst hy; cases dx; cases dy
  exact ⟨a, b, rfl, rfl, k G R H _ _ (Stp.refl _ _ _) rh (.bl _) q⟩⟩
theorem od_notB : OpD X (compareOp .IsNot) (fun x y R Q => ∃ a b, x = .bl a ∧ y = .bl b ∧ Q (.bl (!decide (a = b))) R) := ⟨_, op_notBl, fun G R H x y xd yd Qd Q rh dx dy ⟨a, b, hx, hy, q⟩ k => by
  subst hx; subst hy; cases dx; cases dy
  exact ⟨a, b, rfl, rfl, k G R H _ _ (Stp.refl _ _ _) rh (.bl _) q⟩⟩
/-- a built-in class as a value -/
theorem de_ty {x : Str} {T : String} {pos : Pos} (hg : Gl X x) (hm : X.mg x = none) (hv : bootBuiltins x = some (.type T)) (hn : x ≠ "__name__" := by decide) (hdb : (x == ("__debug__" : Str)) = false := by decide) : DE X (.Name x pos) (dC (.ty T)) := ⟨_, pe_bltn (v := .ty T) hg hm hv rfl hn hdb, LE.con fun _ => .ty T⟩
end
end DL
end
section
set_option Elab.async false
set_option maxRecDepth 100000
set_option linter.all false
set_option autoImplicit false
/-! DL7: calls by name, the built-ins' names -/
namespace DL
open PySem PySem.Spec PyProof.Rows L2
variable [TabCtx]
theorem bt_len : bootBuiltins "len" = some (.builtin "len") := by decide +kernel
theorem bt_isi : bootBuiltins "isinstance" = some (.builtin "isinstance") := by decide +kernel
theorem bt_repr : bootBuiltins "repr" = some (.builtin "repr") := by decide +kernel
theorem bt_abs : bootBuiltins "abs" = some (.builtin "abs") := by decide +kernel
theorem bt_max : bootBuiltins "max" = some (.builtin "max") := by decide +kernel
theorem bt_min : bootBuiltins "min" = some (.builtin "min") := by decide +kernel
theorem bt_sorted : bootBuiltins "sorted" = some (.builtin "sorted") := by decide +kernel
theorem bt_any : bootBuiltins "any" = some (.builtin "any") := by decide +kernel
theorem bt_all : bootBuiltins "all" = some (.builtin "all") := by decide +kernel
theorem bt_int : bootBuiltins "int" = some (.type "int") := by decide +kernel
theorem bt_str : bootBuiltins "str" = some (.type "str") := by decide +kernel
theorem bt_tuple : bootBuiltins "tuple" = some (.type "tuple") := by decide +kernel
theorem bt_list : bootBuiltins "list" = some (.type "list") := by decide +kernel
theorem bt_set : bootBuiltins "set" = some (.type "set") := by decide +kernel
theorem bt_bool : bootBuiltins "bool" = some (.type "bool") := by decide +kernel
theorem bt_dict : bootBuiltins "dict" = some (.type "dict") := by decide +kernel
/-- none of these names is the module's -/
def Blt (mg : Str → Option Value) (l : List Str) : Prop := ∀ x ∈ l, mg x = none
/-- a def of the module, called by its name -/
structure Cal (P : Program) (w : World) (K : KB) (mg : Str → Option Value) (base : Heap) (k : Nat) (x : Str) (dsp : DSp) : Prop where
  ex : ∃ (f : Addr) (fd : FuncData) (ps : List Str), FnG P w K mg base CX0 k f fd ps (spOf K dsp) ∧ mg x = some (.ref f) ∧ PySem.W.keepIn K (.ref f) = true ∧ Binds K fd ps []
section
variable {X : CxF} {k j : Nat} {x : Str} {dsp : DSp} {p pos : Pos} {e : Expr} {es : List Expr} {t : DTA}
theorem de_c (c : Cal X.prog X.w X.K.F X.mg X.base k x dsp) (gd : X.A.guards = some []) (hr : Room j X.A) (hk : k ≤ j) (hg : Gl X x) (ha : DA X (e :: es) t) (hdb : (x == ("__debug__" : Str)) = false := by decide)
    (he : starEach (e :: es) X.env = (false, eval e X.env) :: starEach es X.env := by rfl) (hpl : (backTo pos (starEach es X.env)).any (·.1) = false := by rfl) : DE X (.Call (.Name x p) (e :: es) [] pos) (dCall dsp Ed0 t) := by
  obtain ⟨f, fd, ps, F, hm, kp, bd⟩ := c.ex
  exact de_call F gd (hr.mono hk) hg hm kp bd pass0 ha hdb he hpl
end
/-- one statement, a middle, the rest -/
def dCut (t u : DTS) : DTS := fun D s R => ∃ Mid : DSt → Rs → Prop, t { D with nx := Mid } s R ∧ ∀ s' R', Mid s' R' → u D s' R'
theorem dss_cut {X : CxF} {st : Stmt} {rest : List Stmt} {t u : DTS} (h : DS X st t) (r : DSs X rest u) : DSs X (st :: rest) (dCut t u) := by
  obtain ⟨t1, a1, a2⟩ := h; obtain ⟨t2, b1, b2⟩ := r
  refine ⟨_, pss_cons a1 b1, fun G sd s R H Ed E sv rh ⟨Mid, q, m⟩ k => a2 G sd s R H _ _ sv rh q ⟨fun G1 sd1 s1 R1 H1 e1 sv1 rh1 q1 => b2 G1 sd1 s1 R1 H1 _ _ sv1 rh1 (m _ _ q1) (k.st e1), k.rt, k.bk, k.ct⟩⟩
/-- the promise with less asked -/
theorem FnG.imp {P : Program} {w : World} {K : PySem.W.Frag} {mg : Str → Option Value} {base : Heap} {CX : CXT} {k : Nat} {f : Addr} {fd : FuncData} {ps : List Str} {sp sp' : Sp} (F : FnG P w K mg base CX k f fd ps sp) (h : ∀ vs H Q E, sp' vs H Q E → sp vs H Q E) : FnG P w K mg base CX k f fd ps sp' :=
  ⟨fun vs H Q E q => F.len vs H Q E (h _ _ _ _ q), fun A g r outer s H e args us vs Q E b v q => F.go A g r outer s H e args us vs Q E b v (h _ _ _ _ q)⟩
/-- the slots as they stand: a shorthand to read one -/
theorem Room.cl {k : Nat} {A : Around} (r : Room k A) : A.units < cLine := r.units0
theorem Room.c65 {k : Nat} {A : Around} (r : Room k A) : A.units + 65 < cLine := by have := r.un; omega
end DL
namespace DL
variable [TabCtx]
open PySem PySem.Spec PyProof.Rows L2
/-! ### places -/
theorem at0 {α : Type} {a : α} {l : List α} : atI (a :: l) 0 = some a := by
  unfold atI ixN
  simp
theorem at1 {α : Type} {a b : α} {l : List α} : atI (a :: b :: l) 1 = some b := by
  have h : (1 : Int) < ((a :: b :: l).length : Nat) := by simp only [List.length_cons]; omega
  unfold atI ixN
  simp only [h, if_true, show (0 : Int) ≤ 1 by decide]
  rfl
theorem at2 {α : Type} {a b c : α} {l : List α} : atI (a :: b :: c :: l) 2 = some c := by
  have h : (2 : Int) < ((a :: b :: c :: l).length : Nat) := by simp only [List.length_cons]; omega
  unfold atI ixN
  simp only [h, if_true, show (0 : Int) ≤ 2 by decide]
  rfl
theorem ix30 : ixN 3 0 = some 0 := rfl
theorem ix31 : ixN 3 1 = some 1 := rfl
theorem ix32 : ixN 3 2 = some 2 := rfl
theorem at_map {α β : Type} (g : α → β) {l : List α} {i : Int} {a : α} (h : atI l i = some a) : atI (l.map g) i = some (g a) := by
  unfold atI at h ⊢
  rw [List.length_map]
  cases e : ixN l.length i with
  | none => rw [e] at h; cases h
  | some j => rw [e] at h; show (l.map g)[j]? = _; rw [List.getElem?_map]; have h' : l[j]? = some a := h; rw [h']; rfl
theorem at_lt {α : Type} {l : List α} {i : Int} (h0 : 0 ≤ i) (h : i < (l.length : Int)) : ∃ a, atI l i = some a ∧ a ∈ l ∧ l[i.toNat]? = some a := by
  have hi : i.toNat < l.length := by omega
  refine ⟨l[i.toNat], ?_, List.getElem_mem hi, List.getElem?_eq_getElem hi⟩
  unfold atI ixN
  simp only [h0, h, if_true]
  exact List.getElem?_eq_getElem hi
end DL
namespace DL
variable [TabCtx]
open PySem PySem.Spec PyProof.Rows L2
/-! ### readings at known values -/
section
variable {R : Rs} {Q : DK}
theorem eqS_ii {i j : Int} : rdEqS false (.int i) (.int j) R Q ↔ Q (.bl (decide (i = j))) R := by
  constructor
  · rintro ⟨u, v, h1, h2, _, q⟩; cases h1; cases h2; simpa using q
  · intro q; exact ⟨_, _, rfl, rfl, rfl, by simpa using q⟩
theorem neS_ii {i j : Int} : rdEqS true (.int i) (.int j) R Q ↔ Q (.bl (!decide (i = j))) R := by
  constructor
  · rintro ⟨u, v, h1, h2, _, q⟩; cases h1; cases h2; simpa using q
  · intro q; exact ⟨_, _, rfl, rfl, rfl, by simpa using q⟩
theorem eqS_ss {i j : Str} : rdEqS false (.str i) (.str j) R Q ↔ Q (.bl (decide (i = j))) R := by
  constructor
  · rintro ⟨u, v, h1, h2, _, q⟩; cases h1; cases h2; simpa using q
  · intro q; exact ⟨_, _, rfl, rfl, rfl, by simpa using q⟩
theorem neS_ss {i j : Str} : rdEqS true (.str i) (.str j) R Q ↔ Q (.bl (!decide (i = j))) R := by
  constructor
  · rintro ⟨u, v, h1, h2, _, q⟩; cases h1; cases h2; simpa using q
  · intro q; exact ⟨_, _, rfl, rfl, rfl, by simpa using q⟩
theorem sq_tup {xs : List D} : seqOf R (.tup xs) = some xs := rfl
theorem sq_lst {xs : List D} : seqOf R (.lst xs) = some xs := rfl
theorem sq_rls {xs : List D} : seqOf R (.rls xs) = some xs := rfl
theorem sq_ref {l : Addr} {xs : List D} (h : R l = some (.lst xs)) : seqOf R (.ref l) = some xs := seqOf_lst h
theorem lo_lst {xs : List D} : lstOf R (.lst xs) = some xs := rfl
theorem lo_rls {xs : List D} : lstOf R (.rls xs) = some xs := rfl
theorem lo_ref {l : Addr} {xs : List D} (h : R l = some (.lst xs)) : lstOf R (.ref l) = some xs := by unfold lstOf; simp [h]
theorem tr_lst {xs : List D} : trk R (.lst xs) = some xs := rfl
theorem tr_ref {l : Addr} {xs : List D} (h : R l = some (.lst xs)) : trk R (.ref l) = some xs := by unfold trk; simp [h]
theorem kb_tt : kitB "tuple" "tuple" = some true := by decide +kernel
theorem kb_st : kitB "str" "tuple" = some false := by decide +kernel
theorem kb_ss : kitB "str" "str" = some true := by decide +kernel
theorem kb_ts : kitB "tuple" "str" = some false := by decide +kernel
theorem kb_nt : kitB "NoneType" "tuple" = some false := by decide +kernel
theorem kb_bt : kitB "bool" "tuple" = some false := by decide +kernel
theorem kb_it : kitB "int" "tuple" = some false := by decide +kernel
theorem kb_lt : kitB "list" "tuple" = some false := by decide +kernel
theorem kb_ns : kitB "NoneType" "str" = some false := by decide +kernel
theorem kb_bs : kitB "bool" "str" = some false := by decide +kernel
theorem kb_is : kitB "int" "str" = some false := by decide +kernel
theorem kb_ls : kitB "list" "str" = some false := by decide +kernel
theorem isi_of {d : D} {S T : String} {b : Bool} (h1 : d.tyName R = some S) (h2 : kitB S T = some b) : rdIsi kitB [d, .ty T] R Q ↔ Q (.bl b) R := by
  constructor
  · rintro ⟨S', b', e1, e2, q⟩
    rw [h1] at e1; cases e1
    rw [h2] at e2; cases e2
    exact q
  · intro q; exact ⟨S, b, h1, h2, q⟩
theorem isi_tt {xs : List D} : rdIsi kitB [.tup xs, .ty "tuple"] R Q ↔ Q (.bl true) R := isi_of rfl kb_tt
theorem isi_st {x : Str} : rdIsi kitB [.str x, .ty "tuple"] R Q ↔ Q (.bl false) R := isi_of rfl kb_st
theorem isi_nt : rdIsi kitB [.non, .ty "tuple"] R Q ↔ Q (.bl false) R := isi_of rfl kb_nt
theorem isi_bt {x : Bool} : rdIsi kitB [.bl x, .ty "tuple"] R Q ↔ Q (.bl false) R := isi_of rfl kb_bt
theorem isi_it {x : Int} : rdIsi kitB [.int x, .ty "tuple"] R Q ↔ Q (.bl false) R := isi_of rfl kb_it
theorem isi_lt {x : List D} : rdIsi kitB [.lst x, .ty "tuple"] R Q ↔ Q (.bl false) R := isi_of rfl kb_lt
theorem isi_ts {xs : List D} : rdIsi kitB [.tup xs, .ty "str"] R Q ↔ Q (.bl false) R := isi_of rfl kb_ts
theorem isi_ss {x : Str} : rdIsi kitB [.str x, .ty "str"] R Q ↔ Q (.bl true) R := isi_of rfl kb_ss
theorem isi_ns : rdIsi kitB [.non, .ty "str"] R Q ↔ Q (.bl false) R := isi_of rfl kb_ns
theorem isi_bs {x : Bool} : rdIsi kitB [.bl x, .ty "str"] R Q ↔ Q (.bl false) R := isi_of rfl kb_bs
theorem isi_is {x : Int} : rdIsi kitB [.int x, .ty "str"] R Q ↔ Q (.bl false) R := isi_of rfl kb_is
theorem isi_ls {x : List D} : rdIsi kitB [.lst x, .ty "str"] R Q ↔ Q (.bl false) R := isi_of rfl kb_ls
end
end DL
namespace DL
variable [TabCtx]
open PySem PySem.Spec PyProof.Rows L2
theorem sz0 : (0 ≤ sizeLine) = True := eq_true (by decide)
theorem sz1 : (1 ≤ sizeLine) = True := eq_true (by decide)
theorem sz2 : (2 ≤ sizeLine) = True := eq_true (by decide)
theorem sz3 : (3 ≤ sizeLine) = True := eq_true (by decide)
theorem sz4 : (4 ≤ sizeLine) = True := eq_true (by decide)
theorem sz5 : (5 ≤ sizeLine) = True := eq_true (by decide)
theorem sz6 : (6 ≤ sizeLine) = True := eq_true (by decide)
theorem sl0 : (0 < sizeLine) = True := eq_true (by decide)
theorem sl1 : (1 < sizeLine) = True := eq_true (by decide)
theorem sl2 : (2 < sizeLine) = True := eq_true (by decide)
theorem ty_put {R : Rs} {p : Addr} {xs : List D} : TyD "list" (.ref p) (put R p (.lst xs)) = True := eq_true (.inl ⟨rfl, xs, put_same⟩)
theorem ty_ref {R : Rs} {p : Addr} {xs : List D} (h : R p = some (.lst xs)) : TyD "list" (.ref p) R = True := eq_true (.inl ⟨rfl, xs, h⟩)
theorem ty_str {R : Rs} {x : Str} : TyD "str" (.str x) R = True := eq_true rfl
theorem lo_put {R : Rs} {l : Addr} {xs : List D} : lstOf (put R l (.lst xs)) (.ref l) = some xs := lo_ref put_same
theorem sq_put {R : Rs} {l : Addr} {xs : List D} : seqOf (put R l (.lst xs)) (.ref l) = some xs := sq_ref put_same
theorem tr_put {R : Rs} {l : Addr} {xs : List D} : trk (put R l (.lst xs)) (.ref l) = some xs := tr_ref put_same
/-- what stood stands, beside a new thing -/
theorem sub_put {R : Rs} {p : Addr} {o : RO} (h : R p = none) : ∀ a ro, R a = some ro → put R p o a = some ro := fun a ro e => by
  rw [put_ne (by intro z; subst z; rw [h] at e; cases e)]; exact e
theorem sub_put2 {R R' : Rs} {p : Addr} {o : RO} (s : ∀ a ro, R a = some ro → R' a = some ro) (h : R p = none) : ∀ a ro, R a = some ro → put R' p o a = some ro := fun a ro e => by
  rw [put_ne (by intro z; subst z; rw [h] at e; cases e)]; exact s a ro e
theorem put_comm {R : Rs} {a b : Addr} {o u : RO} (h : a ≠ b) : put (put R a o) b u = put (put R b u) a o := by
  funext x
  unfold put
  by_cases h1 : x = a
  · by_cases h2 : x = b
    · exact absurd (h1.symm.trans h2) h
    · rw [if_neg h2, if_pos h1, if_pos h1]
  · by_cases h2 : x = b
    · rw [if_pos h2, if_neg h1, if_pos h2]
    · rw [if_neg h2, if_neg h1, if_neg h1, if_neg h2]
end DL
namespace DL
variable [TabCtx]
theorem app1_empty {α : Type} {xs : List α} {y : α} : (xs ++ [y]).isEmpty = false := by cases xs <;> rfl
end DL
namespace DL
variable [TabCtx]
open PySem PySem.Spec PyProof.Rows L2
theorem fnG_none {P : Program} {w : World} {K : KB} {mg : Str → Option Value} {base : Heap} {CX : CXT} {k : Nat} {f : Addr} {fd : FuncData} {ps : List Str} {dsp : DSp} (h : ∀ ds R Q E, ¬ dsp ds R Q E) : FnG P w K mg base CX k f fd ps (spOf K dsp) :=
  ⟨fun vs H Q E ⟨G, ds, R, Qd, Ed, _, _, q, _⟩ => absurd q (h _ _ _ _), fun A _ _ outer s H _ args us vs Q E _ _ ⟨G, ds, R, Qd, Ed, _, _, q, _⟩ => absurd q (h _ _ _ _)⟩
theorem cut_take {xs : List D} {k : Int} (h0 : 0 ≤ k) (h : k ≤ (xs.length : Int)) : cutD xs none (some k) = xs.take k.toNat := by
  unfold cutD
  have e1 : HT.sIx xs.length 0 none = 0 := rfl
  have e2 : HT.sIx xs.length xs.length (some k) = k.toNat := by
    unfold HT.sIx
    simp only []
    split <;> omega
  rw [e1, e2]
  simp
theorem cut_drop {xs : List D} {k : Int} (h0 : 0 ≤ k) (h : k ≤ (xs.length : Int)) : cutD xs (some k) none = xs.drop k.toNat := by
  unfold cutD
  have e1 : HT.sIx xs.length xs.length none = xs.length := rfl
  have e2 : HT.sIx xs.length 0 (some k) = k.toNat := by
    unfold HT.sIx
    simp only []
    split <;> omega
  rw [e1, e2]
  rw [List.take_of_length_le]
  rw [List.length_drop]
  exact Nat.le_refl _
end DL
end
section
set_option Elab.async false
set_option maxRecDepth 100000
set_option linter.all false
set_option autoImplicit false
/-! DL8: names drawn by the laws (plain) -/
namespace DL
open PySem PySem.Spec PyProof.Rows L2 TL
variable [TabCtx]
def Let (c : Nat) : Prop := 97 ≤ c ∧ c ≤ 122
def Stem (st : Str) : Prop := (∀ c ∈ tl st, Let c) ∧ ((tl st).length ≤ 2 ∨ tl st = [122, 122, 122, 122, 122])
def Nm (x : Str) : Prop := ∃ (st : Str) (c : Nat), Stem st ∧ Let c ∧ tl x = tl st ++ [c]
def NmS (xs : List Str) (n : Nat) : Prop := xs.length = n ∧ xs.Nodup ∧ ∀ x ∈ xs, Nm x
abbrev abc : Str := "abcdefghijklmnopqrstuvwxyz"
theorem tl_abc : tl abc = (List.range 26).map (97 + ·) := by decide +kernel
theorem abc_len : abc.length ≤ sizeLine := by decide +kernel
theorem abc_at {v : Int} (h0 : 0 ≤ v) (h : v < 26) : atI abc.cps.toList v = some (97 + v.toNat) := by
  have e : abc.cps.toList = (List.range 26).map (97 + ·) := tl_abc
  rw [e]
  obtain ⟨n, rfl⟩ : ∃ n : Nat, v = n := ⟨v.toNat, by omega⟩
  have hn : n < 26 := by omega
  rw [at_map (97 + ·) (l := List.range 26) (i := (n : Int)) (a := n) (atI_nat (by rw [List.getElem?_range hn]))]
  simp
def lstr (c : Nat) : Str := ⟨#[c]⟩
theorem tl_lstr (c : Nat) : tl (lstr c) = [c] := rfl
theorem len_tl (x : Str) : x.length = (tl x).length := by show x.cps.size = x.cps.toList.length; simp
theorem tl_zz : tl "zzzzz" = [122, 122, 122, 122, 122] := by decide +kernel
theorem stem_zz : Stem "zzzzz" := ⟨by
  rw [tl_zz]
  intro c h
  have e : c = 122 := by simpa using h
  subst e
  exact ⟨by decide, by decide⟩, .inr tl_zz⟩
theorem tl_joinE : ∀ cs : List Nat, tl (Txt.join "" (cs.map lstr)) = cs := by
  intro cs
  rw [join_eq, tl_join]
  have e : tl (Str.ofString "") = [] := by decide +kernel
  rw [e]
  have : ∀ l : List Nat, joinL [] ((l.map lstr).map tl) = l := by
    intro l
    induction l with
    | nil => rfl
    | cons a l ih =>
      cases l with
      | nil => rfl
      | cons b l => show tl (lstr a) ++ ([] ++ joinL [] (((b :: l).map lstr).map tl)) = _; rw [ih]; rfl
  exact this cs
theorem stem_join {cs : List Nat} (h : ∀ c ∈ cs, Let c) (hl : cs.length ≤ 2) : Stem (Txt.join "" (cs.map lstr)) := ⟨by rw [tl_joinE]; exact h, .inl (by rw [tl_joinE]; exact hl)⟩
theorem Stem.len {st : Str} (h : Stem st) : st.length ≤ 5 := by
  rw [len_tl]
  rcases h.2 with h | h
  · omega
  · rw [h]; decide
theorem tl_inj {x y : Str} (h : tl x = tl y) : x = y := by
  cases x with | mk a => cases y with | mk b => exact congrArg Str.mk (Array.toList_inj.mp h)
theorem Nm.len {x : Str} (h : Nm x) : 1 ≤ x.length ∧ x.length ≤ 6 := by
  obtain ⟨st, c, hs, _, e⟩ := h
  have := hs.len
  rw [len_tl] at this ⊢
  rw [e, List.length_append]
  simp only [List.length_singleton]
  omega
/-- the k-th name -/
def nth (st : Str) (a p : Int) (k : Nat) : Str := st ++ lstr (97 + ((a + p * (k : Int)) % 26).toNat)
theorem nth_nm {st : Str} (h : Stem st) (a p : Int) (k : Nat) : Nm (nth st a p k) := by
  refine ⟨st, _, h, ?_, by unfold nth; rw [tl_append]; rfl⟩
  have h1 := Int.emod_nonneg (a + p * (k : Int)) (show (26 : Int) ≠ 0 by decide)
  have h2 := Int.emod_lt_of_pos (a + p * (k : Int)) (show (0 : Int) < 26 by decide)
  unfold Let
  omega
theorem nth_inj {st : Str} {a p : Int} {i j : Nat} (hp : p = 1 ∨ p = 3 ∨ p = 5 ∨ p = 25) (hi : i < 26) (hj : j < 26) (h : nth st a p i = nth st a p j) : i = j := by
  have e : tl (nth st a p i) = tl (nth st a p j) := by rw [h]
  unfold nth at e
  rw [tl_append, tl_append, tl_lstr, tl_lstr] at e
  have e2 := List.append_cancel_left e
  have e3 : 97 + ((a + p * (i : Int)) % 26).toNat = 97 + ((a + p * (j : Int)) % 26).toNat := by simpa using e2
  rcases hp with rfl | rfl | rfl | rfl <;> omega
theorem nths {st : Str} (h : Stem st) {a p : Int} (hp : p = 1 ∨ p = 3 ∨ p = 5 ∨ p = 25) {n : Nat} (hn : n ≤ 26) : NmS ((List.range n).map (nth st a p)) n := by
  refine ⟨by simp, ?_, fun x hx => ?_⟩
  · rw [List.Nodup, List.pairwise_map]
    refine List.Pairwise.imp_of_mem (R := (· ≠ ·)) (fun {i j} hi hj hij e => hij (nth_inj hp ?_ ?_ e)) List.nodup_range
    · have := List.mem_range.mp hi; omega
    · have := List.mem_range.mp hj; omega
  · obtain ⟨k, _, rfl⟩ := List.mem_map.mp hx
    exact nth_nm h a p k
theorem NmS.perm {xs ys : List Str} {n : Nat} (h : NmS xs n) (p : ys.Perm xs) : NmS ys n := ⟨p.length_eq.trans h.1, p.nodup_iff.mpr h.2.1, fun x hx => h.2.2 x (p.mem_iff.mp hx)⟩
end DL
end
section
set_option autoImplicit false
/-! TrA: trees, turns (plain) -/
namespace TrA
inductive Tr (α : Type) where
  | leaf (x : α)
  | node (l r : Tr α)
  deriving DecidableEq
section
variable {α : Type}
open Tr
def size : Tr α → Nat
  | leaf _ => 1
  | node l r => size l + size r
def height : Tr α → Nat
  | leaf _ => 0
  | node l r => max (height l) (height r) + 1
def leaves : Tr α → List α
  | leaf x => [x]
  | node l r => leaves l ++ leaves r
theorem size_pos : ∀ t : Tr α, 0 < size t
  | leaf _ => by simp [size]
  | node l r => by have := size_pos l; simp only [size]; omega
theorem leaves_len : ∀ t : Tr α, (leaves t).length = size t
  | leaf _ => rfl
  | node l r => by simp only [leaves, size, List.length_append, leaves_len l, leaves_len r]
theorem height_lt : ∀ t : Tr α, height t < size t
  | leaf _ => by simp [size, height]
  | node l r => by
    have h1 := height_lt l; have h2 := height_lt r; have := size_pos l; have := size_pos r
    simp only [size, height]; omega
def turnsL : Tr α → Tr α → List (Tr α)
  | node a b, r => [node a (node b r)]
  | leaf _, _ => []
def turnsR : Tr α → Tr α → List (Tr α)
  | l, node a b => [node (node l a) b]
  | _, leaf _ => []
def turnsAt : Tr α → List (Tr α)
  | leaf _ => []
  | node l r => turnsL l r ++ turnsR l r
def turns : Tr α → List (Tr α)
  | leaf _ => []
  | node l r => (turns l).map (fun x => node x r) ++ (turns r).map (fun x => node l x) ++ turnsAt (node l r)
/-- a number that every turn changes -/
def rho : Tr α → Nat
  | leaf _ => 0
  | node l r => rho l + rho r + size r
theorem at_spec {l r u : Tr α} (h : u ∈ turnsAt (node l r)) : (∃ a b, l = node a b ∧ u = node a (node b r)) ∨ (∃ a b, r = node a b ∧ u = node (node l a) b) := by
  unfold turnsAt at h
  rcases List.mem_append.mp h with h | h
  · cases l with
    | leaf x => simp [turnsL] at h
    | node a b => simp [turnsL] at h; exact .inl ⟨a, b, rfl, h⟩
  · cases r with
    | leaf x => simp [turnsR] at h
    | node a b => simp [turnsR] at h; exact .inr ⟨a, b, rfl, h⟩
theorem mem_atL {a b r : Tr α} : node a (node b r) ∈ turnsAt (node (node a b) r) := by simp [turnsAt, turnsL]
theorem mem_atR {l a b : Tr α} : node (node l a) b ∈ turnsAt (node l (node a b)) := by simp [turnsAt, turnsR]
/-- membership, by cases -/
theorem mem_turns {l r u : Tr α} : u ∈ turns (node l r) ↔ (∃ x ∈ turns l, u = node x r) ∨ (∃ x ∈ turns r, u = node l x) ∨ u ∈ turnsAt (node l r) := by
  rw [turns]
  simp only [List.mem_append, List.mem_map, or_assoc]
  constructor
  · rintro (⟨x, h, rfl⟩ | ⟨x, h, rfl⟩ | h)
    · exact .inl ⟨x, h, rfl⟩
    · exact .inr (.inl ⟨x, h, rfl⟩)
    · exact .inr (.inr h)
  · rintro (⟨x, h, rfl⟩ | ⟨x, h, rfl⟩ | h)
    · exact .inl ⟨x, h, rfl⟩
    · exact .inr (.inl ⟨x, h, rfl⟩)
    · exact .inr (.inr h)
theorem turns_leaves : ∀ {t u : Tr α}, u ∈ turns t → leaves u = leaves t
  | leaf _, u, h => by simp [turns] at h
  | node l r, u, h => by
    rcases mem_turns.mp h with ⟨x, hx, rfl⟩ | ⟨x, hx, rfl⟩ | h
    · simp only [leaves, turns_leaves hx]
    · simp only [leaves, turns_leaves hx]
    · rcases at_spec h with ⟨a, b, rfl, rfl⟩ | ⟨a, b, rfl, rfl⟩ <;> simp only [leaves, List.append_assoc]
theorem turns_size {t u : Tr α} (h : u ∈ turns t) : size u = size t := by rw [← leaves_len, ← leaves_len, turns_leaves h]
theorem turns_rho : ∀ {t u : Tr α}, u ∈ turns t → rho u ≠ rho t
  | leaf _, u, h => by simp [turns] at h
  | node l r, u, h => by
    rcases mem_turns.mp h with ⟨x, hx, rfl⟩ | ⟨x, hx, rfl⟩ | h
    · have := turns_rho hx; simp only [rho]; omega
    · have := turns_rho hx; have := turns_size hx; simp only [rho]; omega
    · rcases at_spec h with ⟨a, b, rfl, rfl⟩ | ⟨a, b, rfl, rfl⟩
      · have := size_pos r; simp only [rho, size]; omega
      · have := size_pos b; simp only [rho, size]; omega
theorem turns_irr {t u : Tr α} (h : u ∈ turns t) : u ≠ t := fun e => turns_rho h (by rw [e])
theorem turns_sym : ∀ {t u : Tr α}, u ∈ turns t → t ∈ turns u
  | leaf _, u, h => by simp [turns] at h
  | node l r, u, h => by
    rcases mem_turns.mp h with ⟨x, hx, rfl⟩ | ⟨x, hx, rfl⟩ | h
    · exact mem_turns.mpr (.inl ⟨l, turns_sym hx, rfl⟩)
    · exact mem_turns.mpr (.inr (.inl ⟨r, turns_sym hx, rfl⟩))
    · rcases at_spec h with ⟨a, b, rfl, rfl⟩ | ⟨a, b, rfl, rfl⟩
      · exact mem_turns.mpr (.inr (.inr mem_atR))
      · exact mem_turns.mpr (.inr (.inr mem_atL))
theorem turns_iff {t u : Tr α} : u ∈ turns t ↔ t ∈ turns u := ⟨turns_sym, turns_sym⟩
theorem map_nodup {β γ : Type} {f : β → γ} (hf : ∀ a b, f a = f b → a = b) {l : List β} (h : l.Nodup) : (l.map f).Nodup := by
  rw [List.Nodup, List.pairwise_map]
  exact List.Pairwise.imp (fun {a b} hab e => hab (hf a b e)) h
theorem at_nodup (l r : Tr α) : (turnsAt (node l r)).Nodup := by
  unfold turnsAt
  cases l with
  | leaf x => cases r with
    | leaf y => simp [turnsL, turnsR]
    | node c d => simp [turnsL, turnsR]
  | node a b => cases r with
    | leaf y => simp [turnsL, turnsR]
    | node c d =>
      simp only [turnsL, turnsR, List.cons_append, List.nil_append, List.nodup_cons, List.mem_singleton, List.not_mem_nil, not_false_eq_true, List.nodup_nil, and_true]
      intro e
      have e1 : a = node (node a b) c := by injection e
      have := congrArg size e1
      have := size_pos b
      simp only [size] at *
      omega
theorem turns_nodup : ∀ t : Tr α, (turns t).Nodup
  | leaf _ => by simp [turns]
  | node l r => by
    rw [turns, List.nodup_append, List.nodup_append]
    refine ⟨⟨map_nodup (fun a b e => by injection e) (turns_nodup l), map_nodup (fun a b e => by injection e) (turns_nodup r), ?_⟩, at_nodup l r, ?_⟩
    · intro x hx y hy e
      obtain ⟨a, ha, rfl⟩ := List.mem_map.mp hx
      obtain ⟨b, hb, rfl⟩ := List.mem_map.mp hy
      injection e with e1 e2
      exact turns_irr ha e1
    · intro x hx y hy e
      subst e
      rcases List.mem_append.mp hx with hx | hx
      · obtain ⟨a, ha, rfl⟩ := List.mem_map.mp hx
        have := turns_size ha
        rcases at_spec hy with ⟨p, q, rfl, e⟩ | ⟨p, q, rfl, e⟩
        · injection e with e1 e2
          subst e1
          have := size_pos q
          simp only [size] at *
          omega
        · injection e with e1 e2
          have e3 := congrArg size e2
          have := size_pos p
          simp only [size] at *
          omega
      · obtain ⟨a, ha, rfl⟩ := List.mem_map.mp hx
        have := turns_size ha
        rcases at_spec hy with ⟨p, q, rfl, e⟩ | ⟨p, q, rfl, e⟩
        · injection e with e1 e2
          have e3 := congrArg size e1
          have := size_pos q
          simp only [size] at *
          omega
        · injection e with e1 e2
          subst e2
          have := size_pos p
          simp only [size] at *
          omega
/-! ### the search that is_turn makes -/
variable [DecidableEq α]
def mTurn : Tr α → Tr α → Bool
  | node l r, node a b => if node l r = node a b then false else if node a b ∈ turnsAt (node l r) then true else if l = a then mTurn r b else if r = b then mTurn l a else false
  | _, _ => false
theorem mTurn_iff : ∀ t u : Tr α, mTurn t u = decide (u ∈ turns t)
  | leaf _, u => by cases u <;> simp [mTurn, turns]
  | node l r, leaf x => by
    have : leaf x ∉ turns (node l r) := fun h => by
      have h1 := turns_size h
      have := size_pos l; have := size_pos r
      simp only [size] at h1
      omega
    rw [mTurn.eq_2 _ _ (by intro _ _ _ _ _ h; cases h), decide_eq_false this]
  | node l r, node a b => by
    rw [mTurn]
    by_cases h0 : node l r = node a b
    · rw [if_pos h0, ← h0]
      exact (decide_eq_false fun h => turns_irr h rfl).symm
    · rw [if_neg h0]
      by_cases h1 : node a b ∈ turnsAt (node l r)
      · rw [if_pos h1]
        exact (decide_eq_true (mem_turns.mpr (.inr (.inr h1)))).symm
      · rw [if_neg h1]
        by_cases h2 : l = a
        · subst h2
          rw [if_pos rfl, mTurn_iff r b]
          apply decide_eq_decide.mpr
          constructor
          · intro h; exact mem_turns.mpr (.inr (.inl ⟨b, h, rfl⟩))
          · intro h
            rcases mem_turns.mp h with ⟨x, hx, e⟩ | ⟨x, hx, e⟩ | h
            · injection e with e1 e2; exact absurd e1.symm (turns_irr hx)
            · injection e with e1 e2; rw [e2]; exact hx
            · exact absurd h h1
        · rw [if_neg h2]
          by_cases h3 : r = b
          · subst h3
            rw [if_pos rfl, mTurn_iff l a]
            apply decide_eq_decide.mpr
            constructor
            · intro h; exact mem_turns.mpr (.inl ⟨a, h, rfl⟩)
            · intro h
              rcases mem_turns.mp h with ⟨x, hx, e⟩ | ⟨x, hx, e⟩ | h
              · injection e with e1 e2; rw [e1]; exact hx
              · injection e with e1 e2; exact absurd e1.symm h2
              · exact absurd h h1
          · rw [if_neg h3]
            symm
            apply decide_eq_false
            intro h
            rcases mem_turns.mp h with ⟨x, hx, e⟩ | ⟨x, hx, e⟩ | h
            · injection e with e1 e2; exact h3 e2.symm
            · injection e with e1 e2; exact h2 e1.symm
            · exact h1 h
end
/-! ### a tree put back into what stands around it -/
section
variable {α : Type}
open Tr
def grow : Tr α → List (Bool × Tr α) → Tr α
  | t, [] => t
  | t, (b, o) :: w => grow (if b = true then node o t else node t o) w
theorem turns_grow {l r : Tr α} {w : List (Bool × Tr α)} : ((turns (node l r)).map (grow · w)) = (turns l).map (grow · ((false, r) :: w)) ++ (turns r).map (grow · ((true, l) :: w)) ++ (turnsAt (node l r)).map (grow · w) := by
  rw [turns, List.map_append, List.map_append, List.map_map, List.map_map]
  rfl
end
/-! ### all bracketings of a row -/
section
variable {α : Type}
open Tr
def treesF : Nat → List α → List (Tr α)
  | 0, _ => []
  | n + 1, row => match row with
    | [] => []
    | [x] => [leaf x]
    | row => (List.range (row.length - 1)).flatMap fun k => (treesF n (row.take (k + 1))).flatMap fun l => (treesF n (row.drop (k + 1))).map fun r => node l r
def trees (row : List α) : List (Tr α) := treesF row.length row
theorem treesF_two {n : Nat} {row : List α} (h : 2 ≤ row.length) : treesF (n + 1) row = (List.range (row.length - 1)).flatMap fun k => (treesF n (row.take (k + 1))).flatMap fun l => (treesF n (row.drop (k + 1))).map fun r => node l r := by
  match row, h with
  | a :: b :: r, _ => rfl
theorem mem_treesF : ∀ (n : Nat) (row : List α), row.length ≤ n → ∀ t, t ∈ treesF n row ↔ leaves t = row
  | 0, row, h, t => by
    have e : row = [] := List.length_eq_zero_iff.mp (by omega)
    subst e
    simp only [treesF, List.not_mem_nil, false_iff]
    intro h
    have h1 := leaves_len t; have := size_pos t
    rw [h] at h1; simp at h1; omega
  | n + 1, row, h, t => by
    match row, h with
    | [], h =>
      simp only [treesF, List.not_mem_nil, false_iff]
      intro h
      have h1 := leaves_len t; have := size_pos t
      rw [h] at h1; simp at h1; omega
    | [x], h =>
      simp only [treesF, List.mem_singleton]
      constructor
      · rintro rfl; rfl
      · intro h
        cases t with
        | leaf y => simp [leaves] at h; rw [h]
        | node l r =>
          have h1 := congrArg List.length h
          simp only [leaves, List.length_append, leaves_len, List.length_singleton] at h1
          have := size_pos l; have := size_pos r
          omega
    | a :: b :: rest, h =>
      generalize hrow : a :: b :: rest = row at h
      have h2 : 2 ≤ row.length := by rw [← hrow]; simp
      rw [treesF_two h2]
      simp only [List.mem_flatMap, List.mem_map, List.mem_range]
      constructor
      · rintro ⟨k, hk, l, hl, r, hr, rfl⟩
        have h3 := (mem_treesF n (row.take (k + 1)) (by rw [List.length_take]; omega) l).mp hl
        have h4 := (mem_treesF n (row.drop (k + 1)) (by rw [List.length_drop]; omega) r).mp hr
        simp only [leaves, h3, h4, List.take_append_drop]
      · intro e
        cases t with
        | leaf y => rw [← e] at h2; simp [leaves] at h2
        | node l r =>
          have hl := leaves_len l; have hr := leaves_len r
          have hp := size_pos l; have hp2 := size_pos r
          have e1 : leaves l ++ leaves r = row := e
          have hlen : row.length = size l + size r := by rw [← e1, List.length_append, hl, hr]
          have ek : size l - 1 + 1 = (leaves l).length := by omega
          refine ⟨size l - 1, by omega, l, (mem_treesF n _ (by rw [List.length_take]; omega) l).mpr ?_, r, (mem_treesF n _ (by rw [List.length_drop]; omega) r).mpr ?_, rfl⟩
          · rw [ek, ← e1, List.take_left]
          · rw [ek, ← e1, List.drop_left]
theorem flatMap_nodup {β γ : Type} {f : β → List γ} : ∀ {l : List β}, l.Nodup → (∀ a ∈ l, (f a).Nodup) → (∀ a ∈ l, ∀ b ∈ l, ∀ x, x ∈ f a → x ∈ f b → a = b) → (l.flatMap f).Nodup
  | [], _, _, _ => by simp
  | a :: l, h, h1, h2 => by
    rw [List.flatMap_cons, List.nodup_append]
    have hn := List.nodup_cons.mp h
    refine ⟨h1 a (by simp), flatMap_nodup hn.2 (fun b hb => h1 b (by simp [hb])) (fun b hb c hc => h2 b (by simp [hb]) c (by simp [hc])), ?_⟩
    intro x hx y hy e
    subst e
    obtain ⟨b, hb, hxb⟩ := List.mem_flatMap.mp hy
    have := h2 a (by simp) b (by simp [hb]) x hx hxb
    subst this
    exact hn.1 hb
theorem treesF_nodup : ∀ (n : Nat) (row : List α), row.length ≤ n → (treesF n row).Nodup
  | 0, row, h => by simp [treesF]
  | n + 1, row, h => by
    match row, h with
    | [], h => simp [treesF]
    | [x], h => simp [treesF]
    | a :: b :: rest, h =>
      generalize hrow : a :: b :: rest = row at h
      have h2 : 2 ≤ row.length := by rw [← hrow]; simp
      rw [treesF_two h2]
      have szL : ∀ k, k < row.length - 1 → ∀ l, l ∈ treesF n (row.take (k + 1)) → size l = k + 1 := fun k hk l hl => by
        rw [← leaves_len, (mem_treesF n _ (by rw [List.length_take]; omega) l).mp hl, List.length_take]
        omega
      refine flatMap_nodup List.nodup_range (fun k hk => ?_) (fun k hk j hj x hx hx2 => ?_)
      · have hk' := List.mem_range.mp hk
        refine flatMap_nodup (treesF_nodup n _ (by rw [List.length_take]; omega)) (fun l _ => map_nodup (fun a b e => by injection e) (treesF_nodup n _ (by rw [List.length_drop]; omega))) (fun l _ l' _ x hx hx2 => ?_)
        obtain ⟨r, _, rfl⟩ := List.mem_map.mp hx
        obtain ⟨r', _, e⟩ := List.mem_map.mp hx2
        injection e with e1 e2
        exact e1.symm
      · have hk' := List.mem_range.mp hk; have hj' := List.mem_range.mp hj
        obtain ⟨l, hl, hx⟩ := List.mem_flatMap.mp hx
        obtain ⟨r, _, rfl⟩ := List.mem_map.mp hx
        obtain ⟨l', hl', hx2⟩ := List.mem_flatMap.mp hx2
        obtain ⟨r', _, e⟩ := List.mem_map.mp hx2
        injection e with e1 e2
        subst e1
        have := szL k hk' _ hl; have := szL j hj' _ hl'
        omega
theorem mem_trees {row : List α} {t : Tr α} : t ∈ trees row ↔ leaves t = row := mem_treesF _ _ (Nat.le_refl _) t
theorem trees_nodup (row : List α) : (trees row).Nodup := treesF_nodup _ _ (Nat.le_refl _)
/-- as many of all bracketings are one turn away as turns lists -/
theorem count_turns [DecidableEq α] {row : List α} {t : Tr α} (h : t ∈ trees row) : ((trees row).filter fun u => mTurn t u).length = (turns t).length := by
  have hp : ((trees row).filter fun u => mTurn t u).Perm (turns t) := by
    rw [List.perm_ext_iff_of_nodup ((trees_nodup row).filter _) (turns_nodup t)]
    intro u
    rw [List.mem_filter, mTurn_iff, decide_eq_true_eq]
    constructor
    · exact fun h => h.2
    · intro hu
      exact ⟨mem_trees.mpr ((turns_leaves hu).trans (mem_trees.mp h)), hu⟩
  exact hp.length_eq
end
end TrA
namespace TrA
section
variable {α : Type}
open Tr
theorem treesF_eq : ∀ (n m : Nat) (row : List α), row.length ≤ n → row.length ≤ m → treesF n row = treesF m row
  | 0, m, row, h, _ => by
    have e : row = [] := List.length_eq_zero_iff.mp (by omega)
    subst e
    cases m <;> rfl
  | n + 1, 0, row, _, h => by
    have e : row = [] := List.length_eq_zero_iff.mp (by omega)
    subst e
    rfl
  | n + 1, m + 1, row, h, h' => by
    match row, h, h' with
    | [], _, _ => rfl
    | [x], _, _ => rfl
    | a :: b :: rest, h, h' =>
      generalize hrow : a :: b :: rest = row at h h'
      have h2 : 2 ≤ row.length := by rw [← hrow]; simp
      rw [treesF_two h2, treesF_two h2]
      apply congrArg List.flatten
      apply List.map_congr_left
      intro k hk
      have hk' := List.mem_range.mp hk
      rw [treesF_eq n m (row.take (k + 1)) (by rw [List.length_take]; omega) (by rw [List.length_take]; omega), treesF_eq n m (row.drop (k + 1)) (by rw [List.length_drop]; omega) (by rw [List.length_drop]; omega)]
theorem trees_one (x : α) : trees [x] = [leaf x] := rfl
theorem trees_two {row : List α} (h : 2 ≤ row.length) : trees row = (List.range (row.length - 1)).flatMap fun k => (trees (row.take (k + 1))).flatMap fun l => (trees (row.drop (k + 1))).map fun r => node l r := by
  unfold trees
  obtain ⟨n, hn⟩ : ∃ n, row.length = n + 1 := ⟨row.length - 1, by omega⟩
  rw [hn, treesF_two h]
  apply congrArg List.flatten
  rw [hn]
  apply List.map_congr_left
  intro k hk
  have hk' := List.mem_range.mp hk
  rw [treesF_eq n (row.take (k + 1)).length (row.take (k + 1)) (by rw [List.length_take]; omega) (Nat.le_refl _), treesF_eq n (row.drop (k + 1)).length (row.drop (k + 1)) (by rw [List.length_drop]; omega) (Nat.le_refl _)]
def catF : Nat → Nat → Nat
  | 0, _ => 0
  | n + 1, m => if m ≤ 1 then m else ((List.range (m - 1)).map fun k => catF n (k + 1) * catF n (m - (k + 1))).sum
theorem len_flatMap {β γ : Type} (f : β → List γ) (l : List β) : (l.flatMap f).length = (l.map fun a => (f a).length).sum := by
  induction l with
  | nil => rfl
  | cons a l ih => rw [List.flatMap_cons, List.length_append, ih]; rfl
theorem treesF_len : ∀ (n : Nat) (row : List α), row.length ≤ n → (treesF n row).length = catF n row.length
  | 0, row, h => rfl
  | n + 1, row, h => by
    match row, h with
    | [], _ => rfl
    | [x], _ => rfl
    | a :: b :: rest, h =>
      generalize hrow : a :: b :: rest = row at h
      have h2 : 2 ≤ row.length := by rw [← hrow]; simp
      rw [treesF_two h2, len_flatMap]
      unfold catF
      rw [if_neg (by omega)]
      apply congrArg List.sum
      apply List.map_congr_left
      intro k hk
      have hk' := List.mem_range.mp hk
      rw [len_flatMap]
      have e : ∀ l ∈ treesF n (row.take (k + 1)), ((treesF n (row.drop (k + 1))).map fun r => node l r).length = catF n (row.length - (k + 1)) := fun l _ => by
        rw [List.length_map, treesF_len n _ (by rw [List.length_drop]; omega), List.length_drop]
      have e2 : (treesF n (row.take (k + 1))).map (fun l => ((treesF n (row.drop (k + 1))).map fun r => node l r).length) = List.replicate (catF n (k + 1)) (catF n (row.length - (k + 1))) := by
        have e3 : catF n (k + 1) = (treesF n (row.take (k + 1))).length := by
          rw [treesF_len n _ (by rw [List.length_take]; omega), List.length_take]
          congr 1
          omega
        rw [e3, List.eq_replicate_iff]
        refine ⟨by rw [List.length_map], fun b hb => ?_⟩
        obtain ⟨l, hl, rfl⟩ := List.mem_map.mp hb
        exact e l hl
      rw [e2]
      simp
theorem trees_len {row : List α} (h : row.length ≤ 7) : (trees row).length ≤ 132 := by
  unfold trees
  rw [treesF_len _ _ (Nat.le_refl _)]
  have : ∀ m, m ≤ 7 → catF m m ≤ 132 := by decide +kernel
  exact this _ h
/-! ### a leaf replaced -/
def ren (x : α) : Tr α → Int → Tr α × Nat
  | leaf y, p => (if p = 0 then leaf x else leaf y, 1)
  | node l r, p => (node (ren x l p).1 (ren x r (p - (ren x l p).2)).1, (ren x l p).2 + (ren x r (p - (ren x l p).2)).2)
theorem ren_two (x : α) : ∀ (t : Tr α) (p : Int), (ren x t p).2 = size t
  | leaf _, _ => rfl
  | node l r, p => by simp only [ren, size, ren_two x l, ren_two x r]
theorem ren_size (x : α) : ∀ (t : Tr α) (p : Int), size (ren x t p).1 = size t
  | leaf y, p => by simp only [ren]; split <;> rfl
  | node l r, p => by simp only [ren, size, ren_size x l, ren_size x r]
theorem ren_leaves (x : α) : ∀ (t : Tr α) (p : Int) (y : α), y ∈ leaves (ren x t p).1 → y = x ∨ y ∈ leaves t
  | leaf z, p, y, h => by
    simp only [ren] at h
    split at h <;> simp [leaves] at h ⊢ <;> simp [h]
  | node l r, p, y, h => by
    simp only [ren, leaves, List.mem_append] at h ⊢
    rcases h with h | h
    · rcases ren_leaves x l _ y h with h | h
      · exact .inl h
      · exact .inr (.inl h)
    · rcases ren_leaves x r _ y h with h | h
      · exact .inl h
      · exact .inr (.inr h)
theorem ren_mem (x : α) : ∀ (t : Tr α) (p : Int), 0 ≤ p → p < size t → x ∈ leaves (ren x t p).1
  | leaf z, p, h0, h1 => by
    simp only [size] at h1
    have e : p = 0 := by omega
    simp [ren, e, leaves]
  | node l r, p, h0, h1 => by
    simp only [size] at h1
    simp only [ren, leaves, List.mem_append, ren_two]
    by_cases h : p < size l
    · exact .inl (ren_mem x l p h0 h)
    · exact .inr (ren_mem x r _ (by omega) (by omega))
end
end TrA
end
section
set_option Elab.async false
set_option maxRecDepth 100000
set_option linter.all false
set_option autoImplicit false
/-! DL9: trees of names as data -/
namespace DL
open PySem PySem.Spec PyProof.Rows L2 TL TrA
open TrA.Tr
variable [TabCtx]
abbrev T := Tr Str
def td : T → D
  | leaf x => .str x
  | node l r => .tup [td l, td r]
theorem td_node {l r : T} : td (node l r) = .tup [td l, td r] := rfl
theorem td_leaf {x : Str} : td (leaf x) = .str x := rfl
theorem td_inj : ∀ {t u : T}, td t = td u → t = u
  | leaf x, leaf y, h => by injection h with h; rw [h]
  | leaf _, node _ _, h => by cases h
  | node _ _, leaf _, h => by cases h
  | node a b, node c d, h => by
    injection h with h
    injection h with h1 h2
    injection h2 with h2 _
    rw [td_inj h1, td_inj h2]
theorem td_plain : ∀ t : T, (td t).plain = true
  | leaf _ => rfl
  | node l r => by simp [td, D.plain, D.plains, td_plain l, td_plain r]
theorem td_eqv : ∀ t u : T, PyData.eqv (td t).py (td u).py = decide (t = u)
  | leaf x, leaf y => by
    simp only [td, D.py, PyData.eqv]
    by_cases h : x = y
    · subst h; simp
    · have h2 : ¬ leaf x = leaf y := fun e => h (by injection e)
      rw [decide_eq_false h2]; simpa using h
  | leaf _, node _ _ => by simp [td, D.py, PyData.eqv]
  | node _ _, leaf _ => by simp [td, D.py, PyData.eqv]
  | node a b, node c d => by
    simp only [td, D.py, D.pys, PyData.eqv, PyData.eqvAll, td_eqv a c, td_eqv b d, Bool.and_true]
    by_cases h1 : a = c
    · by_cases h2 : b = d
      · subst h1; subst h2; simp
      · simp [h1, h2]
    · simp [h1]
theorem td_depth : ∀ t : T, (td t).py.depth = height t
  | leaf _ => rfl
  | node l r => by
    simp only [td, D.py, D.pys, PyData.depth, PyData.depthAll, height, td_depth l, td_depth r]
    omega
theorem Nm.all {x : Str} (h : Nm x) : ∀ c ∈ tl x, Let c := by
  obtain ⟨st, c, hs, hc, e⟩ := h
  intro d hd
  rw [e] at hd
  rcases List.mem_append.mp hd with z | z
  · exact hs.1 d z
  · have : d = c := by simpa using z
    rw [this]; exact hc
theorem Nm.ok {x : Str} (h : Nm x) : PyData.strOk x = true := by
  have h1 := h.all
  unfold PyData.strOk
  rw [← Array.all_toList, List.all_eq_true]
  intro c hc
  have := h1 c hc
  unfold Let at this
  simp only [decide_eq_true_eq]
  omega
def NT (t : T) : Prop := ∀ x ∈ leaves t, Nm x
theorem NT.l {l r : T} (h : NT (node l r)) : NT l := fun x hx => h x (List.mem_append_left _ hx)
theorem NT.r {l r : T} (h : NT (node l r)) : NT r := fun x hx => h x (List.mem_append_right _ hx)
theorem td_lay : ∀ {t : T}, NT t → (td t).py.canLay0 = true
  | leaf x, h => by simp only [td, D.py, PyData.canLay0]; exact (h x (by simp [leaves])).ok
  | node l r, h => by simp [td, D.py, D.pys, PyData.canLay0, PyData.canLayAll0, td_lay h.l, td_lay h.r]
theorem td_asPy {R : Rs} (t : T) : AsPy R (td t) (td t).py := .inl ⟨td_plain t, rfl⟩
theorem td_shaped {t : T} (h : NT t) (hh : height t ≤ 64) : SeqAt.shaped (td t).py = true := by
  show ((td t).py.canLay0 && decide ((td t).py.depth ≤ 64)) = true
  rw [td_lay h, td_depth, decide_eq_true hh]
  rfl
theorem eqT {R : Rs} {Q : DK} {t u : T} (ht : NT t) (hu : NT u) (h1 : height t ≤ 64) (h2 : height u ≤ 64) (q : Q (.bl (decide (t = u))) R) : rdEqD false (td t) (td u) R Q :=
  ⟨_, _, td_asPy t, td_asPy u, td_shaped ht h1, td_shaped hu h2, by rw [td_eqv]; simpa using q⟩
theorem neT {R : Rs} {Q : DK} {t u : T} (ht : NT t) (hu : NT u) (h1 : height t ≤ 64) (h2 : height u ≤ 64) (q : Q (.bl (!decide (t = u))) R) : rdEqD true (td t) (td u) R Q :=
  ⟨_, _, td_asPy t, td_asPy u, td_shaped ht h1, td_shaped hu h2, by rw [td_eqv]; simpa using q⟩
theorem plains_td : ∀ l : List T, D.plains (l.map td) = true
  | [] => rfl
  | t :: l => by simp [D.plains, td_plain t, plains_td l]
theorem pys_td (l : List T) : D.pys (l.map td) = l.map fun t => (td t).py := by rw [pys_map, List.map_map]; rfl
theorem shaped_tds {l : List T} (h : ∀ t ∈ l, NT t ∧ height t ≤ 63) : SeqAt.shaped (.list (l.map fun t => (td t).py)) = true := by
  have h1 : PyData.canLayAll0 (l.map fun t => (td t).py) = true := by
    induction l with
    | nil => rfl
    | cons a l ih => simp only [List.map_cons, PyData.canLayAll0, td_lay (h a (by simp)).1, ih fun t ht => h t (by simp [ht]), Bool.and_true]
  have h2 : PyData.depthAll (l.map fun t => (td t).py) ≤ 63 := by
    clear h1
    induction l with
    | nil => simp [PyData.depthAll]
    | cons a l ih =>
      have := ih fun t ht => h t (by simp [ht])
      have := (h a (by simp)).2
      simp only [List.map_cons, PyData.depthAll, td_depth]
      omega
  show (PyData.canLay0 (.list (l.map fun t => (td t).py)) && decide (PyData.depth (.list (l.map fun t => (td t).py)) ≤ 64)) = true
  rw [PyData.canLay0, h1, PyData.depth, decide_eq_true (by omega)]
  rfl
theorem any_td (u : T) (l : List T) : ((l.map fun t => (td t).py).any fun z => PyData.eqv z (td u).py) = decide (u ∈ l) := by
  induction l with
  | nil => rfl
  | cons a l ih =>
    rw [List.map_cons, List.any_cons, ih, td_eqv]
    by_cases h : a = u
    · subst h; simp
    · have h2 : ¬ u = a := fun e => h e.symm
      simp [h, h2]
theorem inT {R : Rs} {Q : DK} {u : T} {l : List T} (hu : NT u) (h1 : height u ≤ 64) (h : ∀ t ∈ l, NT t ∧ height t ≤ 63) (q : Q (.bl (decide (u ∈ l))) R) : rdInD false (td u) (.lst (l.map td)) R Q :=
  ⟨_, _, td_asPy u, .inl ⟨by rw [D.plain]; exact plains_td l, by rw [D.py, pys_td]⟩, td_shaped hu h1, shaped_tds h, by rw [any_td]; simpa using q⟩
/-- isinstance(t, tuple) -/
def isNode : T → Bool
  | leaf _ => false
  | node _ _ => true
theorem isi_T {R : Rs} {Q : DK} {t : T} : rdIsi kitB [td t, .ty "tuple"] R Q ↔ Q (.bl (isNode t)) R := by
  cases t with
  | leaf x => exact isi_st
  | node l r => exact isi_tt
end DL
end
section
set_option Elab.async false
set_option linter.all false
set_option maxRecDepth 100000
set_option maxHeartbeats 4000000
set_option autoImplicit false
/-! DLA: more rules: a target list that takes a list apart, a tuple times an int. -/
namespace DL
open PySem PySem.Spec PyProof.Rows L2
variable [TabCtx]
section
variable {X : CxF} {es : List Expr} {pos : Pos}
def dgLst (n : Nat) (t : DTGs) : DTG := fun d s R Q => ∃ ds, trk R d = some ds ∧ ds.length = n ∧ t ds s R Q
theorem dg_lst {x1} {n : Nat} {t : DTGs} (hc : X.calm = true) (h : DGs X es t) (hn : (assignEach es X.env).length = n := by rfl) (hst : (assignEach es X.env).findIdx? (·.1) = none := by rfl) : DG X (.Tuple es x1 pos) (dgLst n t) := by
  obtain ⟨t1, a1, a2⟩ := h
  subst hn
  refine ⟨_, pg_lst hc a1 rfl hst, fun G sd s R H d v Qd Q sv rh dv q k => ?_⟩
  obtain ⟨ds, hd, hl, q⟩ := q
  obtain ⟨a, vs, rfl, h1, h2⟩ := trk_dv hd rh dv
  exact ⟨_, _, rfl, .of h1, by rw [← h2.length]; exact hl, a2 G sd s R H _ _ _ _ sv rh h2 q k⟩
theorem DVs.rep {K : PySem.W.Frag} {G : Hp} {xs : List D} {vs : List V} (h : DVs K G xs vs) : ∀ n : Nat, DVs K G (List.replicate n xs).flatten (List.replicate n vs).flatten
  | 0 => .nil
  | n + 1 => by
    rw [List.replicate_succ, List.replicate_succ, List.flatten_cons, List.flatten_cons]
    exact h.append (h.rep n)
theorem od_repT : OpD X (binaryOp .Mult) (fun x y R Q => ∃ xs k, x = .tup xs ∧ y = .int k ∧ xs ≠ [] ∧ 2 ≤ k ∧ k ≤ 1000 ∧ xs.length ≤ 1000 ∧ Q (.tup (List.replicate k.toNat xs).flatten) R) := ⟨_, op_repT, fun G R H x y xd yd Qd Q rh dx dy ⟨xs, k, hx, hy, h0, h1, h2, h3, q⟩ kk => by
  subst hx; subst hy
  cases dy
  cases dx with
  | @tup a vs _ t1 d1 =>
    refine ⟨a, k, vs, rfl, rfl, SqT.same rh.g t1, fun e => h0 ?_, h1, h2, by rw [← d1.length]; exact h3, fun p hp => ?_⟩
    · subst e; cases d1; rfl
    · obtain ⟨s1, rh2⟩ := rh.imm (o := .tup (List.replicate k.toNat vs).flatten) hp
      exact kk _ R _ _ _ s1 rh2 (.tup (.inl (.inl upd_same)) ((d1.rep k.toNat).st s1)) q⟩
end
theorem neBB {R : Rs} {Q : DK} {a b : Bool} (q : Q (.bl (a != b)) R) : rdEqD true (.lst [.bl a, .bl a]) (.lst [.bl b, .bl b]) R Q :=
  ⟨_, _, .inl ⟨rfl, rfl⟩, .inl ⟨rfl, rfl⟩, by cases a <;> rfl, by cases b <;> rfl, by cases a <;> cases b <;> exact q⟩
theorem cut_take' {xs : List D} {k : Int} (h0 : 0 ≤ k) : cutD xs none (some k) = xs.take k.toNat := by
  by_cases h : k ≤ (xs.length : Int)
  · exact cut_take h0 h
  · unfold cutD
    have e1 : HT.sIx xs.length 0 none = 0 := rfl
    have e2 : HT.sIx xs.length xs.length (some k) = xs.length := by
      unfold HT.sIx
      simp only []
      split <;> omega
    rw [e1, e2, List.take_of_length_le (show xs.length ≤ k.toNat by omega)]
    simp
/-- no tables of code objects are told -/
def noTabs : TabCtx := ⟨fun _ => none⟩
/-- the law's script, as the row hands it -/
theorem vals_int {K : PySem.W.Frag} {G : Hp} : ∀ ns : List Int, DVs K G (ns.map D.int) (ns.map V.int)
  | [] => .nil
  | _ :: ns => .cons (.int _) (vals_int ns)
theorem script_okG {K : KB} {dsp : DSp} {G H : Hp} {a : Addr} {ns : List Int} (h : ∀ (R : Rs) (Ed : DXK), dsp [.rls (ns.map D.int)] R (fun d _ => d = .bl true) Ed) (hg : Same G H) (hb : K.B.p G (fun _ => none) H) (hS : SqL K G a (ns.map V.int)) : spOf K dsp [.ref a] H (fun v _ => v = .bl true) (fun _ _ _ => False) :=
  ⟨G, _, fun _ => none, _, fun _ _ _ => False, .cons (.rls hS (vals_int ns)) .nil, ⟨hg, fun a ro e => (by cases e), trivial, hb⟩, h _ _, fun G1 R1 H1 d v e1 rh1 dv1 q1 => by subst q1; cases dv1; rfl, fun _ _ _ _ _ _ _ _ _ z => z⟩
theorem script_ok {K : PySem.W.Frag} {dsp : DSp} {H : Hp} {a : Addr} {ns : List Int} (h : ∀ (R : Rs) (Ed : DXK), dsp [.rls (ns.map D.int)] R (fun d _ => d = .bl true) Ed) (hS : SqL K H a (ns.map V.int)) : spOf ⟨K, .all⟩ dsp [.ref a] H (fun v _ => v = .bl true) (fun _ _ _ => False) :=
  script_okG h (fun _ _ e => e) trivial hS
theorem take_step {α β : Type} {l : List α} {c : α → β} {i : Nat} {x : β} (hx : (l.map c)[i]? = some x) : ∃ v, x = c v ∧ v ∈ l ∧ l[i]? = some v ∧ l.take (i + 1) = l.take i ++ [v] := by
  rw [List.getElem?_map] at hx
  cases hv : l[i]? with
  | none => rw [hv] at hx; cases hx
  | some v =>
    rw [hv] at hx
    cases hx
    exact ⟨v, rfl, List.mem_of_getElem? hv, rfl, by rw [List.take_succ, hv]; rfl⟩
theorem range_step {n i : Nat} {x : D} {c : Nat → D} (hx : ((List.range n).map c)[i]? = some x) : x = c i ∧ i < n := by
  obtain ⟨v, rfl, hv, hi, _⟩ := take_step hx
  have hl : i < n := by
    obtain ⟨z, _⟩ := List.getElem?_eq_some_iff.mp hi
    simpa using z
  rw [List.getElem?_range hl] at hi
  cases hi
  exact ⟨rfl, hl⟩
end DL
end
section
set_option Elab.async false
set_option linter.all false
set_option maxRecDepth 100000
set_option maxHeartbeats 4000000
set_option autoImplicit false
/-! DLS: sorted(set(texts)), len(set(texts)). -/
namespace DL
open PySem PySem.Spec PyProof.Rows L2 PySem.Froz
variable [TabCtx]
abbrev kTx (e : Int × Value) : Str := strOf e.2
/-- the payload of a set of texts that can be walked -/
structure TS (P : Program) (w : World) (D : SD) (l : List Str) : Prop where
  ok : TxOk P w D l
  nd : l.Nodup
  ks : (D.1.toList.map kTx).Perm l
  vs : ∀ e ∈ D.1.toList, ∃ x u, e.2 = Value.str x u
  ris : Ris D.2.2.place.toList
  led : w.params.followText "set-order" = true ∨ D.2.2.led = true
section
variable {P : Program} {w : World} {A : Around} {E : Value → Shared → Prop} {s : Shared}
theorem TS.new : TS P w (#[], 0, .fresh 0 0 (!w.params.followText "set-order")) [] where
  ok := TxOk.nil rfl
  nd := List.nodup_nil
  ks := List.Perm.refl _
  vs := fun e he => by simp at he
  ris := List.Pairwise.nil
  led := by
    show _ ∨ (!w.params.followText "set-order") = true
    cases w.params.followText "set-order" with
    | false => exact .inr rfl
    | true => exact .inl rfl
theorem TS.add {D : SD} {l : List Str} {k : Str} (u : Tok) (T : TS P w D l) (hk : k ∉ l) : TS P w (addTx (hashStr w k) (.str k u) D) (k :: l) := by
  obtain ⟨es, ep, t⟩ := D
  have lp := layNew_perm t es (hashStr w k) (.str k u)
  have lr := layNew_ris t es (hashStr w k) (.str k u) T.ris
  have ll := layNew_led t es (hashStr w k) (.str k u)
  have F := add_ok u T.ok (k := k)
  have tks := T.ks; have tvs := T.vs; have tled := T.led
  unfold addTx tailTx at F ⊢
  dsimp only at F lp lr ll tks tvs tled ⊢
  generalize layNew t es (hashStr w k) (.str k u) = L at F lp lr ll ⊢
  obtain ⟨e1, t1, d1, g1⟩ := L
  dsimp only at F lp lr ll ⊢
  rw [Array.toList_push] at lp
  have p1 : (e1.toList.map kTx).Perm (k :: l) := (lp.map kTx).trans (by
    rw [List.map_append]
    exact (List.perm_append_singleton _ _).trans (tks.cons k))
  have v1 : ∀ e ∈ e1.toList, ∃ x u, e.2 = Value.str x u := fun e he => by
    rcases List.mem_append.mp (lp.mem_iff.mp he) with z | z
    · exact tvs e z
    · rw [List.mem_singleton.mp z]; exact ⟨k, u, rfl⟩
  have r2 : Ris (if t1.plain = true then { t1 with plain := false } else t1).place.toList := by split <;> exact lr
  have l2 : w.params.followText "set-order" = true ∨ (if t1.plain = true then { t1 with plain := false } else t1).led = true := by
    rcases tled with z | z
    · exact .inl z
    · refine .inr ?_
      rw [← ll] at z
      split <;> exact z
  generalize (if t1.plain = true then { t1 with plain := false } else t1) = t2 at F r2 l2 ⊢
  refine ⟨F, List.nodup_cons.mpr ⟨hk, T.nd⟩, ?_, ?_, ?_, ?_⟩ <;> split
  · exact ((relayAll_perm t2 e1 _).map kTx).trans p1
  · exact p1
  · exact fun e he => v1 e ((relayAll_perm t2 e1 _).mem_iff.mp he)
  · exact v1
  · exact relayAll_ris t2 e1 _
  · exact r2
  · exact l2.imp id fun z => by rw [relayAll_led]; exact z
  · exact l2
/-- a text that is there already -/
theorem again_x {a : Addr} {D : SD} {l : List Str} {k : Str} {u : Tok} {Q : Bool → Shared → Prop} (go : s.heap.get? a = some (sObj "set" D)) (T : TxOk P w D l) (hk : k ∈ l) (hb : l.length < scanBound)
    (h : Q false s) : wpAny (model P w) A (setAddHashed a (.str k u) (hashStr w k)) Q E s := by
  obtain ⟨es, ep, t⟩ := D
  have gd : (sObj "set" (es, ep, t)).data = .set es ep t := rfl
  have gf : t.fits es.size = true := T.fit
  have ge : ElemsOf (PySem.strKind P w) es.toList := T.el
  have gz : es.size = l.length := T.sz
  unfold setAddHashed setAddHashedIn
  refine wpAny_holding (wpAny_bind (wpAny_setState_of go gd gf ?_))
  dsimp only
  rw [byScan_of rfl (by omega) ge]
  simp only [↓reduceIte]
  unfold setAddByScan
  refine wpAny_bind ?_
  refine wpAny_bind (wpAny_rule ?_)
  refine wpAny_bind (wpAny_setScan_of (knd := PySem.strKind P w) (k := k) (is_str k u) go gd gf ge ?_)
  cases fi : List.findIdx? (fun e => (PySem.strKind P w).is k e.2) es.toList with
  | some j =>
    dsimp only
    exact wpAny_pure (wpAny_pure h)
  | none =>
    obtain ⟨e, he, z⟩ := (T.mem k).mp hk
    have c := List.findIdx?_eq_none_iff.mp fi e he
    rw [z] at c
    cases c
end
section
variable {P : Program} {w : World} {A : Around} {R : Result → Shared → Prop} {I : Addr} {fp wr : List Addr} {G : Array GenState → Array GenState → Prop} {n : Nat} {Pv : Nat → Value → Prop} {St : Nat → Shared → Prop}
/-- what the loop has gathered -/
def Gat (P : Program) (w : World) (S : Addr) (xs : List Str) (i : Nat) (s : Shared) : Prop := ∃ D l, s.heap.get? S = some (sObj "set" D) ∧ TS P w D l ∧ l.length ≤ i ∧ ∀ x, x ∈ l ↔ x ∈ xs.take i
theorem loopTx (W : WalksS P w A.in1 I fp wr G n Pv St) (S : Addr) (hS : S ∉ fp) (xs : List Str) (hz : xs.length = n) (hb : n + 1 < scanBound) (val : ∀ i v, Pv i v → ∃ t, v = .str (xs.getD i Str.empty) t) :
    ∀ (k i : Nat) (s : Shared), n - i = k → i ≤ n → St i s → Gat P w S xs i s → (∀ s', Moved (S :: wr) G s s' → Gat P w S xs n s' → R (.ok (.ret .none)) s') → codeAny (model P w) A (.builtin "set.update.loop" ⟨[.ref S, .ref I], []⟩) R s := by
  have nw : S ∉ wr := fun z => hS (W.sub _ z)
  have more : ∀ b ∈ wr, b ∈ S :: wr := fun b z => List.mem_cons_of_mem _ z
  intro k
  induction k with
  | zero =>
    intro i s e1 e2 st g fin
    obtain rfl : i = n := by omega
    refine codeAny_builtin PyProof.Rows.F.entry_set_update_loop ?_
    rw [Around.under_plainId PyProof.Rows.F.plain_set_update_loop _]
    show wpAny _ A.in1 (pyNext (.ref I) >>= _) _ _ s
    refine wpAny_bind (W.done s _ _ st fun s1 mv => ?_)
    obtain ⟨D, l, h1, h2, h3, h4⟩ := g
    exact wpAny_pure (fin s1 (mv.mono more) ⟨D, l, mv.heap S _ nw h1, h2, h3, h4⟩)
  | succ k ih =>
    intro i s e1 e2 st g fin
    have lt : i < n := by omega
    refine codeAny_builtin PyProof.Rows.F.entry_set_update_loop ?_
    rw [Around.under_plainId PyProof.Rows.F.plain_set_update_loop _]
    show wpAny _ A.in1 (pyNext (.ref I) >>= _) _ _ s
    refine wpAny_bind (W.item i s _ _ lt st fun v s1 pv st1 mv => ?_)
    obtain ⟨t, rfl⟩ := val i v pv
    obtain ⟨D, l, h1, h2, h3, h4⟩ := g
    have h1' := mv.heap S _ nw h1
    obtain ⟨x, hx⟩ : ∃ x, xs[i]? = some x := ⟨_, List.getElem?_eq_getElem (by omega)⟩
    have ex : xs.getD i Str.empty = x := by rw [List.getD_eq_getElem?_getD, hx]; rfl
    rw [ex]
    have tk : ∀ y, y ∈ xs.take (i + 1) ↔ y ∈ l ∨ y = x := fun y => by
      rw [List.take_add_one, hx, List.mem_append, ← h4 y]
      simp
    show wpAny _ A.in1 (holding [Value.str x t] (setAdd S (.str x t)) >>= _) _ _ s1
    refine wpAny_bind (wpAny_holding ?_)
    unfold setAdd
    refine wpAny_holding ?_
    refine wpAny_bind ((PySem.strKind P w).pyHash (k := x) (is_str x t) ?_)
    -- behind the add: a heap that differs at S alone
    have next : ∀ (hp : Heap), (∀ b, b ≠ S → hp.get? b = s1.heap.get? b) → Gat P w S xs (i + 1) { s1 with heap := hp, toks := s1.toks + 1 } →
        codeAny (model P w) A (.builtin "set.update.loop" ⟨[.ref S, .ref I], []⟩) R { s1 with heap := hp, toks := s1.toks + 1 } := fun hp oth g2 => by
      refine ih (i + 1) _ (by omega) lt (W.frame _ s1 _ _ st1 (Nat.le_succ _) fun b z o e => ?_) g2 fun s2 mv2 g3 => fin s2 (Moved.trans W.gtrans ((mv.mono more).then_heap (Nat.le_succ _) fun b o z e => ?_) mv2) g3
      · exact (oth b fun q => hS (q ▸ z)).trans e
      · exact (oth b fun q => z (q ▸ List.mem_cons_self)).trans e
    by_cases c : x ∈ l
    · refine again_x (s := { s1 with toks := s1.toks + 1 }) h1' h2.ok c (by omega) ?_
      exact wpAny_pure ⟨plainId_quiet PyProof.Rows.F.plain_set_update_loop _, next s1.heap (fun _ _ => rfl) ⟨D, l, h1', h2, by omega, fun y => Iff.trans ⟨.inl, fun z => z.elim id fun e => e ▸ c⟩ (tk y).symm⟩⟩
    · refine add_x (s := { s1 with toks := s1.toks + 1 }) h1' h2.ok c (by omega) ?_
      refine wpAny_pure ⟨plainId_quiet PyProof.Rows.F.plain_set_update_loop _, next _ (fun b z => Heap.get?_update_other _ _ (Ne.symm z)) ⟨_, x :: l, get_upd _ h1' rfl, h2.add t c, by rw [List.length_cons]; omega, fun y => ?_⟩⟩
      rw [tk y, List.mem_cons]
      exact Or.comm
end
section
variable {P : Program} {w : World} {A : Around} {E : Value → Shared → Prop} {s : Shared}
abbrev newSet (w : World) : Obj := { cls := .type "set", dict := none, data := .set #[] 0 (.fresh 0 0 (!w.params.followText "set-order")) }
/-- the set at a holds the texts of xs -/
def SetTx (P : Program) (w : World) (a : Addr) (xs : List Str) (h : Heap) : Prop := ∃ D l, h.get? a = some (sObj "set" D) ∧ TS P w D l ∧ l.length ≤ xs.length ∧ ∀ x, x ∈ l ↔ x ∈ xs
/-- set(xs), xs a list of texts -/
theorem set_texts {l : Addr} {items : Array Value} {xs : List Str} {Q : Value → Shared → Prop} (calm : A.handled = none) (hl : s.heap.IsList l items) (ht : StrsAre items.toList xs) (few : xs.length + 1 < scanBound)
    (fin : ∀ (hp : Heap) (tk : Nat), SetTx P w s.heap.objs.size xs hp → (∀ b o, s.heap.get? b = some o → hp.get? b = some o) → Q (.ref s.heap.objs.size) { s with heap := hp, toks := tk }) :
    wpAny (model P w) A (call (.type "set") [.ref l]) Q E s := by
  have lenI : xs.length = items.size := by rw [← StrsAre.len_eq ht, Array.length_toList]
  obtain ⟨c, tl, hmro⟩ := PySem.F.called_set.mro
  have w1 := PySem.F.called_set.made
  have w2 := PySem.F.called_set.sub
  refine wpAny_call (codeAny_of_tree ?_)
  show wpAny _ _ (callAny (.type "set") _) _ _ _
  refine wpAny_pure ⟨Code.quiet_builtin _ (by decide +kernel), codeAny_builtin PySem.F.entry_type_call ?_⟩
  rw [Around.under_plain (weight_type_call_type "set" [.ref l] []) rfl]
  have w3 := PySem.F.called_set.notType
  have w4 := PySem.F.called_set.canCreate
  have w5 := PySem.F.typeCall_set_1 (.ref l)
  repeat (any_goals (first | assumption | wp_step))
  refine codeAny_mono (code_set_led1 (.ref l) (E := E) (Q₁ := fun obj s1 => obj = .ref s.heap.objs.size ∧ s1 = { s with heap := s.heap.push (newSet w) }) ⟨rfl, rfl⟩) fun r s1 hr => ?_
  cases r with
  | error e => exact hr
  | ok fl =>
    cases fl with
    | ret obj =>
      obtain ⟨rfl, rfl⟩ := hr
      have gS : (s.heap.push (newSet w)).get? s.heap.objs.size = some (newSet w) := Heap.get?_push_size _ rfl
      have gT : Shared.TypeIs { s with heap := s.heap.push (newSet w) } (.ref s.heap.objs.size) "set" := ⟨_, gS, rfl⟩
      have w6 := PySem.F.called_set.init.lookup
      have w7 := PySem.F.called_set.init.bind (.ref s.heap.objs.size)
      repeat (any_goals (first | assumption | wp_step))
      refine codeAny_mono (codeAny_call_builtin (R := wants (fun r s2 => r = .none ∧ ∃ hp tk, s2 = { s with heap := hp, toks := tk } ∧ SetTx P w s.heap.objs.size xs hp ∧ (∀ b o, s.heap.get? b = some o → hp.get? b = some o)) E)
        PySem.F.called_set.init.plain PySem.F.entry_set_init (check_set_init_1 gT ?_)) fun r2 s2 hr2 => ?_
      · obtain ⟨ol, hol, hcl, nl, hdl⟩ := hl
        obtain ⟨ocls, odict, odata, oslots⟩ := ol
        simp only at hcl hdl
        subst hcl; subst hdl
        have gl : (s.heap.push (newSet w)).get? l = some { cls := .type "list", dict := odict, data := .seq items nl, slots := oslots } := Heap.get?_push_of_some _ hol
        have w8 := PySem.F.sub_list_set
        have w9 := PySem.F.sub_list_frozenset
        have w10 : (Value.type "list" == Value.type "dict") = false := by decide
        have gL : (s.heap.push (newSet w)).IsList l items := ⟨_, gl, rfl, nl, rfl⟩
        unfold Builtin.«set.__init__» noKeywords Builtin.Frozenset.updateFrom
        generalize hPI : pyIter = PI
        wp_walk
        subst hPI
        refine wpAny_pyIter_list gL ?_
        refine wpAny_bind (wpAny_runValue ?_)
        have lt : l < s.heap.objs.size := Heap.lt_size hol
        have calm3 : A.in1.in1.in1.handled = none := by simp [calm]
        have sz1 : (s.heap.push (newSet w)).objs.size = s.heap.objs.size + 1 := size_push' _ _
        have ne1 : l ≠ (s.heap.push (newSet w)).objs.size := by rw [sz1]; exact Nat.ne_of_lt (Nat.lt_succ_of_lt lt)
        have ne2 : s.heap.objs.size ∉ [(s.heap.push (newSet w)).objs.size, l] := by
          rw [sz1]
          intro z
          rcases List.mem_cons.mp z with z | z
          · exact Nat.ne_of_lt (Nat.lt_succ_self _) z
          · exact Nat.ne_of_gt lt (List.mem_singleton.mp z)
        have val : ∀ (i : Nat) (v : Value), items[i]? = some v → ∃ t, v = .str (xs.getD i Str.empty) t := fun i v hv => SS.strs_at ht i v (by rw [Array.getElem?_toList]; exact hv)
        refine loopTx ((Walks.list calm3 _ l ne1 items).toS) s.heap.objs.size ne2 xs lenI (by omega) val (items.size - 0) 0 _ (by omega) (Nat.zero_le _)
          ⟨⟨_, Heap.get?_push_size _ rfl, rfl, rfl⟩, (gL.push _)⟩ ⟨(#[], 0, .fresh 0 0 (!w.params.followText "set-order")), [], Heap.get?_push_of_some _ gS, TS.new, Nat.le_refl _, fun x => by simp⟩ ?fin
        case fin =>
          intro s' mv g
          obtain ⟨hp, gn, dr, tk, os⟩ := s'
          have eg : gn = s.gens := mv.gens
          have ed : dr = s.drawn := mv.drawn
          have eo : os = s.os := mv.os
          subst eg; subst ed; subst eo
          show wpAny _ _ _ _ _ _
          refine wpAny_pure ?_
          show wpAny _ _ (ret Value.none) _ _ _
          obtain ⟨D, ks, g1, g2, g3, g4⟩ := g
          refine wpAny_pure ⟨rfl, hp, tk, rfl, ⟨D, ks, g1, g2, by omega, fun x => by rw [g4 x, ← lenI, List.take_length]⟩, fun b o e => ?_⟩
          have lb := Heap.lt_size e
          refine mv.heap b o (fun z => ?_) (Heap.get?_push_of_some _ (Heap.get?_push_of_some _ e))
          rcases List.mem_cons.mp z with z | z
          · exact Nat.ne_of_lt lb z
          · have z := List.mem_singleton.mp z
            rw [sz1] at z
            exact Nat.ne_of_lt (Nat.lt_succ_of_lt lb) z
      · cases r2 with
        | error e => exact hr2
        | ok fl2 =>
          cases fl2 with
          | ret r =>
            obtain ⟨rfl, hp, tk, rfl, g1, g2⟩ := hr2
            repeat (any_goals (first | assumption | wp_step))
            exact fin _ _ g1 g2
          | _ => exact hr2.elim
    | _ => exact hr.elim
theorem texts_of : ∀ vs : List Value, (∀ v ∈ vs, ∃ x u, v = Value.str x u) → StrsAre vs (vs.map strOf)
  | [], _ => .nil
  | v :: vs, h => by
    obtain ⟨x, u, rfl⟩ := h v List.mem_cons_self
    exact .cons x u (texts_of vs fun y hy => h y (List.mem_cons_of_mem _ hy))
/-- sorted(the set) -/
theorem sorted_texts {a : Addr} {xs : List Str} {Q : Value → Shared → Prop} (calm : A.handled = none) (S : SetTx P w a xs s.heap) (few : xs.length < 64)
    (fin : ∀ (s' : Shared) (p : Addr) (out : Array Value) (c : Nat) (ys : List Str), (∀ b o, s.heap.get? b = some o → s'.heap.get? b = some o) → s'.gens = s.gens → s'.os = s.os → s.heap.objs.size ≤ p →
      s'.heap.get? p = some (seqObj "list" out c) → StrsAre out.toList ys → ys.Nodup → (∀ x, x ∈ ys ↔ x ∈ xs) → sortedS ys = true → ys.length ≤ xs.length → Q (.ref p) s') :
    wpAny (model P w) A (call (.builtin "sorted") [.ref a]) Q E s := by
  obtain ⟨⟨es, ep, t⟩, l, ho, T, hl, hm⟩ := S
  have tks := T.ks; have tvs := T.vs; have tz := T.ok.sz
  dsimp only at tks tvs tz
  refine Calls.call_function_entry kind_sorted plain_sorted entry_sorted (args_sorted1 _) ?_
  unfold Builtin.«sorted»
  refine wpAny_bind (m := checkCount "sorted" 1 1 _) (wpAny_pure ?_)
  refine wpAny_bind (collect_set (A := A.in1) calm ⟨_, ho, rfl, rfl⟩ T.ok.fit (by unfold scanBound; show es.size < _; omega) T.ris T.led fun s1 vs k1 z1 g1 o1 pm => ?_)
  have vl : vs.length = l.length := by rw [pm.length_eq, List.length_map, Array.length_toList]; exact tz
  have st : StrsAre vs (vs.map strOf) := texts_of vs fun v hv => by
    obtain ⟨e, he, q⟩ := List.mem_map.mp (pm.mem_iff.mp hv)
    obtain ⟨x, u, z⟩ := tvs e he
    exact ⟨x, u, by rw [← q]; exact z⟩
  have pk : (vs.map strOf).Perm l := by
    have q := pm.map strOf
    rw [List.map_map] at q
    exact q.trans tks
  refine wpAny_bind (wpAny_newList ?_ (by rw [vl, sizeLine_eq]; omega))
  have gl : (s1.heap.push (seqObj "list" vs.toArray 0)).get? s1.heap.objs.size = some (seqObj "list" vs.toArray 0) := Heap.get?_push_size _ rfl
  refine wpAny_bind (wpAny_holding (wpAny_call_entry slot_list_sort ⟨_, gl, rfl⟩ entry_list_sort
    (list_sort_treeK strKind_oneLt gl st.keysOf (fun a b r e => keyKind_strs (by rw [← e]; exact st)) (by omega) fun out hp hs => ⟨_, rfl, ?_⟩) (args_list_sort _)))
  obtain ⟨ys, y1, y2, y3⟩ := sorted_out_str st hp hs
  obtain ⟨c, hc⟩ := sortedHeap_at (vs := vs) (out := (arrOf out).map (·.2)) gl
  have py := y2.trans pk
  refine wpAny_pure ⟨_, rfl, fin _ s1.heap.objs.size _ c ys (fun b u e => ?_) g1 o1 z1 hc y1 (py.nodup_iff.mpr T.nd) (fun x => by rw [py.mem_iff, hm x]) y3 (by rw [py.length_eq]; exact hl)⟩
  have q := k1 b u e
  have lb := Heap.lt_size q
  show (sortedHeap (s1.heap.push (seqObj "list" vs.toArray 0)) s1.heap.objs.size vs _).get? b = some u
  rw [sortedHeap_old (Nat.ne_of_lt lb) (by rw [size_push']; exact Nat.lt_succ_of_lt lb)]
  exact Heap.get?_push_of_some _ q
end
end DL
namespace DL
variable [TabCtx]
open PySem PySem.Spec PyProof.Rows L2 PySem.Froz
/-- sorted(set(xs)), xs a list of fewer than 64 texts -/
def tSortSet (K : PySem.W.Frag) (ta : TE) : TE := fun σ H Q => ta σ H fun x H1 => ∃ l, ∃ xs : List Str, x = .ref l ∧ SqL K H1 l (xs.map V.str) ∧ xs.length < 64 ∧
  ∀ (ys : List Str) (p : Addr), ys.Nodup → (∀ y, y ∈ ys ↔ y ∈ xs) → sortedS ys = true → H1 p = none → Q (.ref p) (upd H1 p (.lst (ys.map V.str)))
section
variable {X : CxF} {a : Expr} {p p2 q pos : Pos}
theorem inv_list {pins : List (Addr × Obj)} {σ : L2.St} {H : Hp} {s s' : Shared} {p : Addr} {xs : List V} {out : Array Value} {c : Nat} (I : L2.Inv X pins σ H s) (k : ∀ b o, s.heap.get? b = some o → s'.heap.get? b = some o) (g : s'.gens = s.gens) (o : s'.os = s.os)
    (hp : s.heap.objs.size ≤ p) (ho : s'.heap.get? p = some (seqObj "list" out c)) (hl : xs.length ≤ sizeLine) (hv : Vals xs out.toList) : L2.Inv X pins σ (upd H p (.lst xs)) s' := by
  have hn : H p = none := I.hok.fresh hp
  have J : L2.Inv X pins σ (upd H p (.lst xs)) { s with heap := s'.heap, gens := s'.gens, drawn := s'.drawn, toks := s'.toks } :=
    I.call (ch := []) (Un.laid k hp hn) (I.hok.laid k hp ⟨hl, out.toList, c, hv, ho⟩) (by rw [g]; exact I.bare) (fun _ z => nomatch z)
  obtain ⟨h1, g1, d1, t1, o1⟩ := s'
  obtain ⟨h2, g2, d2, t2, o2⟩ := s
  dsimp only at o J ⊢
  subst o
  exact J
theorem pe_sortSet {ta : TE} (hc : X.calm = true) (hg : Gl X "sorted") (hm : X.mg "sorted" = none) (hg2 : Gl X "set") (hm2 : X.mg "set" = none) (ha : PE X a ta)
    (na : starEach [a] X.env = (false, eval a X.env) :: starEach [] X.env := by rfl) : PE X (.Call (.Name "sorted" p) [.Call (.Name "set" p2) [a] [] q] [] pos) (tSortSet X.K ta) := by
  refine ⟨fun pins s σ H Q I h => ?_⟩
  refine Call_ (ld_blt I hg hm bt_sorted ?_)
  refine PyProof.Rows.callWith_builtin1 (PyProof.Rows.args_cons ?_ rfl) rfl rfl
  refine Call_ (ld_blt I hg2 hm2 bt_set ?_)
  refine PyProof.Rows.callWith_type1 (PyProof.Rows.args_cons (thn (ha.run pins s σ H _ I h) fun v s1 ⟨x, H1, I1, r1, q1⟩ => PyProof.Rows.args_nil ?_) na) na rfl
  obtain ⟨l, xs, rfl, hq, few, q1⟩ := q1
  cases r1
  obtain ⟨its, r, pl, hz⟩ := I1.list hq
  refine set_texts (I1.ok.hd hc) pl.isList (by simpa using strsAre_of r) (by unfold scanBound; omega) fun hp tk S keep => ?_
  refine PyProof.Rows.args_nil ?_
  have I2 : Inv X pins σ H1 { s1 with heap := hp, toks := tk } := I1.kept keep
  refine sorted_texts (I1.ok.hd hc) S few fun s' p' out c ys k1 g1 o1 hp' hg' hi nd mem so ly => ?_
  have hn : H1 p' = none := I2.hok.fresh hp'
  exact ⟨.ref p', _, inv_list I2 k1 g1 o1 hp' hg' (by rw [List.length_map, sizeLine_eq]; omega) (vals_of_strs hi), rfl, q1 ys p' nd mem so hn⟩
def dSortSet (t : DTE) : DTE := fun s R Q => t s R fun d R1 => ∃ xs : List Str, trk R1 d = some (xs.map D.str) ∧ xs.length < 64 ∧ ∀ ys : List Str, ys.Nodup → (∀ y, y ∈ ys ↔ y ∈ xs) → sortedS ys = true → Q (.lst (ys.map D.str)) R1
theorem de_sortSet {t : DTE} (hc : X.calm = true) (hg : Gl X "sorted") (hm : X.mg "sorted" = none) (hg2 : Gl X "set") (hm2 : X.mg "set" = none) (ha : DE X a t)
    (na : starEach [a] X.env = (false, eval a X.env) :: starEach [] X.env := by rfl) : DE X (.Call (.Name "sorted" p) [.Call (.Name "set" p2) [a] [] q] [] pos) (dSortSet t) := by
  obtain ⟨t1, a1, a2⟩ := ha
  refine ⟨_, pe_sortSet hc hg hm hg2 hm2 a1 na, fun G sd s R H Qd Q sv rh q k => a2 G sd s R H _ _ sv rh q fun G1 R1 H1 d v e1 rh1 dv1 q1 => ?_⟩
  obtain ⟨xs, hx, hl, q1⟩ := q1
  obtain ⟨b, vs, rfl, h1, h2⟩ := trk_dv hx rh1 dv1
  rw [h2.strs] at h1
  refine ⟨b, xs, rfl, SqL.of h1, hl, fun ys p g1 g2 g3 hp => ?_⟩
  obtain ⟨s1, rh2⟩ := rh1.imm (o := .lst (ys.map V.str)) hp
  exact k _ R1 _ _ _ (e1.trans s1) rh2 (.lst upd_same (DVs.ofStrs ys)) (q1 ys g1 g2 g3)
end
end DL
end
section
set_option Elab.async false
set_option linter.all false
set_option maxRecDepth 100000
set_option maxHeartbeats 4000000
set_option autoImplicit false
/-! DLR: what repr tells of trees; sorted lists of texts. -/
namespace DL
open PySem PySem.Spec PyProof.Rows L2 TL TrA
open TrA.Tr
variable [TabCtx]
theorem reprC : ∀ c, Let c → PySem.Builtin.Str.reprChar 39 c = [c] := by
  have h : ((List.range 26).all fun i => PySem.Builtin.Str.reprChar 39 (97 + i) == [97 + i]) = true := by decide +kernel
  intro c ⟨h1, h2⟩
  have := List.all_eq_true.mp h (c - 97) (List.mem_range.mpr (by omega))
  have e : 97 + (c - 97) = c := by omega
  rw [e] at this
  exact beq_iff_eq.mp this
theorem fold_rep (l : List Nat) (hl : ∀ c ∈ l, Let c) : ∀ acc : Array Nat, (l.foldl (fun out c => out ++ (PySem.Builtin.Str.reprChar 39 c).toArray) acc).toList = acc.toList ++ l := by
  induction l with
  | nil => intro acc; simp
  | cons c l ih =>
    intro acc
    rw [List.foldl_cons, ih (fun d hd => hl d (List.mem_cons_of_mem _ hd)), reprC c (hl c List.mem_cons_self)]
    simp
theorem tl_repr {x : Str} (h : ∀ c ∈ tl x, Let c) : tl (reprText x) = 39 :: (tl x ++ [39]) := by
  have q : reprQuote x = 39 := by
    unfold reprQuote
    rw [if_neg]
    intro z
    have z1 := (Bool.and_eq_true_iff.mp z).1
    have z2 : 39 ∈ tl x := by
      have := Array.contains_iff.mp z1
      exact Array.mem_toList_iff.mpr this
    have := h 39 z2
    unfold Let at this
    omega
  show (reprText x).cps.toList = _
  unfold reprText
  rw [q, Array.toList_push, ← Array.foldl_toList]
  have e := fold_rep x.cps.toList h #[39]
  rw [e]
  show ([39] ++ tl x) ++ [39] = _
  simp
theorem Nm.lets {x : Str} (h : Nm x) : ∀ c ∈ tl x, Let c := by
  obtain ⟨st, c, hs, hc, e⟩ := h
  intro d hd
  rw [e] at hd
  rcases List.mem_append.mp hd with z | z
  · exact hs.1 d z
  · have : d = c := by simpa using z
    rw [this]; exact hc
/-- the signs that repr shows of a tree -/
def sh : T → List Nat
  | leaf x => 39 :: (tl x ++ [39])
  | node l r => 40 :: (sh l ++ (44 :: 32 :: (sh r ++ [41])))
def shT (t : T) : Str := (td t).py.shown
theorem tl_shT : ∀ {t : T}, NT t → tl (shT t) = sh t
  | leaf x, h => by
    show tl (reprText x) = _
    exact tl_repr (h x (by simp [leaves])).lets
  | node l r, h => by
    have e1 := tl_shT h.l
    have e2 := tl_shT h.r
    show tl (tupleText [shT l, shT r]) = _
    unfold tupleText
    rw [tl_append, tl_append, tl_join]
    have c1 : tl (("(" : String) : Str) = [40] := by decide +kernel
    have c2 : tl ((", " : String) : Str) = [44, 32] := by decide +kernel
    have c3 : tl (((if [shT l, shT r].length == 1 then ",)" else ")" : String)) : Str) = [41] := by
      show tl ((")" : String) : Str) = [41]
      decide +kernel
    rw [c1, c2, c3]
    show [40] ++ (tl (shT l) ++ ([44, 32] ++ tl (shT r))) ++ [41] = _
    rw [e1, e2]
    simp [sh]
theorem cut39 : ∀ {x y a b : List Nat}, (∀ c ∈ x, Let c) → (∀ c ∈ y, Let c) → x ++ 39 :: a = y ++ 39 :: b → x = y ∧ a = b
  | [], [], a, b, _, _, e => ⟨rfl, by simpa using e⟩
  | [], c :: y, a, b, _, hy, e => by
    have : 39 = c := by simpa using congrArg List.head? e
    have := hy c List.mem_cons_self
    unfold Let at this
    omega
  | c :: x, [], a, b, hx, _, e => by
    have : c = 39 := by simpa using congrArg List.head? e
    have := hx c List.mem_cons_self
    unfold Let at this
    omega
  | c :: x, d :: y, a, b, hx, hy, e => by
    rw [List.cons_append, List.cons_append] at e
    injection e with e1 e2
    obtain ⟨z1, z2⟩ := cut39 (fun c hc => hx c (List.mem_cons_of_mem _ hc)) (fun c hc => hy c (List.mem_cons_of_mem _ hc)) e2
    exact ⟨by rw [e1, z1], z2⟩
theorem sh_cut : ∀ {t u : T} {a b : List Nat}, NT t → NT u → sh t ++ a = sh u ++ b → t = u ∧ a = b
  | leaf x, leaf y, a, b, ht, hu, e => by
    simp only [sh, List.cons_append, List.append_assoc, List.cons.injEq, true_and, List.nil_append] at e
    obtain ⟨z1, z2⟩ := cut39 (ht x (by simp [leaves])).lets (hu y (by simp [leaves])).lets e
    exact ⟨by rw [tl_inj z1], z2⟩
  | leaf x, node _ _, a, b, _, _, e => by simp [sh] at e
  | node _ _, leaf x, a, b, _, _, e => by simp [sh] at e
  | node l r, node l' r', a, b, ht, hu, e => by
    simp only [sh, List.cons_append, List.append_assoc, List.cons.injEq, true_and, List.nil_append] at e
    obtain ⟨z1, z2⟩ := sh_cut ht.l hu.l e
    simp only [List.cons.injEq, true_and] at z2
    obtain ⟨z3, z4⟩ := sh_cut ht.r hu.r z2
    simp only [List.cons.injEq, true_and] at z4
    exact ⟨by rw [z1, z3], z4⟩
theorem shT_inj {t u : T} (ht : NT t) (hu : NT u) (e : shT t = shT u) : t = u := by
  have : sh t ++ [] = sh u ++ [] := by rw [← tl_shT ht, ← tl_shT hu, e]
  exact (sh_cut ht hu this).1
theorem sh_len : ∀ {t : T}, NT t → (sh t).length ≤ 12 * size t
  | leaf x, h => by
    have := (h x (by simp [leaves])).len
    rw [len_tl] at this
    simp only [sh, size, List.length_cons, List.length_append, List.length_nil]
    omega
  | node l r, h => by
    have h1 := sh_len h.l; have h2 := sh_len h.r
    have l1 : (sh l).length ≤ 12 * size l := h1
    simp only [sh, size, List.length_cons, List.length_append, List.length_nil]
    have k1 : (sh l).length + 4 ≤ 12 * size l := sh_len4 h.l
    have k2 : (sh r).length + 4 ≤ 12 * size r := sh_len4 h.r
    omega
where
  sh_len4 : ∀ {t : T}, NT t → (sh t).length + 4 ≤ 12 * size t
    | leaf x, h => by
      have := (h x (by simp [leaves])).len
      rw [len_tl] at this
      simp only [sh, size, List.length_cons, List.length_append, List.length_nil]
      omega
    | node l r, h => by
      have k1 := sh_len4 h.l; have k2 := sh_len4 h.r
      simp only [sh, size, List.length_cons, List.length_append, List.length_nil]
      omega
theorem sh_small : ∀ {t : T}, NT t → ∀ c ∈ sh t, c < 128
  | leaf x, h, c, hc => by
    simp only [sh, List.mem_cons, List.mem_append, List.not_mem_nil, or_false] at hc
    rcases hc with rfl | hc | rfl
    · decide
    · have := (h x (by simp [leaves])).lets c hc
      unfold Let at this
      omega
    · decide
  | node l r, h, c, hc => by
    simp only [sh, List.mem_cons, List.mem_append, List.not_mem_nil, or_false] at hc
    rcases hc with rfl | hc | rfl | rfl | hc | rfl
    · decide
    · exact sh_small h.l c hc
    · decide
    · decide
    · exact sh_small h.r c hc
    · decide
theorem shT_len {t : T} (h : NT t) : (shT t).length ≤ 12 * size t := by rw [len_tl, tl_shT h]; exact sh_len h
theorem shT_ok {t : T} (h : NT t) : PyData.strOk (shT t) = true := by
  unfold PyData.strOk
  rw [← Array.all_toList, List.all_eq_true]
  intro c hc
  have := sh_small h c (by rw [← tl_shT h]; exact hc)
  simp only [decide_eq_true_eq]
  omega
theorem td_showable : ∀ t : T, (td t).py.showable = true
  | leaf _ => rfl
  | node l r => by simp [td, D.py, D.pys, PyData.showable, PyData.showableAll, td_showable l, td_showable r]
theorem reprT {R : Rs} {Q : DK} {t : T} (h : NT t) (hs : size t ≤ 100) (q : Q (.str (shT t)) R) : ∃ p, AsPy R (td t) p ∧ p.showable = true ∧ p.depth ≤ 190 ∧ p.shown.length ≤ sizeLine ∧ Q (.str p.shown) R := by
  have hh := height_lt t
  have hd := td_shaped h (t := t)
  have l := shT_len h
  refine ⟨_, td_asPy t, td_showable t, ?_, ?_, q⟩
  · rw [td_depth]; omega
  · show (shT t).length ≤ _
    simp only [sizeLine]
    omega
/-! ### sorted lists of texts -/
abbrev leS (a b : Str) : Prop := tl a ≤ tl b
theorem rising_pw : ∀ (l : List Str) (p : Str), risingS p l = true → (p :: l).Pairwise leS
  | [], p, _ => by simp
  | x :: r, p, h => by
    simp only [risingS, Bool.and_eq_true, Bool.not_eq_true'] at h
    obtain ⟨h1, h2⟩ := h
    have ih := rising_pw r x h2
    rw [ltCps_eq] at h1
    have h3 : leS p x := List.not_lt.mp (of_decide_eq_false h1)
    refine List.pairwise_cons.mpr ⟨fun y hy => ?_, ih⟩
    rcases List.mem_cons.mp hy with rfl | hy
    · exact h3
    · exact List.le_trans h3 ((List.pairwise_cons.mp ih).1 y hy)
theorem sortedS_pw : ∀ {l : List Str}, sortedS l = true → l.Pairwise leS
  | [], _ => List.Pairwise.nil
  | x :: r, h => rising_pw r x h
theorem sortedS_uniq {a b : List Str} (ha : sortedS a = true) (hb : sortedS b = true) (p : a.Perm b) : a = b :=
  List.Perm.eq_of_pairwise (le := leS) (fun x y _ _ h1 h2 => tl_inj (List.le_antisymm h1 h2)) (sortedS_pw ha) (sortedS_pw hb) p
theorem sortedS_same {a b : List Str} (ha : sortedS a = true) (hb : sortedS b = true) (na : a.Nodup) (nb : b.Nodup) (h : ∀ x, x ∈ a ↔ x ∈ b) : a = b :=
  sortedS_uniq ha hb ((List.perm_ext_iff_of_nodup na nb).mpr h)
/-- two equal lists of texts -/
theorem py_strs : ∀ xs : List Str, D.pys (xs.map D.str) = xs.map PyData.str
  | [] => rfl
  | x :: xs => by rw [List.map_cons, List.map_cons, D.pys, py_strs xs]; rfl
theorem plain_strs : ∀ xs : List Str, D.plains (xs.map D.str) = true
  | [] => rfl
  | x :: xs => by simp [D.plains, D.plain, plain_strs xs]
theorem lay_strs : ∀ {xs : List Str}, (∀ x ∈ xs, PyData.strOk x = true) → PyData.canLayAll0 (xs.map PyData.str) = true ∧ PyData.depthAll (xs.map PyData.str) ≤ 1
  | [], _ => by simp [PyData.canLayAll0, PyData.depthAll]
  | x :: xs, h => by
    obtain ⟨h1, h2⟩ := lay_strs (xs := xs) fun y hy => h y (List.mem_cons_of_mem _ hy)
    constructor
    · simp only [List.map_cons, PyData.canLayAll0, PyData.canLay0, h1, h x List.mem_cons_self, Bool.and_self]
    · simp only [List.map_cons, PyData.depthAll, PyData.depth]
      omega
theorem eqv_strs_self : ∀ xs : List Str, PyData.eqvAll (xs.map PyData.str) (xs.map PyData.str) = true
  | [] => rfl
  | x :: xs => by simp [PyData.eqvAll, PyData.eqv, eqv_strs_self xs]
theorem neS_same {R : Rs} {Q : DK} {xs : List Str} (h : ∀ x ∈ xs, PyData.strOk x = true) (q : Q (.bl false) R) : rdEqD true (.lst (xs.map D.str)) (.lst (xs.map D.str)) R Q := by
  obtain ⟨h1, h2⟩ := lay_strs h
  have hs : SeqAt.shaped (.list (xs.map PyData.str)) = true := by
    show (PyData.canLay0 (.list (xs.map PyData.str)) && decide (PyData.depth (.list (xs.map PyData.str)) ≤ 64)) = true
    rw [PyData.canLay0, h1, PyData.depth, decide_eq_true (by omega)]
    rfl
  refine ⟨.list (xs.map PyData.str), .list (xs.map PyData.str), .inl ⟨plain_strs xs, by rw [D.py, py_strs]⟩, .inl ⟨plain_strs xs, by rw [D.py, py_strs]⟩, hs, hs, ?_⟩
  have : PyData.eqv (.list (xs.map PyData.str)) (.list (xs.map PyData.str)) = true := eqv_strs_self xs
  rw [this]
  exact q
theorem reprB {R : Rs} {Q : DK} {b : Bool} (q : Q (.str (PyData.shown (.bool b))) R) : ∃ p, AsPy R (.bl b) p ∧ p.showable = true ∧ p.depth ≤ 190 ∧ p.shown.length ≤ sizeLine ∧ Q (.str p.shown) R :=
  ⟨.bool b, .inl ⟨rfl, rfl⟩, rfl, by simp [PyData.depth], by cases b <;> decide +kernel, q⟩
/-- None is no tree -/
theorem noneT {R : Rs} {Q : DK} {p : Addr} {l : List T} (hp : R p = some (.lst (l.map td))) (h : ∀ t ∈ l, NT t ∧ height t ≤ 60) (q : Q (.bl false) R) : rdInD false .non (.ref p) R Q := by
  refine ⟨.none, l.map fun t => (td t).py, .inl ⟨rfl, rfl⟩, .inr ⟨p, _, rfl, hp, plains_td l, by rw [pys_td]⟩, rfl, shaped_tds fun t ht => ⟨(h t ht).1, by have := (h t ht).2; omega⟩, ?_⟩
  have e : (l.map fun t => (td t).py).any (fun z => PyData.eqv z .none) = false := by
    rw [List.any_eq_false]
    intro z hz
    obtain ⟨t, _, rfl⟩ := List.mem_map.mp hz
    cases t <;> simp [td, D.py, PyData.eqv]
  rw [e]
  exact q
end DL
end
section
set_option Elab.async false
set_option linter.all false
set_option maxRecDepth 100000
set_option maxHeartbeats 4000000
set_option autoImplicit false
/-! DLT: a, *b = tuple; a name of the module that holds a value. -/
namespace DL
open PySem PySem.Spec PyProof.Rows L2
variable [TabCtx]
section
variable {P : Program} {w : World} {A : Around} {E : Value → Shared → Prop} {s : Shared}
theorem star_tup {l : Addr} {v : Value} {vs : List Value} {Q : List Value → Shared → Prop} (hl : IsTup s.heap l (v :: vs).toArray) (calm : A.handled = none) (few : vs.length ≤ 16000)
    (fin : ∀ (hp : Heap) (tk : Nat), (∀ b o, s.heap.get? b = some o → hp.get? b = some o) → Q [v, .ref hp.objs.size] { s with heap := hp.push (seqObj "list" vs.toArray 0), toks := tk }) :
    wpAny (model P w) A (unpackItems (.ref l) 2 (some 1)) Q E s := by
  have lt : l < s.heap.objs.size := by obtain ⟨o, ho, _⟩ := hl; exact Heap.lt_size ho
  have ne : l ≠ s.heap.objs.size := Nat.ne_of_lt lt
  have sz : (v :: vs).toArray.size = vs.length + 1 := by simp
  unfold unpackItems
  refine wpAny_bind ?_
  unfold notIterableAtAll
  refine wpAny_bind (wpAny_specialOf hl.typeIs slot_tuple_iter.lookup (wpAny_pure ?_))
  simp only [Bool.false_eq_true, if_false]
  refine wpAny_bind (wpAny_holding (iter_tuple hl ?_))
  refine wpAny_bind (wpAny_holding (draw_tuple ne 1 0 _ _ ⟨_, Heap.get?_push_size _ rfl, rfl, rfl⟩ (hl.push _) (by omega) fun h1 it1 sb1 => ?_))
  have hl1 : IsTup h1 l (v :: vs).toArray := (hl.push _).extBut sb1.extBut ne
  rw [Nat.zero_add] at it1
  obtain ⟨oi, hoi, _⟩ := id it1
  obtain ⟨ol, hol, _⟩ := id hl1
  have e0 : ((v :: vs).toArray.toList.drop 0).take 1 = [v] := rfl
  rw [e0]
  rw [if_neg (show ¬ ([v].length < 1) by simp)]
  refine wpAny_bind (wpAny_holding (PySem.W.kun_collect (s := { s with heap := h1 }) (T := "tuple_iterator") (.inr (.inr (.inr rfl))) (Walks.tuple (A := A.in1) calm s.heap.objs.size l ne _) (fun j u st => st.1.typeIs) (k := 1)
    (by omega) ⟨it1, hl1⟩ (Heap.lt_size hoi) (Heap.lt_size hol) (fun h2 tk hk => ?_) (by rw [sizeLine_eq]; omega)))
  have e1 : (v :: vs).toArray.toList.drop 1 = vs := rfl
  rw [e1]
  show wpAny _ _ (if vs.length < 0 then _ else _) _ _ _
  rw [if_neg (by omega)]
  show wpAny _ _ (newList (vs.take vs.length) >>= fun d => pure ([v] ++ [d] ++ vs.drop vs.length)) _ _ _
  rw [List.take_length, List.drop_length]
  have keep : ∀ b o, s.heap.get? b = some o → h2.get? b = some o := fun b o e => by
    have nb : b ≠ s.heap.objs.size := Nat.ne_of_lt (Heap.lt_size e)
    exact hk b o nb (sb1.extBut b o nb (Heap.get?_push_of_some _ e))
  refine wpAny_bind (wpAny_newList (wpAny_pure ?_) (by rw [sizeLine_eq]; omega))
  exact fin _ tk keep
end
/-- (a, *b) = a tuple of one item at least -/
def gStar (K : PySem.W.Frag) (t : TGs) : TG := fun v σ H Q => ∃ a x xs, v = .ref a ∧ SqT K H a (x :: xs) ∧ xs.length ≤ 16000 ∧ ∀ p, H p = none → t [x, .ref p] σ (upd H p (.lst xs)) Q
section
variable {X : CxF} {e e1 e2 : Expr} {es : List Expr} {p pos : Pos} {k : Nat}
theorem pgs_star {t : TG} {u : TGs} (h1 : PG X e t) (h2 : PGs X es u) : PGs X (.Starred e p :: es) (gCons t u) := by
  refine ⟨fun pins s σ H vs us Q I r h => ?_⟩
  obtain ⟨v, vr, z, h⟩ := h
  subst z
  cases r with
  | cons r rr =>
    show wpAny _ _ (assignInOrder (assign e X.env :: (assignEach es X.env).map (·.2)) _) _ _ _
    refine assignInOrder_cons (thn (h1.run pins s σ H _ _ _ I r h) fun _ s1 ⟨σ1, H1, I1, q1⟩ => ?_)
    exact h2.run pins s1 σ1 H1 _ _ Q I1 rr q1
theorem pg_star {t : TGs} (hc : X.calm = true) (h : PGs X [e1, .Starred e2 p] t) (hn : (assignEach [e1, .Starred e2 p] X.env).length = 2 := by rfl) (hst : (assignEach [e1, .Starred e2 p] X.env).findIdx? (·.1) = some 1 := by rfl) : PG X (.Tuple [e1, .Starred e2 p] k pos) (gStar X.K t) := by
  refine ⟨fun pins s σ H v u Q I r hw => ?_⟩
  obtain ⟨a, x, xs, z, hq, few, hw⟩ := hw
  subst z
  cases r
  obtain ⟨its, rv, ht, hz⟩ := I.tuple hq
  cases rv with
  | @cons _ v0 _ vs0 r0 rs =>
    have lv : vs0.length = xs.length := rs.length.symm
    rw [PyProof.Rows.assign_Tuple]
    refine wpAny_bind (wpAny_standAt ?_)
    unfold unpack
    rw [hn, hst]
    refine wpAny_bind (wpAny_holding (star_tup ht (I.ok.hd hc) (by omega) fun hp tk keep => ?_))
    have I1 : Inv X pins σ H { s with heap := hp, toks := tk } := I.kept keep
    have fr : H hp.objs.size = none := I1.hok.fresh (Nat.le_refl _)
    have I2 : Inv X pins σ (upd H hp.objs.size (.lst xs)) { s with heap := hp.push (seqObj "list" vs0.toArray 0), toks := tk } :=
      I1.laid (t' := tk) (o := .lst xs) (fun b o q => Heap.get?_push_of_some _ q) (Nat.le_refl _) ⟨by rw [sizeLine_eq]; omega, vs0, 0, rs, Heap.get?_push_size _ rfl⟩
    exact h.run pins _ σ _ [x, .ref _] _ Q I2 (.cons r0 (.cons rfl .nil)) (hw _ fr)
/-! the same over plain data; b never changes -/
def dgStar (t : DTGs) : DTG := fun d s R Q => ∃ x xs, d = .tup (x :: xs) ∧ xs.length ≤ 16000 ∧ t [x, .lst xs] s R Q
theorem dgs_star {t : DTG} {u : DTGs} (h : DG X e t) (r : DGs X es u) : DGs X (.Starred e p :: es) (dgCons t u) := by
  obtain ⟨t1, a1, a2⟩ := h; obtain ⟨t2, b1, b2⟩ := r
  refine ⟨_, pgs_star a1 b1, fun G sd s R H ds vs Qd Q sv rh dv q k => ?_⟩
  obtain ⟨d, r, rfl, q⟩ := q
  cases dv with
  | cons x y => exact ⟨_, _, rfl, a2 G sd s R H _ _ _ _ sv rh x q fun G1 sd1 s1 R1 H1 e1 sv1 rh1 q1 => b2 G1 sd1 s1 R1 H1 _ _ _ _ sv1 rh1 (y.st e1) q1 (k.st e1)⟩
theorem dg_star {t : DTGs} (hc : X.calm = true) (h : DGs X [e1, .Starred e2 p] t) (hn : (assignEach [e1, .Starred e2 p] X.env).length = 2 := by rfl) (hst : (assignEach [e1, .Starred e2 p] X.env).findIdx? (·.1) = some 1 := by rfl) : DG X (.Tuple [e1, .Starred e2 p] k pos) (dgStar t) := by
  obtain ⟨t1, a1, a2⟩ := h
  refine ⟨_, pg_star hc a1 hn hst, fun G sd s R H d v Qd Q sv rh dv q kk => ?_⟩
  obtain ⟨x, xs, rfl, hl, q⟩ := q
  cases dv with
  | tup h1 h2 =>
    cases h2 with
    | @cons _ _ v0 vs0 d1 d2 =>
      refine ⟨_, _, _, rfl, SqT.same rh.g h1, by rw [← d2.length]; exact hl, fun p hp => ?_⟩
      obtain ⟨s1, rh2⟩ := rh.imm (o := .lst vs0) hp
      exact a2 _ sd s R _ _ _ _ _ (sv.st s1) rh2 (.cons (d1.st s1) (.cons (.lst upd_same (d2.st s1)) .nil)) q (kk.st s1)
/-- a name of the module that holds a value -/
def GC (K : PySem.W.Frag) (mg : Str → Option Value) (x : Str) (d : D) : Prop := ∃ u v, mg x = some u ∧ RelV v u ∧ ∀ G, DV K G d v
theorem de_glob {x : Str} {d : D} (c : GC X.K X.mg x d) (hg : Gl X x) (hd : (x == ("__debug__" : Str)) = false := by decide) : DE X (.Name x pos) (dC d) := by
  obtain ⟨u, v, h1, h2, h3⟩ := c
  exact ⟨_, pe_glob hg h1 h2 hd, fun G sd s R H Qd Q sv rh q k => k G R H d v (Stp.refl G R H) rh (h3 G) q⟩
theorem GC.str {K : PySem.W.Frag} {mg : Str → Option Value} {x y : Str} {t : Tok} (h : mg x = some (.str y t)) : GC K mg x (.str y) := ⟨_, .str y, h, ⟨t, rfl⟩, fun _ => .str y⟩
theorem GC.int {K : PySem.W.Frag} {mg : Str → Option Value} {x : Str} {i : Int} {t : Tok} (h : mg x = some (.int i t)) : GC K mg x (.int i) := ⟨_, .int i, h, ⟨t, rfl⟩, fun _ => .int i⟩
theorem vals_strs_of : ∀ {vs : List Value} {xs : List Str}, StrsAre vs xs → Vals (xs.map V.str) vs
  | _, _, .nil => .nil
  | _, _, .cons y t r => .cons ⟨t, rfl⟩ (vals_strs_of r)
theorem GC.strs {K : PySem.W.Frag} {mg : Str → Option Value} {x : Str} {a : Addr} {o : Obj} {its : Array Value} {n : Nat} {xs : List Str} (h : mg x = some (.ref a)) (hl : K.lookup a = some o) (hc : o.cls = .type "tuple") (hd : o.data = .seq its n) (hi : StrsAre its.toList xs) (hz : xs.length ≤ 1000) : GC K mg x (.tup (xs.map D.str)) :=
  ⟨_, .ref a, h, rfl, fun G => .tup (.inr ⟨o, its, n, hl, hc, hd, by have := hi.len_eq; rw [Array.length_toList] at this; rw [this, sizeLine_eq]; omega, vals_strs_of hi⟩) (DVs.ofStrs xs)⟩
end
end DL
end
section
set_option Elab.async false
set_option maxRecDepth 100000
set_option linter.all false
set_option autoImplicit false
/-! DLB: small data: what repr, ==, in need of a value -/
namespace DL
open PySem PySem.Spec PyProof.Rows L2
variable [TabCtx]
structure Sm (h w : Nat) (d : D) : Prop where
  pl : d.plain = true
  lay : d.py.canLay0 = true
  it : d.py.intsShort 13 = true
  dep : d.py.depth ≤ h
  wei : d.py.weight ≤ w
structure Sms (h w : Nat) (ds : List D) : Prop where
  pl : D.plains ds = true
  lay : PyData.canLayAll0 (D.pys ds) = true
  it : PyData.intsShortAll 13 (D.pys ds) = true
  dep : PyData.depthAll (D.pys ds) ≤ h
  wei : PyData.weightAll (D.pys ds) ≤ w
section
variable {h w h' w' : Nat} {d e : D} {ds : List D} {R : Rs} {Q : DK}
theorem Sm.mono (a : Sm h w d) (h1 : h ≤ h') (h2 : w ≤ w') : Sm h' w' d := ⟨a.pl, a.lay, a.it, Nat.le_trans a.dep h1, Nat.le_trans a.wei h2⟩
theorem Sms.mono (a : Sms h w ds) (h1 : h ≤ h') (h2 : w ≤ w') : Sms h' w' ds := ⟨a.pl, a.lay, a.it, Nat.le_trans a.dep h1, Nat.le_trans a.wei h2⟩
theorem Sms.nil : Sms h w [] := ⟨rfl, by simp [D.pys, PyData.canLayAll0], by simp [D.pys, PyData.intsShortAll], by simp [D.pys, PyData.depthAll], by simp [D.pys, PyData.weightAll]⟩
theorem Sms.cons (a : Sm h w d) (b : Sms h w' ds) : Sms h (w + 1 + w') (d :: ds) := ⟨by rw [D.plains, a.pl, b.pl]; rfl, by rw [D.pys, PyData.canLayAll0, a.lay, b.lay]; rfl, by rw [D.pys, PyData.intsShortAll, a.it, b.it]; rfl,
  by rw [D.pys, PyData.depthAll]; have := a.dep; have := b.dep; omega, by rw [D.pys, PyData.weightAll]; have := a.wei; have := b.wei; omega⟩
theorem Sms.all : ∀ {ds : List D}, (∀ d ∈ ds, Sm h w d) → Sms h ((w + 1) * ds.length) ds
  | [], _ => Sms.nil
  | d :: ds, q => (Sms.cons (q d (by simp)) (Sms.all fun e he => q e (by simp [he]))).mono (Nat.le_refl _) (by rw [List.length_cons, Nat.mul_succ]; omega)
theorem Sm.tup (a : Sms h w ds) : Sm (h + 1) w (.tup ds) := ⟨by rw [D.plain]; exact a.pl, by rw [D.py, PyData.canLay0]; exact a.lay, by rw [D.py, PyData.intsShort]; exact a.it, by rw [D.py, PyData.depth]; have := a.dep; omega, by rw [D.py, PyData.weight]; exact a.wei⟩
theorem Sm.lst (a : Sms h w ds) : Sm (h + 1) w (.lst ds) := ⟨by rw [D.plain]; exact a.pl, by rw [D.py, PyData.canLay0]; exact a.lay, by rw [D.py, PyData.intsShort]; exact a.it, by rw [D.py, PyData.depth]; have := a.dep; omega, by rw [D.py, PyData.weight]; exact a.wei⟩
theorem Sm.non : Sm h w .non := ⟨rfl, rfl, rfl, by simp [D.py, PyData.depth], by simp [D.py, PyData.weight]⟩
theorem Sm.bl (b : Bool) : Sm h w (.bl b) := ⟨rfl, rfl, rfl, by simp [D.py, PyData.depth], by simp [D.py, PyData.weight]⟩
theorem Sm.str {x : Str} (a : PyData.strOk x = true) (b : x.length ≤ w) : Sm h w (.str x) := ⟨rfl, by rw [D.py, PyData.canLay0]; exact a, rfl, by simp [D.py, PyData.depth], by rw [D.py, PyData.weight]; exact b⟩
theorem Sm.asPy (a : Sm h w d) : AsPy R d d.py := .inl ⟨a.pl, rfl⟩
theorem Sm.shaped (a : Sm h w d) (h1 : h ≤ 64) : SeqAt.shaped d.py = true := by
  show (d.py.canLay0 && decide (d.py.depth ≤ 64)) = true
  rw [a.lay, decide_eq_true (Nat.le_trans a.dep h1)]; rfl
end
mutual
/-- ints below 2 ^ 1920 -/
def D.sh : D → Bool
  | .int i => decide (i.natAbs.log2 < 1920)
  | .tup xs => D.shs xs
  | .lst xs => D.shs xs
  | .rls xs => D.shs xs
  | _ => true
def D.shs : List D → Bool
  | [] => true
  | x :: xs => x.sh && D.shs xs
end
mutual
theorem weight_log : ∀ d : D, d.py.weight ≤ 1900 → d.py.showable = true
  | .non, _ => by simp [D.py, PyData.showable]
  | .bl _, _ => by simp [D.py, PyData.showable]
  | .str _, _ => by simp [D.py, PyData.showable]
  | .ty _, _ => by simp [D.py, PyData.showable]
  | .ref _, _ => by simp [D.py, PyData.showable]
  | .int i, h => by
    simp only [D.py, PyData.showable, PyData.weight] at h ⊢
    rw [decide_eq_true_eq]
    by_cases z : i = 0
    · subst z; decide
    · rw [if_neg (by simpa using z)] at h; omega
  | .tup xs, h => by simp only [D.py, PyData.showable, PyData.weight] at h ⊢; exact weight_logs xs h
  | .lst xs, h => by simp only [D.py, PyData.showable, PyData.weight] at h ⊢; exact weight_logs xs h
  | .rls xs, h => by simp only [D.py, PyData.showable, PyData.weight] at h ⊢; exact weight_logs xs h
  | .ins _ _ _, _ => by simp [D.py, PyData.showable]
  | .dK _ _, _ => by simp [D.py, PyData.showable]
  | .dT _ _, _ => by simp [D.py, PyData.showable]
  | .lam _, _ => by simp [D.py, PyData.showable]
theorem weight_logs : ∀ ds : List D, PyData.weightAll (D.pys ds) ≤ 1900 → PyData.showableAll (D.pys ds) = true
  | [], _ => by simp [D.pys, PyData.showableAll]
  | d :: ds, h => by
    simp only [D.pys, PyData.showableAll, PyData.weightAll] at h ⊢
    rw [weight_log d (by omega), weight_logs ds (by omega)]; rfl
end
section
variable {h w h' w' : Nat} {d e : D} {ds : List D} {R : Rs} {Q : DK}
theorem Sm.repr (a : Sm h w d) (h1 : h ≤ 64) (h2 : w ≤ 1900) (q : Q (.str d.py.shown) R) : ∃ p, AsPy R d p ∧ p.showable = true ∧ p.depth ≤ 190 ∧ p.shown.length ≤ sizeLine ∧ Q (.str p.shown) R := by
  refine ⟨_, a.asPy, weight_log d (Nat.le_trans a.wei h2), by have := a.dep; omega, ?_, q⟩
  have hl : d.py.layable0 = true := by
    show (PyData.canLay0 d.py && decide (PyData.depth d.py ≤ 64) && decide (PyData.weight d.py ≤ 2 ^ 20)) = true
    have := a.dep; have := a.wei
    rw [a.lay, decide_eq_true (by omega), decide_eq_true (by omega)]; rfl
  have := shown_le13 hl a.it
  rw [sizeLine_eq]; omega
theorem Sm.r1 (a : Sm h w d) (h2 : w ≤ 1900 := by omega) : d.py.showable = true := weight_log d (Nat.le_trans a.wei h2)
theorem Sm.r2 (a : Sm h w d) (h1 : h ≤ 64 := by omega) : d.py.depth ≤ 190 := by have := a.dep; omega
theorem Sm.r3 (a : Sm h w d) (h1 : h ≤ 64 := by omega) (h2 : w ≤ 1900 := by omega) : d.py.shown.length ≤ sizeLine := by
  have hl : d.py.layable0 = true := by
    show (PyData.canLay0 d.py && decide (PyData.depth d.py ≤ 64) && decide (PyData.weight d.py ≤ 2 ^ 20)) = true
    have := a.dep; have := a.wei
    rw [a.lay, decide_eq_true (by omega), decide_eq_true (by omega)]; rfl
  have := shown_le13 hl a.it
  rw [sizeLine_eq]; omega
theorem Sm.eq (a : Sm h w d) (b : Sm h' w' e) (h1 : h ≤ 64) (h2 : h' ≤ 64) (q : Q (.bl (PyData.eqv d.py e.py)) R) : rdEqD false d e R Q := ⟨_, _, a.asPy, b.asPy, a.shaped h1, b.shaped h2, q⟩
theorem Sm.ne (a : Sm h w d) (b : Sm h' w' e) (h1 : h ≤ 64) (h2 : h' ≤ 64) (q : Q (.bl (!PyData.eqv d.py e.py)) R) : rdEqD true d e R Q := ⟨_, _, a.asPy, b.asPy, a.shaped h1, b.shaped h2, q⟩
theorem Sm.eqv (a : Sm h w d) : PyData.eqv d.py d.py = true := SeqAt.eqv_refl _ a.lay
theorem Sm.eqSelf (a : Sm h w d) (h1 : h ≤ 64) (q : Q (.bl true) R) : rdEqD false d d R Q := a.eq a h1 h1 (by rw [a.eqv]; exact q)
theorem Sm.neSelf (a : Sm h w d) (h1 : h ≤ 64) (q : Q (.bl false) R) : rdEqD true d d R Q := a.ne a h1 h1 (by rw [a.eqv]; exact q)
/-- a comprehension that maps, leaving what may change -/
def PvM {α : Type} (l : List α) (g : α → D) (R : Rs) (i : Nat) (acc : List D) (R' : Rs) : Prop := R' = R ∧ acc = (l.take i).map g
theorem PvM.go {α : Type} {l : List α} {g : α → D} {R : Rs} {i : Nat} {v : α} (e : l.take (i + 1) = l.take i ++ [v]) : PvM l g R (i + 1) ((l.take i).map g ++ [g v]) R := ⟨rfl, by rw [e, List.map_append]; rfl⟩
theorem PvM.end {α : Type} {l : List α} {g : α → D} {R R' : Rs} {n : Nat} {acc : List D} (h : PvM l g R n acc R') (hn : n = l.length) : R' = R ∧ acc = l.map g := ⟨h.1, by rw [h.2, hn, List.take_length]⟩
end
end DL
end
section
set_option Elab.async false
set_option maxRecDepth 100000
set_option maxHeartbeats 2000000
set_option linter.all false
set_option autoImplicit false
/-! DLX1: own exceptions with one field, laid by their __init__ -/
namespace PySem
namespace LX
open PySem.W PySem.Calls PyProof.Rows PySem.HandSPX Builtin Builtin.ObjectAttr
/-- self.name = v on an exception without a dict; its class stands straight over a built-in one -/
theorem exc_osa {prog : Program} {w : World} {A : Around} {R : Result → Shared → Prop} {hp : Heap} {g : Array GenState} {d : Drawn} {t : Nat} {os : OsState} {K : W.Frag} {name : Str} {tk : Tok} {v : Value} {x C : Addr} {fv : Array Value} {cd : ClassData} {bm : List Value}
    (X : K.In hp) (hx : hp.get? x = some { cls := .ref C, data := .fields fv }) (hcd : W.clsIn K C = some cd) (hm : cd.mro = .ref C :: bm) (hpass : ∀ self, refuseLoop self "__setattr__" bm = pure ()) (hobj : bm.contains (.type "object") = true) (hh : cd.hasDict = true) (ha : W.findIn K (.ref C) name = some none)
    (hq : ∀ h' tk' dx, (∀ b o, b ≠ x → hp.get? b = some o → h'.get? b = some o) → hp.objs.size ≤ dx → dx ≠ x → h'.get? x = some { cls := .ref C, dict := some dx, data := .fields fv } →
      h'.Ns1 dx (fun y => if y = name then some v else none) → R (.ok (.ret .none)) ⟨h', g, d, tk', os⟩) :
    codeAny (model prog w) A (.call (.builtin "object.__setattr__") ⟨[.ref x, .str name tk, v], []⟩) R ⟨hp, g, d, t, os⟩ := by
  have I : W.InstAt hp x { cls := .ref C, data := .fields fv } C none := ⟨hx, rfl, rfl, trivial⟩
  have SF := F.store_object
  have ne : cd.mro.isEmpty = false := by rw [hm]; rfl
  have hob : cd.mro.contains (.type "object") = true := by rw [hm, List.contains_cons, hobj, Bool.or_true]
  have hxs : x ≠ hp.objs.size := Nat.ne_of_lt (Heap.lt_size hx)
  have sub : W.Looks (model prog w) hp (isInstance (.ref x) (.type "object")) true := I.type.andThen (W.looks_mroIn X (by unfold W.mroIn; rw [hcd, Option.bind_some, if_neg (by rw [ne]; decide), hob]))
  refine codeAny_call_builtin SF.slot.plain SF.entry (@W.check_slot (model prog w) _ _ ⟨hp, g, d, t, os⟩ "object.__setattr__" "object" "__setattr__" (.ref x) [.str name tk, v] [] _ SF.kind SF.split sub (SF.args (.ref x) (.str name tk) v) ?_)
  have hmr : W.Looks (model prog w) hp (mroOf (.ref C)) cd.mro := (W.looks_clsIn X hcd).andThen .now
  have L3 : W.Looks (model prog w) hp (storeTaker? none) none := .now
  have hcls : W.Looks (model prog w) hp (classData C) cd := W.looks_clsIn X hcd
  rw [W.osa_eq, refuse_eq]
  refine wpAny_bind (wpAny_bind (I.type.at (wpAny_bind (hmr.at ?_))))
  rw [hm, refuseLoop_ref, hpass]
  refine wpAny_pure (wpAny_bind (I.type.at (wpAny_bind ((W.looks_findIn X ha).at (wpAny_bind (L3.at ?_))))))
  show wpAny _ _ (storeInOwnDict (.ref x) (.ref C) (.str name tk) name v false) _ _ _
  obtain ⟨nm, bs, mro, ns, qn, hd, sn, sb, ab, col, del⟩ := cd
  dsimp only at hh
  subst hh
  unfold storeInOwnDict ownDictForStores
  repeat (first | with_reducible refine store_in_new ?_ ?_ | with_reducible refine wpAny_loadPart_at hx ?_ | with_reducible refine hcls.at ?_ | wp_step)
  · exact ⟨_, #[], _, (Heap.get?_update_ne _ _ _ _ hxs.symm).trans (Heap.get?_push_at rfl rfl), rfl, fun e he => absurd he (by simp), fun _ => rfl⟩
  · intro h' tk' hn' hs
    have hx₁ : (hp.push { cls := .type "dict", data := .dict #[] }).get? x = some { cls := .ref C, data := .fields fv } := Heap.get?_push_of_some _ hx
    refine hq h' tk' hp.objs.size (fun b o hb ho => ?_) (Nat.le_refl _) hxs.symm ?_ hn'
    · exact (hs.2 b (Nat.ne_of_lt (Heap.lt_size ho))).trans ((Heap.get?_update_ne _ _ _ _ hb).trans (Heap.get?_push_of_some _ ho))
    · exact (hs.2 x hxs).trans (Heap.get?_update_self _ hx₁ rfl)
/-- what __init__ leaves of a fresh exception at x -/
structure InitEnd (h h' : Heap) (x C dx t1 : Addr) (f : Str) (v : Value) : Prop where
  keep : ∀ b o, b ≠ x → h.get? b = some o → h'.get? b = some o
  obj : h'.get? x = some { cls := .ref C, dict := some dx, data := .fields #[.ref t1, .none, .none, .none, .bool false, .none] }
  dbig : h.objs.size ≤ dx
  dne : dx ≠ x
  ns : h'.Ns1 dx (fun y => if y = f then some v else none)
/-- a made exception -/
structure OwnMade (h h' : Heap) (e C d : Addr) (f : Str) (v : Value) : Prop where
  keep : ∀ b o, h.get? b = some o → h'.get? b = some o
  new : h.objs.size ≤ e
  obj : ∃ oe vs, h'.get? e = some oe ∧ oe.cls = .ref C ∧ oe.dict = some d ∧ oe.data = .fields vs ∧ vs[1]? = some .none
  dbig : h.objs.size ≤ d
  dne : d ≠ e
  ns : h'.Ns1 d (fun y => if y = f then some v else none)
theorem one_size (v : Value) : [v].length ≤ sizeLine := by
  rw [sizeLine_eq]
  exact (by decide : 1 ≤ 16777216)
theorem ldC {M : Model} {s : Shared} {name : Str} {scope : Scope} {L a : Addr} {cd : Value} {m : Str → Option Value} {x : Str} {pos : Pos} {v : Value} {Q : Value → Shared → Prop} {A : Around} {E : Value → Shared → Prop} (hn : s.heap.Ns L m) (hv : m x = some v) (h : Q v s)
    (hk : scope.kind = .function := by rfl) (hl : (envOfC name scope L a cd).kindOf x = some .local := by rfl) (hd : (x == ("__debug__" : Str)) = false := by decide) :
    wpAny M A (eval (.Name x pos) (envOfC name scope L a cd)) Q E s := wpAny_Name (wpAny_loadName_local hk hl hn hv h) hd
/-- what the written part says of an exception class cn, at C, with one field f -/
structure Low (K : Frag) (mg : Str → Option Value) (cn f : Str) (C : Addr) : Prop where
  gC : mg cn = some (.ref C)
  ga : findIn K (.ref C) "__getattribute__" = some (some (.builtin "BaseException.__getattribute__"))
  gg : findIn K (.ref C) "__getattr__" = some none
  noN : findIn K (.ref C) f = some none
  kC : keepIn K (.ref C) = true
  exC : subIn K (.ref C) (.type "BaseException") = some true
  tyC : typeIn K (.ref C) = some (.type "type")
  hdC : hasDictIn K C = true
  te : exmOne K (.ref C) (.ref C) = some true
  made : ∀ (prog : Program) (w : World) (A : Around) (R : Result → Shared → Prop) (s : Shared) (v : Value), K.In s.heap → s.heap.NoLimit → A.depth + 1 < recursionLimit →
    (∀ h' tk e d, OwnMade s.heap h' e C d f v → R (.ok (.ret (.ref e))) { s with heap := h', toks := tk }) → codeAny (model prog w) A (.call (.ref C) ⟨[v], []⟩) R s
theorem exm_self {K : PySem.W.Frag} {S : Addr} (h1 : PySem.W.subIn K (.ref S) (.type "BaseException") = some true) (h2 : PySem.W.isClsIn K S = true) (h3 : PySem.W.typeIn K (.ref S) = some (.type "type")) (h4 : PySem.W.subIn K (.ref S) (.ref S) = some true) :
    PySem.W.exmOne K (.ref S) (.ref S) = some true := by
  have e1 : (PySem.W.subIn K (.ref S) (.type "BaseException") == some true) = true := by rw [h1] <;> rfl
  have e2 : ((PySem.W.clsIn K S).isSome && PySem.W.typeIn K (.ref S) == some (.type "type")) = true := by
    have h2' : (PySem.W.clsIn K S).isSome = true := h2
    rw [h2', h3] <;> rfl
  show (if (PySem.W.subIn K (.ref S) (.type "BaseException") == some true) = true then (if ((PySem.W.clsIn K S).isSome && PySem.W.typeIn K (.ref S) == some (.type "type")) = true then PySem.W.subIn K (.ref S) (.ref S) else none) else none) = some true
  rw [if_pos e1, if_pos e2]
  exact h4
end LX
end PySem
namespace L2
open PySem PySem.Spec PyProof.Rows
theorem relO_x {v : V} {v' : Value} {n : Str} (r : RelV v v') (f : Str) : RelO (List.lookup f [(n, v)]) (if f = n then some v' else none) := by
  by_cases hw : f = n
  · subst hw
    rw [if_pos rfl]
    have q : List.lookup f [(f, v)] = some v := by simp [List.lookup]
    rw [q]
    exact r
  · rw [if_neg hw]
    have qw : (f == n) = false := by simpa using hw
    have q2 : List.lookup f [(n, v)] = none := by simp [List.lookup, qw]
    rw [q2]
    trivial
section
variable {X : Cx} {C : Addr} {cn f : Str}
/-- X(e) -/
def tMkX (C : Addr) (f : Str) (ta : TA) : St → Hp → XK → Prop := fun σ H Q => ta σ H fun vs H1 => ∃ v, vs = [v] ∧ ∀ d, H1 d = none → Q (.ref C) (some d) (upd H1 d (.xd [(f, v)]))
theorem pmk_x {a : Expr} {ta : TA} {p pos : Pos} (T : PySem.LX.Low X.K X.mg cn f C) (hr : X.A.depth + 1 < recursionLimit) (ha : PA X [a] ta) (hg : Gl X cn) (hdb : (cn == ("__debug__" : Str)) = false)
    (he : starEach (a :: []) X.env = (false, eval a X.env) :: starEach [] X.env := by rfl) (hpl : (backTo pos (starEach [] X.env)).any (·.1) = false := by rfl) :
    PMk X (.Call (.Name cn p) [a] [] pos) (tMkX C f ta) := by
  intro pins s σ H Q I h
  refine wpAny_Call_Name_kw (ld_glob I hg T.gC ?_ hdb)
  refine PySem.W.callWith_K (h₀ := X.base) I.ok.mod.kin T.kC (thn (ha.run pos pins s σ H _ I h) fun us s1 hh => ?_) he hpl
  obtain ⟨vs, H1, I1, r1, v, ev, q1⟩ := hh
  subst ev
  refine ⟨I1.kIn, ?_⟩
  cases r1 with
  | cons rv rn =>
    rename_i v' us'
    cases rn
    show wpAny _ _ (call (.ref C) [v']) _ _ _
    have hlim := I1.nolimit
    obtain ⟨hp, g, dr, tk, os⟩ := s1
    refine wpAny_call (T.made _ _ _ _ _ _ I1.kIn hlim hr fun h' tk' e d M => ?_)
    show MkP X pins σ Q (.ref e) ⟨h', g, dr, tk', os⟩
    obtain ⟨oe, fv, hoe, hc, hd, hdat, h1⟩ := M.obj
    have hns := M.ns
    obtain ⟨G', g1, g2⟩ := restrict h' fun b => decide (b ≠ e)
    have gk : ∀ b, b ≠ e → G'.get? b = h'.get? b := fun b hb => g1 b (decide_eq_true hb)
    have ge : G'.get? e = none := g2 e (by simp)
    have old : ∀ b o, hp.get? b = some o → G'.get? b = some o := fun b o q => (gk b (Nat.ne_of_lt (Nat.lt_of_lt_of_le (Heap.lt_size q) M.new))).trans (M.keep b o q)
    have ob : ObjOk X.prog X.w (upd H1 d (.xd [(f, v)])) G' d (.xd [(f, v)]) :=
      ⟨_, hns.at (fun o q => (gk d M.dne).trans q), fun f => relO_x rv f⟩
    have J : Inv X pins σ (upd H1 d (.xd [(f, v)])) ⟨G', g, dr, tk', os⟩ := I1.laid (t' := tk') old M.dbig ob
    refine ⟨e, oe, fv, ⟨G', g, dr, tk', os⟩, _, .ref C, some d, rfl, J, fun b o q => ?_, ge, hoe, ⟨hc, hd⟩, hdat, h1, ?_, rfl, I1.bare, raises_own T.exC T.tyC, q1 d (I1.hok.fresh M.dbig)⟩
    · by_cases hb : b = e
      · have q' : G'.get? b = some o := q
        rw [hb, ge] at q'; cases q'
      · exact (gk b hb).symm.trans q
    · rw [upd_ne (Ne.symm M.dne)]
      exact I1.hok.fresh M.new
/-- raise X(e) -/
def tRaiseX (C : Addr) (f : Str) (W : WX) (ta : TA) : TS := fun _ σ H => tMkX C f ta σ H fun cls d H' => W cls d σ H'
theorem ps_raiseX {a : Expr} {ta : TA} {W : WX} {p pos pos2 : Pos} (hc : X.calm = true) (T : PySem.LX.Low X.K X.mg cn f C) (hr : X.A.depth + 1 < recursionLimit) (tk : Takes X W) (ha : PA X [a] ta) (hg : Gl X cn) (hdb : (cn == ("__debug__" : Str)) = false)
    (he : starEach (a :: []) X.env = (false, eval a X.env) :: starEach [] X.env := by rfl) (hpl : (backTo pos (starEach [] X.env)).any (·.1) = false := by rfl) :
    PS X (.Raise (some (.Call (.Name cn p) [a] [] pos)) none pos2) (tRaiseX C f W ta) := ps_raise hc tk (pmk_x T hr ha hg hdb he hpl)
/-- e.f, e the exception that the suite holds (at a; its class cls, its dict d) -/
def tXF (C : Addr) (f : Str) (a : Addr) (cls : Value) (d : Option Addr) (te : TE) : TE := fun σ H Q => te σ H fun x H1 => x = .ref a ∧ cls = .ref C ∧ ∃ (dd : Addr) (v : V), d = some dd ∧ H1 dd = some (.xd [(f, v)]) ∧ Q v H1
theorem pe_xF {a : Addr} {oe : Obj} {cls : Value} {d : Option Addr} {pn : List (Addr × Obj)} {e : Expr} {te : TE} {pos : Pos} (T : PySem.LX.Low X.K X.mg cn f C) (hz : Zc cls d oe) (hf : ∃ vs, oe.data = .fields vs) (he : PE (X.suite a ((a, oe) :: pn)) e te)
    (hb : attributeBase e f X.env (eval e X.env) = eval e X.env := by rfl) :
    PE (X.suite a ((a, oe) :: pn)) (.Attribute e f pos) (tXF C f a cls d te) := by
  refine ⟨fun pins s σ H Q I h => ?_⟩
  refine attr_of hb (thn (he.run pins s σ H _ I h) fun u s1 hh => ?_)
  obtain ⟨x, H1, I1, rx, ex, ec, dd, v, ed, ea, q⟩ := hh
  subst ex
  obtain rfl : u = Value.ref a := rx
  subst ec
  subst ed
  obtain ⟨ha, _⟩ := I1.pin (a, oe) (List.mem_append_left _ List.mem_cons_self)
  obtain ⟨vs, hd⟩ := hf
  have hx : ObjOk X.prog X.w H1 s1.heap dd (.xd [(f, v)]) := I1.hok dd _ ea
  obtain ⟨mA, hns, hr⟩ := hx
  obtain ⟨od, ho, hl⟩ := lookIn_ns hns
  have l : List.lookup f [(f, v)] = some v := by simp [List.lookup]
  obtain ⟨u, hu, ru⟩ := RelO.some_of (v := v) (o := mA f) (by rw [← l]; exact hr f)
  have J : PySem.W.InstAt s1.heap a oe C (some od) := ⟨ha, hz.1, by unfold PySem.W.notCls; rw [hd] <;> rfl, by rw [hz.2]; exact ho⟩
  exact HandSPX.exc_get I1.kIn J T.ga T.gg T.exC (PySem.W.findObj_own T.hdC T.noN rfl (by rw [hl, hu])) (handed_of ru) ⟨v, H1, I1.tok _, ru, q⟩
end
end L2
end
section
set_option Elab.async false
set_option maxRecDepth 100000
set_option linter.all false
set_option autoImplicit false
/-! DLX2: raise, try, defs that raise, over plain data -/
namespace DL
open PySem PySem.Spec PyProof.Rows L2
variable [TabCtx]

abbrev DWX := Value → List (Str × D) → DSt → Rs → Prop
def LWX (K : KF) (W : WX) (Wd : DWX) : Prop := ∀ G R H cls od fs sd σ, SV K G sd σ → RepH K G R H → ExD K G R H od fs → Wd cls fs sd R → W cls od σ H
def TakesD (X : CxF) (Wd : DWX) : Prop := ∃ W, Takes X W ∧ LWX X.K W Wd
abbrev WNo : DWX := fun _ _ _ _ => False
theorem takesNo {X : CxF} : TakesD X WNo := ⟨fun _ _ _ _ => False, fun u s' ⟨_, _, _, _, _, _, _, _, _, _, _, _, _, _, _, _, w⟩ => w.elim, fun _ _ _ _ _ _ _ _ _ _ _ w => w⟩
def Phi.and (a b : Phi) : Phi := ⟨fun G R H => a.p G R H ∧ b.p G R H, fun e h => ⟨a.st e h.1, b.st e h.2⟩⟩
theorem RepH.imp {F : KB} {Φ Ψ : Phi} {G : Hp} {R : Rs} {H : Hp} (h : RepH ⟨F, Φ⟩ G R H) (q : Φ.p G R H → Ψ.p G R H) : RepH ⟨F, Ψ⟩ G R H := ⟨h.g, h.r, q h.φ, h.b⟩
theorem ExD.drop {K : PySem.W.Frag} {G : Hp} {R R2 : Rs} {H : Hp} {od : Option Addr} {fs : List (Str × D)} (h : ExD K G R H od fs) (s : ∀ a ro, R2 a = some ro → R a = some ro) : ExD K G R2 H od fs := by
  unfold ExD at *
  cases od with
  | none => exact h
  | some d =>
    obtain ⟨vs, h1, h2, h3, h4⟩ := h
    refine ⟨vs, h1, ?_, h3, h4⟩
    cases z : R2 d with
    | none => rfl
    | some ro => rw [s d ro z] at h2; cases h2

/-! ### raise -/
def dRaise (C : Addr) (f : Str) (Wd : DWX) (t : DTA) : DTS := fun _ s R => t s R fun ds R1 => ∃ v, ds = [v] ∧ Wd (.ref C) [(f, v)] s R1
section
variable {X : CxF} {C : Addr} {cn f : Str} {Wd : DWX}
theorem ds_raise {a : Expr} {t : DTA} {p pos pos2 : Pos} {k : Nat} (hc : X.calm = true) (T : PySem.LX.Low X.K X.mg cn f C) (hr : Room k X.A) (tk : TakesD X Wd) (ha : DA X [a] t) (hg : Gl X cn) (hdb : (cn == ("__debug__" : Str)) = false := by decide)
    (he : starEach (a :: []) X.env = (false, eval a X.env) :: starEach [] X.env := by rfl) (hpl : (backTo pos (starEach [] X.env)).any (·.1) = false := by rfl) :
    DS X (.Raise (some (.Call (.Name cn p) [a] [] pos)) none pos2) (dRaise C f Wd t) := by
  obtain ⟨W, tk, lw⟩ := tk
  obtain ⟨t1, a1, a2⟩ := ha
  refine ⟨_, ps_raiseX hc T (by have : Room k X.X.A := hr; have := this.dp; omega) tk a1 hg hdb he hpl, fun G sd s R H Ed E sv rh q k => a2 G sd s R H _ _ sv rh q fun G1 R1 H1 ds vs e1 rh1 dv q1 => ?_⟩
  obtain ⟨v, rfl, q2⟩ := q1
  cases dv with
  | cons d1 d2 =>
    cases d2
    refine ⟨_, rfl, fun d hd => ?_⟩
    exact lw G1 R1 _ _ (some d) [(f, v)] sd s (sv.st e1) (rh1.hide (rh1.free hd) (rh1.gfree hd) (X.Φ.st ((Stp.refl _ _ _).wr hd) rh1.φ) (X.B.st ((Stp.refl _ _ _).wr hd) rh1.b)) ⟨_, upd_same, rh1.free hd, rh1.gfree hd, .cons d1 .nil⟩ q2
end

/-! ### a def that may raise -/
def FinX (Ed : DXK) (cls : Value) (fs : List (Str × D)) (R : Rs) : Prop := ∃ R2, (∀ a ro, R2 a = some ro → R a = some ro) ∧ Ed cls fs R2
theorem finX {Ed : DXK} {cls : Value} {fs : List (Str × D)} {R : Rs} (h : Ed cls fs R) : FinX Ed cls fs R := ⟨R, fun _ _ q => q, h⟩
theorem finXS {Ed : DXK} {cls : Value} {fs : List (Str × D)} {R R' : Rs} (s : ∀ a ro, R a = some ro → R' a = some ro) (h : Ed cls fs R) : FinX Ed cls fs R' := ⟨R, s, h⟩
section
variable {P : Program} {w : World} {K : KB} {mg : Str → Option Value} {base : Heap}
theorem okX {x qual : Str} {st : Stmt} {f : Addr} {fd : FuncData} {N ps : List Str} {k : Nat} {dsp : DSp} (F : Fun K x qual st f fd) (S : FnScope N ps (defScope st)) (len : ∀ ds R Q E, dsp ds R Q E → ds.length = ps.length)
    (hbody : ∀ {Φ : Phi} (cdv : Value) (A : Around) (outer : List Env) (s : Shared) (H : Hp) (E : XK) (Ed : DXK), A.guards = some [] → Room k (A.deeper (envOfC qual (defScope st) s.heap.objs.size f cdv)) →
      TakesD ⟨cxOf (L2.CX P w) P w K mg base N qual (defScope st) f cdv A outer s H E, Φ, K.B⟩ (fun cls fs _ R => FinX Ed cls fs R) →
      ∃ t, DSs ⟨cxOf (L2.CX P w) P w K mg base N qual (defScope st) f cdv A outer s H E, Φ, K.B⟩ (defBody st) t ∧ ∀ ds R Qd, dsp ds R Qd Ed → t { nx := fun _ R' => Fin Qd .non R', rt := Fin Qd } (dstart N ds) R) : FnG P w K mg base (L2.CX P w) (k + 1) f fd ps (spOf K dsp) := by
  obtain ⟨oc, od, kV, doc, pm, an, cdv, ct, osl, rfl, lk, cd⟩ := F.ex
  refine fnG_of lk cd S (spOf_len len) fun A gd outer s H vs Q E hr ⟨G, ds, R, Qd, Ed, dv, rh, q, cb, cx⟩ => ?_
  have tk : TakesD ⟨cxOf (L2.CX P w) P w K mg base N qual (defScope st) f cdv A outer s H E, Phi.of G R H, K.B⟩ (fun cls fs _ R => FinX Ed cls fs R) :=
    ⟨fun cls d _ H => E cls d H, takes_of rfl rfl rfl rfl, fun G' R' H' cls od fs sd σ sv rh' ex ⟨R2, s2, q2⟩ => cx G' R2 H' cls od fs (Stp.drop rh'.φ s2) (rh'.sub0 s2).toAll (ex.drop s2) q2⟩
  obtain ⟨t, ⟨t0, a1, a2⟩, h⟩ := hbody cdv A outer s H E Ed gd hr tk
  have cb' := (cb.fin).ofAll (Φ := Phi.of G R H)
  exact ⟨t0, a1, a2 G _ _ R H _ _ (SV.start dv) (rh.ofAll (Stp.refl G R H)) (h ds R Qd q) ⟨fun G' sd s R' H' e sv rh' q => cb' G' R' H' _ _ e rh' .non q, fun G' R' H' d v e rh' dv' q => cb' G' R' H' d v e rh' dv' q, fun _ _ _ _ _ _ _ _ q => q.elim, fun _ _ _ _ _ _ _ _ q => q.elim⟩⟩
end

/-! ### its call -/
section
variable {X : Cx} {CX : CXT} {k : Nat} {f : Addr} {fd : FuncData} {ps : List Str} {sp : Sp} {E : L2.St → XK} {x : Str} {p pos : Pos} {e : Expr} {es : List Expr} {t : TA}
theorem goGS {pins : List (Addr × Obj)} {σ : L2.St} {H : Hp} {s : Shared} {Q : VK} {us : List Value} {vs : List V} (F : FnG X.prog X.w X.K X.mg X.base CX k f fd ps sp) (hgd : X.A.guards = some []) (room : Room k X.A) (bd : Binds X.K fd ps []) (ps' : PassesAt CX X σ (E σ))
    (I : Inv X pins σ H s) (rv : Vals vs us) (q : sp vs H Q (E σ)) : wpAny (model X.prog X.w) X.A (call (.ref f) us) (EP X pins σ Q) X.xe s := by
  have n : us.length = ps.length := rv.length.symm.trans (F.len _ _ _ _ q)
  have b := bd s us I.kIn (by rw [List.append_nil]; exact n)
  rw [List.append_nil] at b
  apply wpAny_call
  apply codeAny_mono (F.go X.A hgd room X.stack s H I.env0 ⟨us, []⟩ us vs Q (E σ) b rv q)
  rintro (er | fl) s' z
  · exact ps' pins H s er s' I z
  · cases fl <;> first | exact False.elim z | exact I.after z
theorem pe_callGS (F : FnG X.prog X.w X.K X.mg X.base CX k f fd ps sp) (hgd : X.A.guards = some []) (room : Room k X.A) (gl : Gl X x) (hm : X.mg x = some (.ref f)) (kp : PySem.W.keepIn X.K (.ref f) = true) (bd : Binds X.K fd ps []) (ps' : ∀ σ, PassesAt CX X σ (E σ))
    (ha : PA X (e :: es) t) (hdb : (x == ("__debug__" : Str)) = false := by decide) (he : starEach (e :: es) X.env = (false, eval e X.env) :: starEach es X.env := by rfl) (hpl : (backTo pos (starEach es X.env)).any (·.1) = false := by rfl) :
    PE X (.Call (.Name x p) (e :: es) [] pos) (tCallS sp E t) :=
  ⟨fun pins s σ H Q I h => wpAny_Call_Name_kw (ld_glob I gl hm (PySem.W.callWith_K (h₀ := X.base) I.ok.mod.kin kp
    (thn (ha.run pos pins s σ H _ I h) fun us s1 ⟨vs, H1, I1, r, q⟩ => ⟨I1.kIn, goGS F hgd room bd (ps' σ) I1 r q⟩) he hpl) hdb)⟩
end
def dCallX (dsp : DSp) (Wd : DWX) (t : DTA) : DTE := fun s R Q => t s R fun ds R1 => dsp ds R1 Q (fun cls fs R' => Wd cls fs s R')
theorem LE.callX {K : KF} {t0 : TA} {W : WX} {Wd : DWX} {dsp : DSp} {t : DTA} (h : LA K t0 t) (lw : LWX K W Wd) : LE K (tCallS (spOf K.F dsp) (WE W) t0) (dCallX dsp Wd t) := fun G sd s R H Qd Q sv rh q k =>
  h G sd s R H _ _ sv rh q fun G1 R1 H1 ds vs e1 rh1 dv1 q1 =>
    ⟨G1, ds, R1, Qd, _, dv1, rh1.toAll, q1, (k.st e1).toAll rh1.φ, fun G' R' H' cls od fs e rh' ex w => lw G' R' H' cls od fs sd s ((sv.st e1).st e) (rh'.ofAll (K.Φ.st e rh1.φ)) ex w⟩
structure CalX (P : Program) (w : World) (K : KB) (mg : Str → Option Value) (base : Heap) (k : Nat) (x : Str) (dsp : DSp) : Prop where
  ex : ∃ (f : Addr) (fd : FuncData) (ps : List Str), FnG P w K mg base (L2.CX P w) k f fd ps (spOf K dsp) ∧ mg x = some (.ref f) ∧ PySem.W.keepIn K (.ref f) = true ∧ Binds K fd ps []
section
variable {X : CxF} {k j : Nat} {x : Str} {dsp : DSp} {Wd : DWX} {p pos : Pos} {e : Expr} {es : List Expr} {t : DTA}
theorem de_cX (c : CalX X.prog X.w X.K.F X.mg X.base k x dsp) (gd : X.A.guards = some []) (hr : Room j X.A) (hk : k ≤ j) (tk : TakesD X Wd) (hg : Gl X x) (ha : DA X (e :: es) t) (hdb : (x == ("__debug__" : Str)) = false := by decide)
    (he : starEach (e :: es) X.env = (false, eval e X.env) :: starEach es X.env := by rfl) (hpl : (backTo pos (starEach es X.env)).any (·.1) = false := by rfl) : DE X (.Call (.Name x p) (e :: es) [] pos) (dCallX dsp Wd t) := by
  obtain ⟨f, fd, ps, F, hm, kp, bd⟩ := c.ex
  obtain ⟨W, tk, lw⟩ := tk
  obtain ⟨t0, a1, a2⟩ := ha
  exact ⟨_, pe_callGS F gd (hr.mono hk) hg hm kp bd (fun σ => passAt tk σ) a1 hdb he hpl, LE.callX a2 lw⟩
end

/-! ### try -/
def HasX (X : CxF) (d : Option Addr) (fs : List (Str × D)) : Prop := ∀ G R H, RepH X.K G R H → ExD X.K G R H d fs
def wAsD (K : PySem.W.Frag) (c : Value) (i : Nat) (tsd : Addr → Value → List (Str × D) → DTS) (Wout : DWX) (D : DEnds) : DWX := fun cls fs s R =>
  ∃ b, PySem.W.exmOne K cls c = some b ∧ (b = true → ∀ a, R a = none → tsd a cls fs { nx := fun s' R' => D.nx (s'.set i none) R', rt := D.rt, bk := fun s' R' => D.bk (s'.set i none) R', ct := fun s' R' => D.ct (s'.set i none) R' } (s.set i (some (.ref a))) R) ∧
    (b = false → Wout cls fs s R)
def wOnlyD (K : PySem.W.Frag) (c : Value) (tsd : Addr → Value → List (Str × D) → DTS) (Wout : DWX) (D : DEnds) : DWX := fun cls fs s R =>
  ∃ b, PySem.W.exmOne K cls c = some b ∧ (b = true → ∀ a, R a = none → tsd a cls fs D s R) ∧ (b = false → Wout cls fs s R)
def dTryAs (K : PySem.W.Frag) (c : Value) (i : Nat) (tbd : DWX → DTS) (tsd : Addr → Value → List (Str × D) → DTS) (Wout : DWX) : DTS := fun D s R => tbd (wAsD K c i tsd Wout D) D s R
def dTryOnly (K : PySem.W.Frag) (c : Value) (tbd : DWX → DTS) (tsd : Addr → Value → List (Str × D) → DTS) (Wout : DWX) : DTS := fun D s R => tbd (wOnlyD K c tsd Wout D) D s R
def cTb (F : KB) (tbd : DWX → DTS) (W : WX) : L2.TS := fun E s H => ∃ (Φ' : Phi) (Wd : DWX) (G : Hp) (sd : DSt) (R : Rs) (Ed : DEnds), LWX ⟨F, Φ'⟩ W Wd ∧ SV F G sd s ∧ RepH ⟨F, Φ'⟩ G R H ∧ tbd Wd Ed sd R ∧ EB ⟨F, Φ'⟩ G R H Ed E
def cTs (F : KB) (tsd : Addr → Value → List (Str × D) → DTS) (a : Addr) (cls : Value) (d : Option Addr) : L2.TS := fun E s H => ∃ (Φ' : Phi) (fs : List (Str × D)) (G : Hp) (sd : DSt) (R : Rs) (Ed : DEnds),
  (∀ G' R' H', RepH ⟨F, Φ'⟩ G' R' H' → ExD F G' R' H' d fs) ∧ SV F G sd s ∧ RepH ⟨F, Φ'⟩ G R H ∧ tsd a cls fs Ed sd R ∧ EB ⟨F, Φ'⟩ G R H Ed E
section
variable {X : CxF} {x n : Str} {c : Value} {i : Nat} {body suite : List Stmt} {b₀ : Stmt} {np pos pos' : Pos} {tbd : DWX → DTS} {tsd : Addr → Value → List (Str × D) → DTS} {Wout : DWX}
theorem tb_run (hb : ∀ (Φ' : Phi) (Wd : DWX) (pn : List (Addr × Obj)) (xe : Value → Shared → Prop), TakesD ⟨X.X.tr pn xe, Φ', X.B⟩ Wd → PassesOwn (model X.prog X.w) X.A X.env xe → DSs ⟨X.X.tr pn xe, Φ', X.B⟩ body (tbd Wd))
    (W : WX) (pn : List (Addr × Obj)) (xe : Value → Shared → Prop) (tk : Takes (X.X.tr pn xe) W) (po : PassesOwn (model X.prog X.w) X.A X.env xe) : PSs (X.X.tr pn xe) body (cTb X.K.F tbd W) := by
  refine ⟨fun pins s σ H E I h => ?_⟩
  obtain ⟨Φ', Wd, G, sd, R, Ed, lw, sv, rh, q, eb⟩ := h
  obtain ⟨te, a1, a2⟩ := hb Φ' Wd pn xe ⟨W, tk, lw⟩ po
  exact a1.run pins s σ H E I (a2 G sd σ R H Ed E sv rh q eb)
theorem ts_run (hsu : ∀ (Φ' : Phi) (a : Addr) (oe : Obj) (cls : Value) (d : Option Addr) (fs : List (Str × D)) (pn : List (Addr × Obj)), Zc cls d oe → (∃ vs, oe.data = .fields vs) → HasX ⟨X.X.suite a ((a, oe) :: pn), Φ', X.B⟩ d fs → DSs ⟨X.X.suite a ((a, oe) :: pn), Φ', X.B⟩ (b₀ :: suite) (tsd a cls fs))
    (a : Addr) (oe : Obj) (cls : Value) (d : Option Addr) (pn : List (Addr × Obj)) (hz : Zc cls d oe) (hf : ∃ vs, oe.data = .fields vs) : PSs (X.X.suite a ((a, oe) :: pn)) (b₀ :: suite) (cTs X.K.F tsd a cls d) := by
  refine ⟨fun pins s σ H E I h => ?_⟩
  obtain ⟨Φ', fs, G, sd, R, Ed, hx, sv, rh, q, eb⟩ := h
  obtain ⟨te, a1, a2⟩ := hsu Φ' a oe cls d fs pn hz hf hx
  exact a1.run pins s σ H E I (a2 G sd σ R H Ed E sv rh q eb)
/-- the suite's ends, from the try's -/
theorem suite_eb {F : KB} {Φ : Phi} {G G' : Hp} {R R' : Rs} {H H' : Hp} {Ed : DEnds} {E : Ends} (i : Nat) (k : EB ⟨F, Φ⟩ G R H Ed E) (e : Stp G R H G' R' H') : EB ⟨F, Φ.and (Phi.of G' R' H')⟩ G' R' H'
    { nx := fun s' R' => Ed.nx (s'.set i none) R', rt := Ed.rt, bk := fun s' R' => Ed.bk (s'.set i none) R', ct := fun s' R' => Ed.ct (s'.set i none) R' } { nx := fun σ' H' => E.nx (σ'.set i none) H', rt := E.rt, bk := fun σ' H' => E.bk (σ'.set i none) H', ct := fun σ' H' => E.ct (σ'.set i none) H' } :=
  ⟨fun G2 sd2 s2 R2 H2 e2 sv2 rh2 q2 => k.nx G2 _ _ R2 H2 (e.trans e2) (sv2.forget i) (rh2.imp And.left) q2, fun G2 R2 H2 d v e2 rh2 dv q2 => k.rt G2 R2 H2 d v (e.trans e2) (rh2.imp And.left) dv q2,
    fun G2 sd2 s2 R2 H2 e2 sv2 rh2 q2 => k.bk G2 _ _ R2 H2 (e.trans e2) (sv2.forget i) (rh2.imp And.left) q2, fun G2 sd2 s2 R2 H2 e2 sv2 rh2 q2 => k.ct G2 _ _ R2 H2 (e.trans e2) (sv2.forget i) (rh2.imp And.left) q2⟩
theorem suite_eb0 {F : KB} {Φ : Phi} {G G' : Hp} {R R' : Rs} {H H' : Hp} {Ed : DEnds} {E : Ends} (k : EB ⟨F, Φ⟩ G R H Ed E) (e : Stp G R H G' R' H') : EB ⟨F, Φ.and (Phi.of G' R' H')⟩ G' R' H' Ed E :=
  ⟨fun G2 sd2 s2 R2 H2 e2 sv2 rh2 q2 => k.nx G2 _ _ R2 H2 (e.trans e2) sv2 (rh2.imp And.left) q2, fun G2 R2 H2 d v e2 rh2 dv q2 => k.rt G2 R2 H2 d v (e.trans e2) (rh2.imp And.left) dv q2,
    fun G2 sd2 s2 R2 H2 e2 sv2 rh2 q2 => k.bk G2 _ _ R2 H2 (e.trans e2) sv2 (rh2.imp And.left) q2, fun G2 sd2 s2 R2 H2 e2 sv2 rh2 q2 => k.ct G2 _ _ R2 H2 (e.trans e2) sv2 (rh2.imp And.left) q2⟩
theorem ds_try_as (hs : X.X.stack = X.X.env :: X.X.outer) (hf : X.X.env.frame = some X.X.env.locals) (hN : X.X.N.Nodup) (hi : X.X.N[i]? = some n) (hln : X.X.env.kindOf n = some .local) (hc : Names X.X x c) (tk : TakesD X Wout)
    (hb : ∀ (Φ' : Phi) (Wd : DWX) (pn : List (Addr × Obj)) (xe : Value → Shared → Prop), TakesD ⟨X.X.tr pn xe, Φ', X.B⟩ Wd → PassesOwn (model X.prog X.w) X.A X.env xe → DSs ⟨X.X.tr pn xe, Φ', X.B⟩ body (tbd Wd))
    (hsu : ∀ (Φ' : Phi) (a : Addr) (oe : Obj) (cls : Value) (d : Option Addr) (fs : List (Str × D)) (pn : List (Addr × Obj)), Zc cls d oe → (∃ vs, oe.data = .fields vs) → HasX ⟨X.X.suite a ((a, oe) :: pn), Φ', X.B⟩ d fs → DSs ⟨X.X.suite a ((a, oe) :: pn), Φ', X.B⟩ (b₀ :: suite) (tsd a cls fs)) :
    DS X (.Try body [.ExceptHandler (some (.Name x np)) (some n) (b₀ :: suite) pos'] [] [] pos) (dTryAs X.X.K c i tbd tsd Wout) := by
  obtain ⟨W, tk, lw⟩ := tk
  refine ⟨_, ps_try_as (tb := cTb X.K.F tbd) (ts := cTs X.K.F tsd) hs hf hN hi hln hc tk (tb_run hb) (ts_run hsu), fun G sd s R H Ed E sv rh q k => ?_⟩
  refine ⟨X.Φ.and (Phi.of G R H), wAsD X.X.K c i tsd Wout Ed, G, sd, R, Ed, ?_, sv, rh.imp fun z => ⟨z, Stp.refl G R H⟩, q, ?_⟩
  · rintro G' R' H' cls od fs sd' σ' sv' rh' ex ⟨b, e1, e2, e3⟩
    obtain ⟨φ1, φ2⟩ := rh'.φ
    refine ⟨b, e1, fun hb1 a ha => ?_, fun hb1 => lw G' R' H' cls od fs sd' σ' sv' (rh'.imp And.left) ex (e3 hb1)⟩
    exact ⟨X.Φ.and (Phi.of G' R' H'), fs, G', _, R', _, fun G2 R2 H2 rh2 => ex.st rh2.φ.2, sv'.set i (.ref a), rh'.imp fun z => ⟨z.1, Stp.refl G' R' H'⟩, e2 hb1 a (rh'.free ha), suite_eb i k φ2⟩
  · exact ⟨fun G2 sd2 s2 R2 H2 e2 sv2 rh2 q2 => k.nx G2 _ _ R2 H2 e2 sv2 (rh2.imp And.left) q2, fun G2 R2 H2 d v e2 rh2 dv q2 => k.rt G2 R2 H2 d v e2 (rh2.imp And.left) dv q2,
      fun G2 sd2 s2 R2 H2 e2 sv2 rh2 q2 => k.bk G2 _ _ R2 H2 e2 sv2 (rh2.imp And.left) q2, fun G2 sd2 s2 R2 H2 e2 sv2 rh2 q2 => k.ct G2 _ _ R2 H2 e2 sv2 (rh2.imp And.left) q2⟩
theorem ds_try_only (hs : X.X.stack = X.X.env :: X.X.outer) (hf : X.X.env.frame = some X.X.env.locals) (hc : Names X.X x c) (tk : TakesD X Wout)
    (hb : ∀ (Φ' : Phi) (Wd : DWX) (pn : List (Addr × Obj)) (xe : Value → Shared → Prop), TakesD ⟨X.X.tr pn xe, Φ', X.B⟩ Wd → PassesOwn (model X.prog X.w) X.A X.env xe → DSs ⟨X.X.tr pn xe, Φ', X.B⟩ body (tbd Wd))
    (hsu : ∀ (Φ' : Phi) (a : Addr) (oe : Obj) (cls : Value) (d : Option Addr) (fs : List (Str × D)) (pn : List (Addr × Obj)), Zc cls d oe → (∃ vs, oe.data = .fields vs) → HasX ⟨X.X.suite a ((a, oe) :: pn), Φ', X.B⟩ d fs → DSs ⟨X.X.suite a ((a, oe) :: pn), Φ', X.B⟩ (b₀ :: suite) (tsd a cls fs)) :
    DS X (.Try body [.ExceptHandler (some (.Name x np)) none (b₀ :: suite) pos'] [] [] pos) (dTryOnly X.X.K c tbd tsd Wout) := by
  obtain ⟨W, tk, lw⟩ := tk
  refine ⟨_, ps_try_only (tb := cTb X.K.F tbd) (ts := cTs X.K.F tsd) hs hf hc tk (tb_run hb) (ts_run hsu), fun G sd s R H Ed E sv rh q k => ?_⟩
  refine ⟨X.Φ.and (Phi.of G R H), wOnlyD X.X.K c tsd Wout Ed, G, sd, R, Ed, ?_, sv, rh.imp fun z => ⟨z, Stp.refl G R H⟩, q, ?_⟩
  · rintro G' R' H' cls od fs sd' σ' sv' rh' ex ⟨b, e1, e2, e3⟩
    obtain ⟨φ1, φ2⟩ := rh'.φ
    refine ⟨b, e1, fun hb1 a ha => ?_, fun hb1 => lw G' R' H' cls od fs sd' σ' sv' (rh'.imp And.left) ex (e3 hb1)⟩
    exact ⟨X.Φ.and (Phi.of G' R' H'), fs, G', _, R', _, fun G2 R2 H2 rh2 => ex.st rh2.φ.2, sv', rh'.imp fun z => ⟨z.1, Stp.refl G' R' H'⟩, e2 hb1 a (rh'.free ha), suite_eb0 k φ2⟩
  · exact ⟨fun G2 sd2 s2 R2 H2 e2 sv2 rh2 q2 => k.nx G2 _ _ R2 H2 e2 sv2 (rh2.imp And.left) q2, fun G2 R2 H2 d v e2 rh2 dv q2 => k.rt G2 R2 H2 d v e2 (rh2.imp And.left) dv q2,
      fun G2 sd2 s2 R2 H2 e2 sv2 rh2 q2 => k.bk G2 _ _ R2 H2 e2 sv2 (rh2.imp And.left) q2, fun G2 sd2 s2 R2 H2 e2 sv2 rh2 q2 => k.ct G2 _ _ R2 H2 e2 sv2 (rh2.imp And.left) q2⟩
end
/-- e.f in a suite -/
def dXF (C : Addr) (f : Str) (a : Addr) (cls : Value) (fs : List (Str × D)) (t : DTE) : DTE := fun s R Q => t s R fun x R1 => x = .ref a ∧ cls = .ref C ∧ ∃ v, fs = [(f, v)] ∧ Q v R1
section
variable {X : Cx} {Φ B : Phi} {C : Addr} {cn f : Str}
theorem de_xF {a : Addr} {oe : Obj} {cls : Value} {d : Option Addr} {fs : List (Str × D)} {pn : List (Addr × Obj)} {e : Expr} {te : DTE} {pos : Pos} (T : PySem.LX.Low X.K X.mg cn f C) (hz : Zc cls d oe) (hf : ∃ vs, oe.data = .fields vs) (hx : HasX ⟨X.suite a ((a, oe) :: pn), Φ, B⟩ d fs)
    (he : DE ⟨X.suite a ((a, oe) :: pn), Φ, B⟩ e te) (hb : attributeBase e f X.env (eval e X.env) = eval e X.env := by rfl) : DE ⟨X.suite a ((a, oe) :: pn), Φ, B⟩ (.Attribute e f pos) (dXF C f a cls fs te) := by
  obtain ⟨t1, a1, a2⟩ := he
  refine ⟨_, pe_xF T hz hf a1 hb, fun G sd s R H Qd Q sv rh q k => a2 G sd s R H _ _ sv rh q fun G1 R1 H1 x v e1 rh1 dv1 q1 => ?_⟩
  obtain ⟨rfl, hc, v, rfl, q2⟩ := q1
  cases dv1
  have ex := hx G1 R1 H1 rh1
  cases d with
  | none => cases ex
  | some dd =>
    obtain ⟨vs, h1, _, _, h4⟩ := ex
    cases h4 with
    | cons h5 h6 =>
      cases h6
      exact ⟨rfl, hc, dd, _, rfl, h1, k G1 R1 H1 _ _ e1 rh1 h5 q2⟩
end
/-- repr where something is handled -/
theorem cd_reprU {X : CxF} (hgd : X.A.guards = some []) (hu : X.A.units + 200 < cLine) : CallD X (.builtin "repr") (rd1 fun d R Q => ∃ p, AsPy R d p ∧ p.showable = true ∧ p.depth ≤ 190 ∧ p.shown.length ≤ sizeLine ∧ Q (.str p.shown) R) := by
  refine ⟨rRepr X.K, ?_, LRA.one fun G R H d v Qd Q rh dv ⟨p, hp, h1, h2, h3, q⟩ k => ⟨v, p, rfl, hp.dp rh dv, h1, hp.noDict, h2, h3, k G R H _ _ (Stp.refl _ _ _) rh (.str _) q⟩⟩
  intro pins s σ H xs us Q I r h
  obtain ⟨x, d, rfl, hd, hs, hnd, hdp, hz, q⟩ := h
  cases r with
  | @cons _ u _ us r1 r2 =>
    cases r2
    have hu : X.X.A.units + 200 < cLine := hu
    obtain ⟨as, rd⟩ := Dp.reads I d x u hd r1
    cases hd with
    | non =>
      cases (show u = Value.none from r1)
      exact PySem.P.repr_of_none ⟨.str _, H, I.tok _, ⟨_, rfl⟩, q⟩
    | bl b =>
      cases (show u = Value.bool b from r1)
      exact PySem.P.repr_of_bool ⟨.str _, H, I.tok _, ⟨_, rfl⟩, q⟩
    | int i =>
      obtain ⟨t, e⟩ := (show ∃ t, u = Value.int i t from r1)
      subst e
      exact PySem.P.repr_of_int (by simpa [PyData.showable] using hs) ⟨.str _, H, I.tok _, ⟨_, rfl⟩, q⟩
    | str z =>
      obtain ⟨t, e⟩ := (show ∃ t, u = Value.str z t from r1)
      subst e
      exact PySem.P.repr_of_str ⟨.str _, H, I.tok _, ⟨_, rfl⟩, q⟩ hz
    | lst _ _ =>
      cases (show u = Value.ref _ from r1)
      exact repr_of_reads' rd hs (fun z => by rw [hnd] at z; cases z) hgd (by omega) (fun _ _ e => e) (fun h' u tk kp => ⟨.str _, H, I.kept (t' := tk) kp, ⟨_, rfl⟩, q⟩) hz
    | tup _ _ =>
      cases (show u = Value.ref _ from r1)
      exact repr_of_reads' rd hs (fun z => by rw [hnd] at z; cases z) hgd (by omega) (fun _ _ e => e) (fun h' u tk kp => ⟨.str _, H, I.kept (t' := tk) kp, ⟨_, rfl⟩, q⟩) hz
end DL
end
section
set_option Elab.async false
set_option maxRecDepth 100000
set_option linter.all false
set_option autoImplicit false
/-! DLX3: del xs[-k:], xs[i] += e -/
namespace DL
open PySem PySem.Spec PyProof.Rows L2
variable [TabCtx]
theorem zip_take {α : Type} (p : Nat → Bool) (m : Nat) : ∀ (l : List α) (j : Nat), (∀ i, j ≤ i → i < j + l.length → p i = decide (m ≤ i)) → ((l.zipIdx j).filterMap fun x => if p x.2 = true then none else some x.1) = l.take (m - j)
  | [], j, _ => by simp
  | a :: l, j, h => by
    have ih := zip_take p m l (j + 1) (fun i h1 h2 => h i (by omega) (by simp only [List.length_cons]; omega))
    rw [List.zipIdx_cons]
    have hp := h j (Nat.le_refl _) (by simp only [List.length_cons]; omega)
    by_cases hm : m ≤ j
    · rw [decide_eq_true hm] at hp
      rw [List.filterMap_cons_none (by simp [hp]), ih]
      have e1 : m - (j + 1) = 0 := by omega
      have e2 : m - j = 0 := by omega
      rw [e1, e2]; rfl
    · rw [decide_eq_false hm] at hp
      rw [List.filterMap_cons_some (b := a) (by simp [hp]), ih]
      have e2 : m - j = (m - (j + 1)) + 1 := by omega
      rw [e2]; rfl
section
variable {prog : Program} {w : World} {A : Around} {E : Value → Shared → Prop} {s : Shared}
theorem bounds_tail {k n : Nat} (hk : 0 < k) (hn : k ≤ n) : sliceBounds (some (-(k : Int))) none none n = (((n - k : Nat) : Int), (n : Int), 1) := by
  simp only [sliceBounds, Option.getD_none]
  have h1 : (-(k : Int)) < 0 := by omega
  simp [h1]
  omega
/-- del xs[-k:] -/
theorem delItem_tail {l sl : Addr} {items : Array Value} {n k : Nat} {vl : Value} {Q : Unit → Shared → Prop}
    (e : s.heap.get? l = some { cls := .type "list", data := .seq items n }) (hs : s.heap.IsSliceOf sl vl .none .none) (pl : IsPart vl (some (-(k : Int)))) (hk : 0 < k) (hkn : k ≤ items.size) (hsz : items.size ≤ sizeLine)
    (h : ∀ g : Array Value → Array Value, g items = (items.toList.take (items.size - k)).toArray → Q () { s with heap := s.heap.update l (Obj.mapSeq g) }) :
    wpAny (model prog w) A (delItem (.ref l) (.ref sl)) Q E s := by
  have hl : s.heap.IsList l items := PySem.IsL.isList e
  obtain ⟨os, hos, hcs, hds⟩ := id hs
  have hTs : s.TypeIs (.ref sl) "slice" := ⟨os, hos, hcs⟩
  have hstep : ¬ ((rawPart none == rawInt 0) = true) := Bool.false_ne_true
  refine wpAny_delItem_slot hl.typeIs (by decide) F.slot_list_delitem (wpAny_call_entry F.slot_list_delitem hl.typeIs F.entry_list_delitem ?_ (F.args_list_delitem_2 _ _))
  show wpAny _ _ (Builtin.List.listSubscript? (.ref sl) >>= _) _ _ s
  refine wpAny_bind ?_
  unfold Builtin.List.listSubscript?
  refine wpAny_bind (wpAny_specialOf hTs slice_no_index ?_)
  simp only [Option.isNone_none, if_true]
  refine wpAny_pure ?_
  show wpAny _ _ (typeOf (.ref sl) >>= _) _ _ s
  refine wpAny_bind (wpAny_typeOf hTs ?_)
  first
    | rw [if_neg (by decide)]
    | refine PySem.W.KFB.if_not (by decide) ?_
  rw [listSliceParts_eq]
  refine wpAny_bind (wpAny_bind (wpAny_field hos hds (x := .none) rfl (wpAny_bind (wpAny_listPart .none ?_))))
  rw [if_neg hstep]
  refine wpAny_bind (wpAny_field hos hds (x := vl) rfl (wpAny_bind (wpAny_listPart pl ?_)))
  refine wpAny_bind (wpAny_field hos hds (x := .none) rfl (wpAny_bind (wpAny_listPart .none (wpAny_pure ?_))))
  unfold Builtin.List.listItems
  refine wpAny_bind (wpAny_bind (wpAny_seqItems e rfl (wpAny_pure ?_)))
  refine wpAny_bind (wpAny_of_eq ((sliceIndices_raw (some (-(k : Int))) none none items.size (by simp)).trans (congrArg (pure : Int × Int × Int → Sem (Int × Int × Int)) (bounds_tail hk hkn))) ?_)
  refine wpAny_bind (wpAny_rule ?_)
  have key : ∀ p : Nat → Bool, (∀ i, i < items.size → p i = decide (items.size - k ≤ i)) → (items.toList.zipIdx.filterMap fun x => if p x.2 = true then none else some x.1) = items.toList.take (items.size - k) := fun p hp => by
    have := zip_take p (items.size - k) items.toList 0 (fun i _ hi => hp i (by rw [Nat.zero_add, Array.length_toList] at hi; exact hi))
    simpa using this
  have sel : ∀ i, i < items.size → (if (1 : Int) > 0 then decide (((items.size - k : Nat) : Int) ≤ (i : Int)) && decide ((i : Int) < (items.size : Int)) && (((i : Int) - ((items.size - k : Nat) : Int)) % 1 == 0) else decide ((items.size : Int) < (i : Int)) && decide ((i : Int) ≤ ((items.size - k : Nat) : Int)) && ((((items.size - k : Nat) : Int) - (i : Int)) % (-1) == 0)) = decide (items.size - k ≤ i) := fun i hi => by
    rw [if_pos (by decide)]
    have : (((i : Int) - ((items.size - k : Nat) : Int)) % 1 == 0) = true := by simp
    rw [this, decide_eq_true (p := (i : Int) < (items.size : Int)) (by omega)]
    simp
  refine wpAny_bind (wpAny_updateSeq (hz := hsz) (_hz' := ?_) e rfl ?_)
  rotate_left
  · show (List.toArray _).size ≤ _
    rw [List.size_toArray]
    refine Nat.le_trans (Nat.le_trans (List.length_filterMap_le _ _) ?_) (Nat.le_succ_of_le hsz)
    simp
  · refine wpAny_bind (wpAny_letGo ?_)
    refine wpAny_pure ⟨.none, rfl, h _ ?_⟩
    exact congrArg List.toArray (key _ sel)
end
section
variable {X : Cx}
def tDelTail (to : TE) (k : Nat) : L2.TS := fun D σ H => to σ H fun x H1 => ∃ (l : Addr) (xs : List V), x = .ref l ∧ H1 l = some (.lst xs) ∧ k ≤ xs.length ∧ D.nx σ (upd H1 l (.lst (xs.take (xs.length - k))))
theorem ps_delTail {o : Expr} {to : TE} {k : Nat} {tpos pos p1 p2 p3 : Pos} {j : Nat} (hk : 0 < k) (ho : PE X o to) (hi : PO X (some (.UnaryOp .USub (.Constant (.int (k : Int)) j p1) p2)) (fun σ H Q => Q (some (-(k : Int))) H)) : PS X (.Delete [.Subscript o (.Slice (some (.UnaryOp .USub (.Constant (.int (k : Int)) j p1) p2)) none none p3) tpos] pos) (tDelTail to k) := by
  refine ⟨fun pins s σ H D I h => ?_⟩
  refine wpAny_Delete (wpAny_deleteEach_cons (wpAny_delete_Subscript (thn (ho.run pins s σ H _ I h) fun u s1 ⟨x, H1, I1, rx, q1⟩ => ?_)))
  refine wpAny_Slice (thn (hi.run pins s1 σ H1 (fun o H2 => o = some (-(k : Int)) ∧ H2 = H1) I1 ⟨rfl, rfl⟩) fun vl s2 ⟨l, H2, I2, pl, e1, e2⟩ => ?_)
  subst e1 e2
  refine thn (po_none.run pins s2 σ H2 (fun o H3 => o = none ∧ H3 = H2) I2 ⟨rfl, rfl⟩) fun vu s3 ⟨u2, H3, I3, pu, e1, e2⟩ => ?_
  subst e1 e2
  rw [evalPart_none]
  refine wpAny_pure ?_
  have I4 : Inv X pins σ H3 { s3 with heap := s3.heap.push { cls := .type "slice", data := .fields #[vl, vu, .none] } } := I3.kept (t' := s3.toks) fun b ob q => Heap.get?_push_of_some _ q
  obtain ⟨l, xs, ex, hH, hkn, q2⟩ := q1
  subst ex
  cases (show u = Value.ref l from rx)
  cases pu
  obtain ⟨z, its, n, r, hl, e⟩ := I4.lstM hH
  refine delItem_tail (k := k) e (Heap.IsSliceOf.new ..) pl hk (by rw [List.size_toArray, ← hl]; exact hkn) (by rw [List.size_toArray]; omega) fun g hg => ?_
  refine wpAny_deleteEach_nil ⟨σ, _, ?_, q2⟩
  refine I4.lset (its' := its.take (its.length - k)) (t' := s3.toks) hH e ?_ (by rw [hl]; exact r.take _) ?_
  · rw [hg]; simp
  · rw [List.length_take]; omega
def rGetL (K : PySem.W.Frag) : V → V → Hp → VK → Prop := fun x y H Q => ∃ p xs i z, x = .ref p ∧ y = .int i ∧ SqL K H p xs ∧ atI xs i = some z ∧ Q z H
theorem pget_list : PGet X (rGetL X.K) := by
  intro pins s σ H x y v u Q I rx ry h
  obtain ⟨p, xs, i, z, rfl, rfl, hq, he, q⟩ := h
  cases rx
  obtain ⟨t, rfl⟩ := ry
  obtain ⟨its, r, pl, hz⟩ := I.list hq
  obtain ⟨j, h1, h2, h3, h4, h5⟩ := atI_get he
  obtain ⟨w, ew, rw'⟩ := r.get h2
  have hl := r.length
  have hn := line63
  have fin : EP X pins σ Q w s := ⟨z, H, I, rw', q⟩
  by_cases h0 : 0 ≤ i
  · have hj : i.toNat = j := by
      rw [seqIndex_of h0 h5] at h1
      exact Option.some.inj h1
    exact wpAny_getItem_list pl.isList h0 (by omega) (by rw [hj]; simpa using ew) fin
  · have hj : (i + (its.toArray.size : Int)).toNat = j := by
      rw [seqIndex_neg (by omega) h4] at h1
      rw [List.size_toArray, ← hl]
      exact Option.some.inj h1
    exact wpAny_getItem_list_neg pl.isList (by omega) (by rw [List.size_toArray] <;> omega) (by omega) (by rw [hj]; simpa using ew) fin
end
/-- del xs[-k:] over data -/
def dDelTail (to : DTE) (k : Nat) : DTS := fun D s R => to s R fun x R1 => ∃ l xs, x = .ref l ∧ R1 l = some (.lst xs) ∧ k ≤ xs.length ∧ D.nx s (put R1 l (.lst (xs.take (xs.length - k))))
def dAugL (to ti te : DTE) : DTS := fun D s R => to s R fun x R1 => ti s R1 fun y R2 => ∃ l xs i a, x = .ref l ∧ y = .int i ∧ R2 l = some (.lst xs) ∧ atI xs i = some (.str a) ∧ te s R2 fun z R3 => ∃ b j xs3, z = .str b ∧ a.length + b.length ≤ sizeLine ∧ R3 l = some (.lst xs3) ∧ ixN xs3.length i = some j ∧ D.nx s (put R3 l (.lst (xs3.set j (.str (a ++ b)))))
section
variable {X : CxF}
theorem po_neg {X : Cx} {k : Nat} {j : Nat} {p1 p2 : Pos} : PO X (some (.UnaryOp .USub (.Constant (.int (k : Int)) j p1) p2)) (fun σ H Q => Q (some (-(k : Int))) H) := by
  have := po_some (X := X) (pe_un (pos := p2) un_neg (pe_int (i := (k : Int)) (j := j) (pos := p1) (X := X)))
  refine ⟨fun pins s σ H Q I h => this.run pins s σ H Q I ?_⟩
  exact ⟨_, rfl, _, rfl, h⟩
theorem ds_delTail {o : Expr} {to : DTE} {k : Nat} {tpos pos p1 p2 p3 : Pos} {j : Nat} (hk : 0 < k) (ho : DE X o to) : DS X (.Delete [.Subscript o (.Slice (some (.UnaryOp .USub (.Constant (.int (k : Int)) j p1) p2)) none none p3) tpos] pos) (dDelTail to k) := by
  obtain ⟨t1, a1, a2⟩ := ho
  refine ⟨_, ps_delTail hk a1 po_neg, fun G sd s R H Ed E sv rh q kk => a2 G sd s R H _ _ sv rh q fun G1 R1 H1 x v e1 rh1 dv1 q1 => ?_⟩
  obtain ⟨l, xs, rfl, hl, hz, q2⟩ := q1
  cases dv1
  obtain ⟨vs, h1, h2⟩ := rh1.lst hl
  refine ⟨l, vs, rfl, h1, by rw [← h2.length]; exact hz, ?_⟩
  have hlen := h2.length
  obtain ⟨s2, rh2⟩ := rh1.chg (o := .lst (vs.take (vs.length - k))) (ro := .lst (xs.take (xs.length - k))) hl ⟨_, rfl, by rw [hlen]; exact h2.take _⟩
  exact kk.nx _ sd s _ _ (e1.trans s2) ((sv.st e1).st s2) rh2 q2
theorem ds_augL {o i e : Expr} {to ti te : DTE} {tpos pos : Pos} (ho : DE X o to) (hi : DE X i ti) (he : DE X e te)
    (ha : ∀ ov iv new, augStore i ov iv new = (do holding [new, ov, iv] (setItem ov iv new); release [new, ov, iv] []; pure .next) := by intros; rfl) : DS X (.AugAssign (.Subscript o i tpos) .Add e pos) (dAugL to ti te) := by
  obtain ⟨t1, a1, a2⟩ := ho; obtain ⟨t2, b1, b2⟩ := hi; obtain ⟨t3, c1, c2⟩ := he
  refine ⟨_, ps_augS a1 b1 pget_list c1 in_addS set_list ha, fun G sd s R H Ed E sv rh q kk => a2 G sd s R H _ _ sv rh q fun G1 R1 H1 x v e1 rh1 dv1 q1 => b2 G1 sd s R1 H1 _ _ (sv.st e1) rh1 q1 fun G2 R2 H2 y v2 e2 rh2 dv2 q2 => ?_⟩
  obtain ⟨l, xs, j, a, rfl, rfl, hl, hat, q3⟩ := q2
  cases dv1; cases dv2
  obtain ⟨vs, h1, h2⟩ := rh2.lst hl
  obtain ⟨u, hu, du⟩ := atI_dv h2 hat
  cases du
  refine ⟨l, vs, j, _, rfl, rfl, .inl (.inl h1), hu, ?_⟩
  refine c2 G2 sd s R2 H2 _ _ (sv.st (e1.trans e2)) rh2 q3 fun G3 R3 H3 z v3 e3 rh3 dv3 q4 => ?_
  obtain ⟨b, m, xs3, rfl, hz, hl3, hm, q5⟩ := q4
  cases dv3
  obtain ⟨vs3, h13, h23⟩ := rh3.lst hl3
  refine ⟨a, b, rfl, rfl, hz, l, vs3, j, m, rfl, rfl, h13, by rw [← h23.length]; exact hm, ?_⟩
  obtain ⟨s2, rh4⟩ := rh3.chg (o := .lst (vs3.set m (.str (a ++ b)))) (ro := .lst (xs3.set m (.str (a ++ b)))) hl3 ⟨_, rfl, h23.set (.str _) m⟩
  exact kk.nx _ sd s _ _ (e1.trans (e2.trans (e3.trans s2))) (sv.st (e1.trans (e2.trans (e3.trans s2)))) rh4 q5
end
end DL
end
section
set_option Elab.async false
set_option maxRecDepth 100000
set_option linter.all false
set_option autoImplicit false
/-! DLX4: isinstance of a caught error; text * int; repeated texts -/
namespace DL
open PySem PySem.Spec PyProof.Rows L2
variable [TabCtx]
/-- what a class says, so that isinstance asks its instances rightly -/
structure ExcK (K : PySem.W.Frag) (C : Addr) : Prop where
  cl : (PySem.W.clsIn K C).isSome = true
  ga : PySem.W.findIn K (.ref C) "__getattribute__" = some (some (.builtin "BaseException.__getattribute__"))
  gg : PySem.W.findIn K (.ref C) "__getattr__" = some none
  hs : PySem.W.subIn K (.ref C) (.type "BaseException") = some true
  ha : PySem.W.findIn K (.ref C) "__class__" = some (some (.builtin "object.__class__"))
  hn : PySem.W.specialIn K (.builtin "object.__class__") "__get__" = some (some (.builtin "getset_descriptor.__get__"))
  ht : PySem.W.takesIn K (.builtin "object.__class__") = some true
  hm : PySem.W.mroIn K C (.type "object") = some true
inductive ClsD : D → Value → Prop where
  | ty (n : String) : ClsD (.ty n) (.type n)
  | own (C : Addr) : ClsD (.ref C) (.ref C)
theorem ClsD.rel {K : PySem.W.Frag} {G : Hp} {c : D} {v : V} {u w : Value} (k : ClsD c u) (dv : DV K G c v) (r : RelV v w) : w = u := by
  cases k with
  | ty n => cases dv; exact r
  | own C => cases dv; exact r
theorem ClsD.rels {K : PySem.W.Frag} {G : Hp} : ∀ {cs : List D} {vs : List V} {us ws : List Value}, Paired ClsD cs us → DVs K G cs vs → Vals vs ws → ws = us
  | _, _, _, _, .nil, .nil, .nil => rfl
  | _, _, _, _, .cons c k, .cons d ds, .cons r t => by rw [c.rel d r, ClsD.rels k ds t]
def rIsX (K : PySem.W.Frag) (C a : Addr) (d : Option Addr) (cls : Value) : List V → Hp → VK → Prop := fun xs H Q => cls = .ref C ∧ ∃ (c : V) (b : Bool), xs = [.ref a, c] ∧ Q (.bl b) H ∧ (d = none ∨ ∃ dd fs, d = some dd ∧ H dd = some (.xd fs)) ∧
  ((∃ cv, (∀ u, RelV c u → u = cv) ∧ PySem.W.kitOne K cls cv = some b) ∨ ∃ tp vs us, c = .ref tp ∧ SqT K H tp vs ∧ (∀ ws, Vals vs ws → ws = us) ∧ PySem.W.kitAny K cls us = some b)
theorem call_isX {X : Cx} {a C : Addr} {oe : Obj} {cls : Value} {d : Option Addr} {pn : List (Addr × Obj)} (T : ExcK X.K C) (hz : Zc cls d oe) (hf : ∃ vs, oe.data = .fields vs) :
    CallR (X.suite a ((a, oe) :: pn)) (.builtin "isinstance") (rIsX X.K C a d cls) := by
  intro pins s σ H xs us Q I r h
  obtain ⟨hc, c, b, rfl, q, hd, hcv⟩ := h
  subst hc
  obtain ⟨u1, u2, rfl, r1, r2⟩ := vals2 r
  obtain rfl : u1 = Value.ref a := r1
  obtain ⟨hget, _⟩ := I.pin (a, oe) (List.mem_append.mpr (.inl List.mem_cons_self))
  obtain ⟨vs, hv⟩ := hf
  have J : ∃ od, PySem.W.InstAt s.heap a oe C od := by
    obtain ⟨oc, odt, oda, osl⟩ := oe
    obtain ⟨h1, h2⟩ := hz
    dsimp only at h1 h2 hv
    subst h1 h2 hv
    rcases hd with rfl | ⟨dd, fs, rfl, hH⟩
    · exact ⟨none, hget, rfl, rfl, trivial⟩
    · obtain ⟨mA, hns, _⟩ := (show ObjOk X.prog X.w H s.heap dd (.xd fs) from I.hok dd _ hH)
      obtain ⟨od, ho, _⟩ := lookIn_ns hns
      exact ⟨some od, hget, rfl, rfl, ho⟩
  obtain ⟨od, J⟩ := J
  have Z := PySem.W.kitx_exc (x := a) (ox := oe) (od := od) T.cl T.ga T.gg T.hs T.ha T.hn T.ht T.hm
  rcases hcv with ⟨cv, hcv, e⟩ | ⟨tp, vs2, us2, rfl, hT, hw, e⟩
  · rw [hcv _ r2]
    exact PySem.W.kia_one Z I.kIn J e (fun z => nomatch z) fun tk => ⟨.bl b, H, I.kept (t' := tk) fun _ _ z => z, rfl, q⟩
  · obtain rfl : u2 = Value.ref tp := r2
    obtain ⟨its, rv, ⟨o, h1, h2, n, h3⟩, hz⟩ := I.tuple hT
    have e3 := hw _ rv
    subst e3
    obtain ⟨oc, odt, dt, sl⟩ := o
    simp only at h2 h3
    subst h2 h3
    exact PySem.W.kia_tup Z I.kIn J h1 e (fun z => nomatch z) fun tk => ⟨.bl b, H, I.kept (t' := tk) fun _ _ z => z, rfl, q⟩
/-- isinstance(e, c), isinstance(e, (c, ..)) in a suite -/
def rdIsX (K : PySem.W.Frag) (C a : Addr) (cls : Value) : List D → Rs → DK → Prop := fun ds R Q => cls = .ref C ∧ ∃ c b, ds = [.ref a, c] ∧ ((∃ u, ClsD c u ∧ PySem.W.kitOne K cls u = some b) ∨ ∃ cs us, c = .tup cs ∧ Paired ClsD cs us ∧ PySem.W.kitAny K cls us = some b) ∧ Q (.bl b) R
theorem cd_isX {X : Cx} {Φ B : Phi} {a C : Addr} {oe : Obj} {cls : Value} {d : Option Addr} {fs : List (Str × D)} {pn : List (Addr × Obj)} (T : ExcK X.K C) (hz : Zc cls d oe) (hf : ∃ vs, oe.data = .fields vs) (hx : HasX ⟨X.suite a ((a, oe) :: pn), Φ, B⟩ d fs) :
    CallD ⟨X.suite a ((a, oe) :: pn), Φ, B⟩ (.builtin "isinstance") (rdIsX X.K C a cls) := ⟨_, call_isX T hz hf, fun G R H xs ds Qd Q rh dv ⟨hc, c, b, hds, hcv, q⟩ k => by
  subst hds
  cases dv with
  | cons d1 d2 =>
    cases d1
    cases d2 with
    | cons d3 d4 =>
      cases d4
      refine ⟨hc, _, b, rfl, k G R H _ _ (Stp.refl _ _ _) rh (.bl b) q, ?_, ?_⟩
      · have ex := hx G R H rh
        cases d with
        | none => exact .inl rfl
        | some dd => obtain ⟨vs, h1, _⟩ := ex; exact .inr ⟨dd, _, rfl, h1⟩
      · rcases hcv with ⟨u, k1, e⟩ | ⟨cs, us, rfl, k1, e⟩
        · exact .inl ⟨u, fun w r => k1.rel d3 r, e⟩
        · cases d3 with
          | tup h1 h2 =>
            exact .inr ⟨_, _, us, rfl, SqT.same rh.g h1, fun ws r => ClsD.rels k1 h2 r, e⟩⟩
/-- an if whose test is known -/
theorem dIfS_by {c : DTT} {t u : DTS} {E : DEnds} {s : DSt} {R : Rs} (b : Bool) (hc : ∀ Q : Bool → Rs → Prop, Q b R → c s R Q) (h : if b = true then t E s R else u E s R) : dIfS c t u E s R := hc _ h
theorem GC.ref {K : PySem.W.Frag} {mg : Str → Option Value} {x : Str} {C : Addr} (h : mg x = some (.ref C)) : GC K mg x (.ref C) := ⟨_, .ref C, h, rfl, fun _ => .ref C⟩
theorem Room.u200 {k : Nat} {A : Around} (r : Room k A) : A.units + 200 < cLine := by have := r.un; omega
theorem bt_ValueError : bootBuiltins "ValueError" = some (.type "ValueError") := by decide +kernel
theorem bt_KeyError : bootBuiltins "KeyError" = some (.type "KeyError") := by decide +kernel
theorem bt_TypeError : bootBuiltins "TypeError" = some (.type "TypeError") := by decide +kernel
theorem bt_LookupError : bootBuiltins "LookupError" = some (.type "LookupError") := by decide +kernel
theorem bt_IndexError : bootBuiltins "IndexError" = some (.type "IndexError") := by decide +kernel
theorem bt_ArithmeticError : bootBuiltins "ArithmeticError" = some (.type "ArithmeticError") := by decide +kernel
theorem bt_RuntimeError : bootBuiltins "RuntimeError" = some (.type "RuntimeError") := by decide +kernel
theorem un_negD {X : CxF} : UnD X (unaryOp .USub) (fun d R Q => ∃ i, d = .int i ∧ Q (.int (-i)) R) := ⟨_, un_neg, fun G R H x xd Qd Q rh dx ⟨i, hx, q⟩ k => by
  subst hx
  cases dx
  exact ⟨i, rfl, k G R H _ _ (Stp.refl _ _ _) rh (.int _) q⟩⟩
theorem atN {α : Type} {l : List α} {k : Nat} (h : 0 < k) (hk : k ≤ l.length) : atI l (-(k : Int)) = l[l.length - k]? := by
  unfold atI ixN
  rw [if_neg (by omega), if_pos (by omega)]
  show l[(-(k : Int) + (l.length : Int)).toNat]? = _
  congr 1
  omega
theorem atL4 {α : Type} (xs : List α) (a b c d : α) : atI (xs ++ [a, b, c, d]) (-4) = some a ∧ atI (xs ++ [a, b, c, d]) (-3) = some b ∧ atI (xs ++ [a, b, c, d]) (-2) = some c ∧ atI (xs ++ [a, b, c, d]) (-1) = some d := by
  have hl : (xs ++ [a, b, c, d]).length = xs.length + 4 := by simp
  have k4 := atN (l := xs ++ [a, b, c, d]) (k := 4) (by omega) (by omega)
  have k3 := atN (l := xs ++ [a, b, c, d]) (k := 3) (by omega) (by omega)
  have k2 := atN (l := xs ++ [a, b, c, d]) (k := 2) (by omega) (by omega)
  have k1 := atN (l := xs ++ [a, b, c, d]) (k := 1) (by omega) (by omega)
  rw [hl] at k4 k3 k2 k1
  refine ⟨k4.trans ?_, k3.trans ?_, k2.trans ?_, k1.trans ?_⟩
  · rw [List.getElem?_append_right (by omega)]; simp
  · rw [List.getElem?_append_right (by omega), show xs.length + 4 - 3 - xs.length = 1 by omega]; rfl
  · rw [List.getElem?_append_right (by omega), show xs.length + 4 - 2 - xs.length = 2 by omega]; rfl
  · rw [List.getElem?_append_right (by omega), show xs.length + 4 - 1 - xs.length = 3 by omega]; rfl
theorem atL1 {α : Type} (xs : List α) (d : α) : atI (xs ++ [d]) (-1) = some d := by
  have hl : (xs ++ [d]).length = xs.length + 1 := by simp
  have k1 := atN (l := xs ++ [d]) (k := 1) (by omega) (by omega)
  rw [hl] at k1
  refine k1.trans ?_
  rw [List.getElem?_append_right (by omega)]; simp
theorem ixNeg {n : Nat} {k : Nat} (h : 0 < k) (hk : k ≤ n) : ixN n (-(k : Int)) = some (n - k) := by
  unfold ixN
  rw [if_neg (by omega), if_pos (by omega)]
  congr 1
  omega
/-- text * int -/
theorem op_mulS {X : Cx} : OpR X (binaryOp .Mult) (fun x y H Q => ∃ a n, x = .str a ∧ y = .int n ∧ PySem.MulOk a n ∧ Q (.str (Txt.mul a n)) H) := by
  intro pins s σ H x y v u Q I rx ry h
  obtain ⟨a, n, rfl, rfl, ok, q⟩ := h
  obtain ⟨t, rfl⟩ := rx
  obtain ⟨t', rfl⟩ := ry
  exact SB.mul ok fun t2 k => ⟨.str _, H, I.tok _, ⟨_, rfl⟩, q⟩
theorem od_mulS {X : CxF} : OpD X (binaryOp .Mult) (fun x y R Q => ∃ a n, x = .str a ∧ y = .int n ∧ PySem.MulOk a n ∧ Q (.str (Txt.mul a n)) R) := ⟨_, op_mulS, fun G R H x y xd yd Qd Q rh dx dy ⟨a, n, hx, hy, c, q⟩ k => by
  subst hx hy
  cases dx; cases dy
  exact ⟨a, n, rfl, rfl, c, k G R H _ _ (Stp.refl _ _ _) rh (.str _) q⟩⟩
end DL
end
section
set_option Elab.async false
set_option maxRecDepth 100000
set_option linter.all false
set_option autoImplicit false
/-! DLX5: text.replace of written texts in a display that begins with a written text + .. -/
namespace DL
open PySem PySem.Spec PyProof.Rows L2 CwR PySem.StrLaws
variable [TabCtx]
section
variable {X : Cx}
theorem pa_tok {op : Operator} {r : R2} {c : Str} {b : Expr} {tb : TE} {es : List Expr} {ta : TA} {j : Nat} {p1 pos : Pos} (ho : OpR X (binaryOp op) r) (hb : PE X b tb) (hr : PAT X es ta)
    (hs : starEach (.BinOp (.Constant (.str c) j p1) op b pos :: es) X.env = (false, eval (.BinOp (.Constant (.str c) j p1) op b pos) X.env) :: starEach es X.env := by rfl) : PA X (.BinOp (.Constant (.str c) j p1) op b pos :: es) (tCons (tOp r (tC (.str c)) tb) ta) := by
  refine ⟨fun pos2 pins s σ H Q I h => ?_⟩
  rw [hs]
  show wpAny _ _ (spliced ((false, eval (.BinOp (.Constant (.str c) j p1) op b pos) X.env) :: backTo pos2 (starEach es X.env))) _ _ s
  refine Calls.spliced_cons (wpAny_BinOp (Calls.Constant_str ?_))
  have I0 := I.tok (s.toks + 1)
  refine wpAny_mono (PySem.wpAny_toks (hb.run pins _ σ H _ I0 h)) (fun u s1 q => ?_) fun _ _ z => z.2
  obtain ⟨hk, y, H1, I1, r1, q1⟩ := q
  refine wpAny_mono (PySem.wpAny_toks (ho pins s1 σ H1 (.str c) y _ u _ I1 ⟨_, rfl⟩ r1 q1)) (fun v s2 q2 => ?_) fun _ _ z => z.2
  obtain ⟨hk2, x, H2, I2, r2, q3⟩ := q2
  have h1 : 1 ≤ s2.toks := by have : s.toks + 1 ≤ s1.toks := hk; omega
  exact thn (hr pos2 pins s2 σ H2 _ h1 I2 q3) fun us s3 ⟨xs, H3, I3, r3, q4⟩ => ⟨x :: xs, H3, I3, .cons r2 r3, q4⟩
end
def DET (X : CxF) (e : Expr) (t : DTE) : Prop := ∃ te, PET X e te ∧ LE X.K te t
def DAT (X : CxF) (es : List Expr) (t : DTA) : Prop := ∃ te, PAT X es te ∧ LA X.K te t
def dRepl (to : DTE) (y z : Str) : DTE := fun s R Q => to s R fun d R1 => ∃ x, d = .str x ∧ x.length + (x.length + 1) * z.length ≤ 16777216 ∧ Q (.str (Txt.replace x y z)) R1
section
variable {X : CxF} {o e : Expr} {es : List Expr} {to te : DTE} {t : DTA} {y z : Str} {j k : Nat} {c0 c1 apos pos p1 : Pos}
theorem det_of (h : DE X e te) : DET X e te := let ⟨t1, a1, a2⟩ := h; ⟨t1, PET.of a1, a2⟩
theorem dat_nil : DAT X [] dNil := ⟨_, pat_nil, fun G sd s R H Qd Q sv rh q k => k G R H [] [] (Stp.refl G R H) rh .nil q⟩
theorem dat_cons (ha : DET X e te) (hr : DAT X es t) (hs : starEach (e :: es) X.env = (false, eval e X.env) :: starEach es X.env := by rfl) : DAT X (e :: es) (dCons te t) := by
  obtain ⟨t1, a1, a2⟩ := ha; obtain ⟨t2, b1, b2⟩ := hr
  exact ⟨_, pat_cons a1 b1 hs, fun G sd s R H Qd Q sv rh q k => a2 G sd s R H _ _ sv rh q fun G1 R1 H1 d v e1 rh1 dv1 q1 => b2 G1 sd s R1 H1 _ _ (sv.st e1) rh1 q1 fun G2 R2 H2 ds vs e2 rh2 dvs2 q2 => k G2 R2 H2 _ _ (e1.trans e2) rh2 (.cons (dv1.st e2) dvs2) q2⟩
theorem det_repl (ho : DE X o to) (hyz : (y == z) = false := by decide)
    (hst : starEach [.Constant (.str y) j c0, .Constant (.str z) k c1] X.env = [(false, eval (.Constant (.str y) j c0) X.env), (false, eval (.Constant (.str z) k c1) X.env)] := by rfl)
    (hbase : attributeBase o "replace" X.env (eval o X.env) = eval o X.env := by rfl) (hline : (apos.endLine == pos.line) = true := by rfl) :
    DET X (.Call (.Attribute o "replace" apos) [.Constant (.str y) j c0, .Constant (.str z) k c1] [] pos) (dRepl to y z) := by
  obtain ⟨t1, a1, a2⟩ := ho
  refine ⟨_, pet_replC a1 hyz hst hbase hline, fun G sd s R H Qd Q sv rh q k => a2 G sd s R H _ _ sv rh q fun G1 R1 H1 d v e1 rh1 dv1 q1 => ?_⟩
  obtain ⟨x, rfl, hz, q2⟩ := q1
  cases dv1
  exact ⟨x, rfl, hz, k G1 R1 H1 _ _ e1 rh1 (.str _) q2⟩
theorem da_tok {op : Operator} {r : DR2} {c : Str} (ho : OpD X (binaryOp op) r) (hb : DE X e te) (hr : DAT X es t)
    (hs : starEach (.BinOp (.Constant (.str c) j p1) op e pos :: es) X.env = (false, eval (.BinOp (.Constant (.str c) j p1) op e pos) X.env) :: starEach es X.env := by rfl) : DA X (.BinOp (.Constant (.str c) j p1) op e pos :: es) (dCons (dOp r (dC (.str c)) te) t) := by
  obtain ⟨r0, o1, o2⟩ := ho; obtain ⟨t1, a1, a2⟩ := hb; obtain ⟨t2, b1, b2⟩ := hr
  refine ⟨_, pa_tok o1 a1 b1 hs, fun G sd s R H Qd Q sv rh q k => a2 G sd s R H _ _ sv rh q fun G1 R1 H1 d v e1 rh1 dv1 q1 => o2 G1 R1 H1 _ v (.str c) d _ _ rh1 (.str c) dv1 q1 fun G2 R2 H2 d2 v2 e2 rh2 dv2 q2 => ?_⟩
  exact b2 G2 sd s R2 H2 _ _ (sv.st (e1.trans e2)) rh2 q2 fun G3 R3 H3 ds vs e3 rh3 dvs3 q3 => k G3 R3 H3 _ _ (e1.trans (e2.trans e3)) rh3 (.cons (dv2.st e3) dvs3) q3
end
/-- a replaced text: its signs and its length -/
theorem repl_mem {y z : List Nat} (hy : y ≠ []) : ∀ (n : Nat) (l : List Nat), l.length ≤ n → ∀ c ∈ replL y z l, c ∈ l ∨ c ∈ z := by
  intro n
  induction n with
  | zero => intro l h c hc; have e : l = [] := List.length_eq_zero_iff.mp (by omega)
            subst e; rw [replL_nil] at hc; cases hc
  | succ n ih =>
    intro l h c hc
    cases l with
    | nil => rw [replL_nil] at hc; cases hc
    | cons a r =>
      have hyl : 0 < y.length := List.length_pos_iff.mpr hy
      by_cases ht : (a :: r).take y.length = y
      · rw [replL_hit hy ht] at hc
        rcases List.mem_append.mp hc with q | q
        · exact .inr q
        · rcases ih _ (by rw [List.length_drop]; simp only [List.length_cons] at *; omega) c q with q2 | q2
          · exact .inl (List.mem_of_mem_drop q2)
          · exact .inr q2
      · rw [replL_miss ht] at hc
        rcases List.mem_cons.mp hc with q | q
        · exact .inl (by simp [q])
        · rcases ih r (by simp only [List.length_cons] at h; omega) c q with q2 | q2
          · exact .inl (by simp [q2])
          · exact .inr q2
theorem repl_len {y z : List Nat} (hy : y ≠ []) : ∀ (n : Nat) (l : List Nat), l.length ≤ n → (replL y z l).length ≤ l.length * (z.length + 1) := by
  intro n
  induction n with
  | zero => intro l h; have e : l = [] := List.length_eq_zero_iff.mp (by omega)
            subst e; rw [replL_nil]; simp
  | succ n ih =>
    intro l h
    cases l with
    | nil => rw [replL_nil]; simp
    | cons a r =>
      have hyl : 0 < y.length := List.length_pos_iff.mpr hy
      simp only [List.length_cons] at h
      by_cases ht : (a :: r).take y.length = y
      · rw [replL_hit hy ht, List.length_append]
        have h1 := ih ((a :: r).drop y.length) (by rw [List.length_drop, List.length_cons]; omega)
        have h2 : ((a :: r).drop y.length).length ≤ r.length := by rw [List.length_drop, List.length_cons]; omega
        have h3 := Nat.mul_le_mul_right (z.length + 1) h2
        rw [List.length_cons, Nat.succ_mul]; omega
      · rw [replL_miss ht, List.length_cons]
        have h1 := ih r (by omega)
        rw [List.length_cons, Nat.succ_mul]; omega
/-- list * int -/
theorem od_rep {X : CxF} : OpD X (binaryOp .Mult) (fun x y R Q => ∃ xs k, trk R x = some xs ∧ y = .int k ∧ -(2 ^ 63) ≤ k ∧ k < 2 ^ 63 ∧ xs.length * k.toNat ≤ sizeLine ∧ Q (.lst (List.replicate k.toNat xs).flatten) R) := ⟨_, op_rep, fun G R H x y xd yd Qd Q rh dx dy ⟨xs, k, hx, hy, h1, h2, h3, q⟩ kk => by
  subst hy
  cases dy
  obtain ⟨a, vs, rfl, hH, dv⟩ := trk_dv hx rh dx
  refine ⟨a, k, vs, rfl, rfl, hH, h1, h2, by rw [← dv.length]; exact h3, fun p hp => ?_⟩
  obtain ⟨s1, rh2⟩ := rh.imm (o := .lst (List.replicate k.toNat vs).flatten) hp
  exact kk _ R _ _ _ s1 rh2 (.lst upd_same ((dv.rep k.toNat).st s1)) q⟩
end DL
end
section
set_option Elab.async false
set_option maxRecDepth 100000
set_option linter.all false
set_option autoImplicit false
/-! DLL: lambdas as data; f-strings -/
namespace DL
open PySem PySem.Spec PyProof.Rows L2 LamX NdefX
variable [TabCtx]

/-! ### a lambda is made -/
section
variable {X : Cx} {pins : List (Addr × Obj)} {σ : L2.St} {H : Hp} {s : Shared}
theorem inv_lam {L : Lam} {c : Addr} {t' : Nat} {pm ctv : Value} (I : Inv X pins σ H s) :
    Inv X pins σ (upd H s.heap.objs.size (LamO s.heap.objs.size L c)) { s with heap := s.heap.push (PySem.W.kla_obj "<lambda>" L.qual L.params L.body L.scope L.cl pm c ctv), toks := t' } := by
  refine I.laid (a := s.heap.objs.size) (fun b u e => Heap.get?_push_of_some _ e) (Nat.le_refl _) ?_
  have e : (s.heap.push (PySem.W.kla_obj "<lambda>" L.qual L.params L.body L.scope L.cl pm c ctv)).get? s.heap.objs.size = some (PySem.W.kla_obj "<lambda>" L.qual L.params L.body L.scope L.cl pm c ctv) := Heap.get?_push_size _ rfl
  exact ⟨⟨pm, ctv, e⟩, ⟨_, e⟩, fun h1 h2 ⟨p, t, z⟩ st => ⟨p, t, st _ z⟩⟩
end
def tLamV (P : Addr) (nm : Nat → Nat → Str) (pos : Pos) (L : Lam) : TE := fun σ H Q => ∃ ps : Array Value, H P = some (.tbl ps) ∧ TriplesOk ps.toList ∧ (∀ (p : Pos) (cv : Value), codeAmong p ps.toList = some cv → ∃ c, cv = .ref c ∧ H c = some (CodeO c (nm p.line p.col))) ∧
  (∀ f c', codeAmong pos ps.toList = some (.ref c') → H f = none → Q (.ref f) (upd H f (LamO f L c'))) ∧
  (∀ f c', H f = none → H c' = none → f ≠ c' → f ≠ P → Q (.ref f) (upd (upd (upd H P (.tbl (ps ++ #[rawInt pos.line, rawInt pos.col, .ref c']))) c' (CodeO c' L.qual)) f (LamO f L c')))
theorem pe_lam {X : Cx} {params : Arguments} {body : Expr} {scope : Scope} {pos : Pos} {c P : Addr} {nm : Nat → Nat → Str} (TB : TabB X.base X.mg c P) (hcode : X.env.code = .ref c) (hdef : defaultsOf params X.env = ([], []))
    (hfree : ∀ y ∈ scope.names, y.2 = .free → X.env.scope.names.lookup y.1 = some .cell ∨ X.env.scope.names.lookup y.1 = some .free) :
    PE X (.Lambda params body scope pos) (tLamV P nm pos ⟨X.env.qual ++ "<lambda>", params, body, scope, cloFrom X.env.cells scope.names []⟩) := by
  refine ⟨fun pins s σ H Q I h => ?_⟩
  obtain ⟨ps, hP, ht, ha, hit, new⟩ := h
  have hfr : ∀ y ∈ scope.names, y.2 = .free → ∃ c, X.env.cells.lookup y.1 = some c := fun y hy e => (hfree y hy e).elim (fun z => I.ok.has _ (.inl z)) fun z => I.ok.has _ (.inr z)
  refine PySem.W.kla_eval hdef ?_
  have bP : s.heap.BuiltinsAt X.mg P := TB.bm.keeps I.bk
  have hP' : s.heap.get? P = some { cls := .none, data := .fields ps } := I.hok P _ hP
  cases hc : codeAmong pos ps.toList with
  | none =>
    refine PySem.W.kla_makeFunction (mg := X.mg) (c := c) (P := P) (ps := ps) (closure_ok hfr) I.ok.glob (I.mod.glob.keeps I.bk) hcode (TB.code.keeps I.bk) hP' ht hc TB.gP bP fun c' ctv h' tk hx hge hlt hrec htb => ?_
    obtain ⟨c2, oc, vs, t, e2, hoc, hd, hv⟩ := hrec
    cases e2
    have nC : H c' = none := I.hok.fresh hge
    have hsz : s.heap.objs.size ≤ h'.objs.size := Nat.le_trans hge (Nat.le_of_lt hlt)
    have I1 := inv_table (t' := tk) (more := #[rawInt pos.line, rawInt pos.col, .ref c']) (h' := h') I hP (fun b o hb e => hx b o hb e) htb hge ⟨oc, vs, t, hoc, hd, hv⟩
    have I2 := inv_lam (L := ⟨X.env.qual ++ "<lambda>", params, body, scope, cloFrom X.env.cells scope.names []⟩) (c := c') (t' := tk) (pm := (X.mg "__name__").getD .none) (ctv := ctv) I1
    refine ⟨.ref _, _, I2, rfl, new _ _ (I.hok.fresh hsz) nC (Nat.ne_of_gt hlt) ?_⟩
    exact Nat.ne_of_gt (Nat.lt_of_lt_of_le (Heap.lt_size hP') hsz)
  | some cv =>
    obtain ⟨c', e, hco⟩ := ha pos cv hc
    subst e
    refine PySem.W.kla_makeFunctionHit (mg := X.mg) (c := c) (P := P) (ps := ps) (closure_ok hfr) I.ok.glob (I.mod.glob.keeps I.bk) hcode (TB.code.keeps I.bk) hP' ht hc bP fun ctv h' tk hx hsz => ?_
    have I1 : Inv X pins σ H { s with heap := h', toks := tk } := I.kept hx
    have I2 := inv_lam (L := ⟨X.env.qual ++ "<lambda>", params, body, scope, cloFrom X.env.cells scope.names []⟩) (c := c') (t' := tk) (pm := (X.mg "__name__").getD .none) (ctv := ctv) I1
    exact ⟨.ref _, _, I2, rfl, hit _ _ hc (I1.hok.fresh (Nat.le_refl _))⟩
theorem upd_comm {H : Hp} {a b : Addr} {o u : HO} (h : a ≠ b) : upd (upd H a o) b u = upd (upd H b u) a o := by
  funext x
  unfold upd
  by_cases h1 : x = a <;> by_cases h2 : x = b <;> simp [h1, h2]
  · subst h1; exact absurd h2 h
  · subst h1; simp [h]
  · subst h2; intro z; exact absurd z.symm h
section
variable {K : KF} {G : Hp} {R : Rs} {H : Hp}
theorem RepH.tabw {P : Addr} {nm : Nat → Nat → Str} {ps ps' : Array Value} (h : RepH K G R H) (hT : TabCtx.T P = some nm) (g0 : G P = none) (r0 : R P = none) (hP : H P = some (.tbl ps)) (ok : TriplesOk ps'.toList)
    (hc : ∀ (pos : Pos) (cv : Value), codeAmong pos ps'.toList = some cv → ∃ c, cv = .ref c ∧ G c = some (CodeO c (nm pos.line pos.col))) : Stp G R H G R (upd H P (.tbl ps')) ∧ RepH K G R (upd H P (.tbl ps')) := by
  have S : Stp G R H G R (upd H P (.tbl ps')) := ⟨Same.refl G, fun a o q1 n q2 q3 => by
      have hb : a ≠ P := by intro z; subst z; rw [hP] at q1; cases q1; exact n ps rfl
      exact ⟨by rw [upd_ne hb]; exact q1, q2, q3⟩, fun a q z h => by
      by_cases hb : a = P
      · subst hb
        rw [hT] at z; cases z
        exact ⟨g0, r0, ps', upd_same, ok, hc⟩
      · obtain ⟨h1, h2, ps1, h3, h4⟩ := h
        exact ⟨h1, h2, ps1, by rw [upd_ne hb]; exact h3, h4⟩⟩
  refine ⟨S, fun b u q => ?_, fun a ro q => ?_, K.Φ.st S h.φ, K.F.B.st S h.b⟩
  · have hb : b ≠ P := by intro z; subst z; rw [g0] at q; cases q
    rw [upd_ne hb]; exact h.g b u q
  · have hb : a ≠ P := by intro z; subst z; rw [r0] at q; cases q
    obtain ⟨h1, o, h2, h3⟩ := h.r a ro q
    exact ⟨h1, o, by rw [upd_ne hb]; exact h2, h3⟩
end
def dLam (L : Lam) : DTE := fun _ R Q => Q (.lam L) R
/-- what is asked where a lambda is made: the code object of the running def, its table -/
structure LamAt (X : CxF) (P : Addr) (nm : Nat → Nat → Str) : Prop where
  ex : ∃ c, TabB X.X.base X.X.mg c P ∧ X.X.env.code = .ref c
  tb : ∀ G R H, X.B.p G R H → TabH G R H P nm
  tc : TabCtx.T P = some nm
theorem de_lam {X : CxF} {params : Arguments} {body : Expr} {scope : Scope} {pos : Pos} {P : Addr} {nm : Nat → Nat → Str} (M : LamAt X P nm) (hn : nm pos.line pos.col = X.X.env.qual ++ "<lambda>") (hdef : defaultsOf params X.X.env = ([], []) := by rfl)
    (hfree : ndefB X.X.env.scope scope [] = true := by first | rfl | with_unfolding_all rfl) :
    DE X (.Lambda params body scope pos) (dLam ⟨X.X.env.qual ++ "<lambda>", params, body, scope, cloFrom X.X.env.cells scope.names []⟩) := by
  obtain ⟨c, TB, hcode⟩ := M.ex
  refine ⟨_, pe_lam (nm := nm) TB hcode hdef (ndef_free hfree), fun G sd s R H Qd Q sv rh q k => ?_⟩
  obtain ⟨g0, r0, ps, h1, h2, h3⟩ := M.tb G R H rh.b
  refine ⟨ps, h1, h2, fun p cv hc => let ⟨c, e1, e2⟩ := h3 p cv hc; ⟨c, e1, rh.g _ _ e2⟩, fun f c' hc hf => ?_, fun f c' hf hc' hne hnP => ?_⟩
  · obtain ⟨c, e1, e2⟩ := h3 pos _ hc
    cases e1
    rw [hn] at e2
    obtain ⟨S, rh2⟩ := rh.imm (o := LamO f _ c') hf
    exact k _ R _ _ _ S rh2 (.lam upd_same (S.g _ _ e2)) q
  · obtain ⟨S1, rh1⟩ := rh.imm (p := c') (o := CodeO c' (X.X.env.qual ++ "<lambda>")) hc'
    have hPc : P ≠ c' := ne_of_none h1 hc'
    have eL : (ps ++ #[rawInt pos.line, rawInt pos.col, .ref c']).toList = ps.toList ++ [rawInt pos.line, rawInt pos.col, .ref c'] := by simp
    obtain ⟨S2, rh2⟩ := rh1.tabw (P := P) (nm := nm) (ps := ps) (ps' := ps ++ #[rawInt pos.line, rawInt pos.col, .ref c']) M.tc (by rw [upd_ne hPc]; exact g0) r0 (by rw [upd_ne hPc]; exact h1) (by rw [eL]; exact PySem.TriplesOk_snoc _ _ _ _ h2) (fun p' cv hcv => by
      rw [eL] at hcv
      rcases among_app2 _ h2 hcv with z | ⟨z, z1, z2⟩
      · obtain ⟨c0, e1, e2⟩ := h3 p' cv z
        exact ⟨c0, e1, S1.g _ _ e2⟩
      · refine ⟨c', z, ?_⟩
        rw [← z1, ← z2, hn]
        exact upd_same)
    have hf2 : upd (upd H c' (CodeO c' (X.X.env.qual ++ "<lambda>"))) P (.tbl (ps ++ #[rawInt pos.line, rawInt pos.col, .ref c'])) f = none := by rw [upd_ne hnP, upd_ne hne]; exact hf
    obtain ⟨S3, rh3⟩ := rh2.imm (p := f) (o := LamO f ⟨X.X.env.qual ++ "<lambda>", params, body, scope, cloFrom X.X.env.cells scope.names []⟩ c') hf2
    rw [upd_comm hPc]
    exact k _ R _ _ _ (S1.trans (S2.trans S3)) rh3 (.lam upd_same (S3.g _ _ upd_same)) q

/-! ### what it promises -/
abbrev nf (L : Lam) (c : Addr) : NF := ⟨"<lambda>", L.qual, L.params, [], L.scope, L.cl, c⟩
structure LOk (P : Program) (w : World) (K : PySem.W.Frag) (mg : Str → Option Value) (base : Heap) (CX : CXT) (k : Nat) (L : Lam) (ps fr : List Str) (sp : List (Option V) → Sp) : Prop where
  len : ∀ ws vs H Q E, sp ws vs H Q E → vs.length = ps.length
  go : ∀ (A : Around), A.guards = some [] → Room k A → ∀ (outer : List Env) (s : Shared) (H : Hp), Env0 P w K mg base A outer s H → ∀ (f c : Addr) (us : List Value) (vs : List V) (ws : List (Option V)) (Q : VK) (E : XK), H f = some (LamO f L c) → H c = some (CodeO c L.qual) →
    CellsAt L.cl fr ws s.heap H → Vals vs us → sp ws vs H Q E → codeAny (model P w) A (.call (.ref f) ⟨us, []⟩) (CR CX outer P w H s Q E) s
section
variable {CX : CXT} {P : Program} {w : World} {K : PySem.W.Frag} {mg : Str → Option Value} {base : Heap} {N ps fr : List Str} {L : Lam} {k : Nat} {sp : List (Option V) → Sp}
theorem lok_of (S : NScope N ps fr L.scope) (hb : ∀ (pm cv ctv : Value) (us : List Value), us.length = ps.length → bindArgs (PySem.W.kla_fn "<lambda>" L.qual L.params L.body L.scope L.cl pm cv ctv) ⟨us, []⟩ = pure (ps.zip us)) (len : ∀ ws vs H Q E, sp ws vs H Q E → vs.length = ps.length)
    (hbody : ∀ (A : Around) (outer : List Env) (s : Shared) (H : Hp) (f c : Addr) (vs : List V) (ws : List (Option V)) (Q : VK) (E : XK), A.guards = some [] → Room k (A.deeper (envF (nf L c) f s.heap.objs.size)) → ws.length = fr.length → sp ws vs H Q E →
      ∃ t, PE (ncx CX P w K mg base N (nf L c) f A outer s H E) L.body t ∧ t (startF N vs ws) H Q) :
    LOk P w K mg base CX (k + 1) L ps fr sp := by
  refine ⟨len, fun A gd hr outer s H e0 f c us vs ws Q E hf hc C r hsp => ?_⟩
  have hl := len _ _ _ _ _ hsp
  have lim : s.heap.NoLimit := e0.mod.nolimit.keeps fun b o e => (e0.bs b o e).1
  obtain ⟨⟨pm, ctv, ho⟩, _, _⟩ := e0.hok f _ hf
  refine PySem.W.kla_callFunE hr.depth ho rfl S.co S.gen rfl (codeO_at e0.hok hc) ?_
  rw [hb pm (.ref c) ctv us (by rw [← r.length]; exact hl)]
  refine wpAny_pure (wpAny_newFunctionEnv S.nocell (fun ⟨n, _⟩ hy => S.par n (List.of_mem_zip hy).1) (fun h₁ hns hsb => ⟨lim.fresh _ hsb, ?_⟩) S.kind)
  show codeAny _ _ (.expr L.body (envF (nf L c) f s.heap.objs.size)) _ _
  have kp : ∀ b o, s.heap.get? b = some o → h₁.get? b = some o := fun b o e => hsb.extBut b o (Nat.ne_of_lt (Heap.lt_size e)) (Heap.get?_push_of_some _ e)
  obtain ⟨t, ht, hq⟩ := hbody A outer s H f c vs ws Q E gd (hr.deeper _) C.len hsp
  have I : Inv (ncx CX P w K mg base N (nf L c) f A outer s H E) [] (startF N vs ws) H { s with heap := h₁, toks := s.toks + (ps.zip us).length } := inv_startN S hr.hd e0 hl r C hns kp
  refine PySem.W.kla_codeExpr (wpAny_mono (ht.run [] _ (startF N vs ws) H _ I hq) (fun v s' hs => ?_) fun e s' hs => hs)
  obtain ⟨w', H', J', rv, q⟩ := hs
  exact ⟨w', H', J'.os, J'.bare, J'.base, J'.hok, rv, q⟩
end
/-- a lambda that captured nothing, and its promise -/
structure LamP (P : Program) (w : World) (K : KB) (mg : Str → Option Value) (base : Heap) (k : Nat) (L : Lam) (dsp : DSp) : Prop where
  cl : L.cl = []
  ex : ∃ ps, LOk P w K mg base CX0 k L ps [] fun _ => spOf K dsp
theorem cells0 {h : Heap} {H : Hp} : CellsAt [] [] [] h H := ⟨rfl, fun y c e => (nomatch e), fun x y c e => (nomatch e), fun i y e => (nomatch (show (none : Option Str) = some y from e))⟩
section
variable {P : Program} {w : World} {K : KB} {mg : Str → Option Value} {base : Heap}
theorem okL {L : Lam} {N ps : List Str} {k : Nat} {dsp : DSp} (hcl : L.cl = []) (S : NScope N ps [] L.scope) (hb : ∀ (pm cv ctv : Value) (us : List Value), us.length = ps.length → bindArgs (PySem.W.kla_fn "<lambda>" L.qual L.params L.body L.scope L.cl pm cv ctv) ⟨us, []⟩ = pure (ps.zip us))
    (len : ∀ ds R Q E, dsp ds R Q E → ds.length = ps.length)
    (hbody : ∀ (A : Around) (outer : List Env) (s : Shared) (H : Hp) (f c : Addr) (E : XK), A.guards = some [] → Room k (A.deeper (envF (nf L c) f s.heap.objs.size)) →
      ∃ t, DE ⟨ncx CX0 P w K mg base N (nf L c) f A outer s H E, .all, K.B⟩ L.body t ∧ ∀ ds R Qd Ed, dsp ds R Qd Ed → t (dstart N ds) R (Fin Qd)) : LamP P w K mg base (k + 1) L dsp := by
  refine ⟨hcl, ps, lok_of S hb (fun _ => spOf_len len) fun A outer s H f c vs ws Q E gd hr hw ⟨G, ds, R, Qd, Ed, dv, rh, q, cb, cx⟩ => ?_⟩
  obtain ⟨t, ⟨t0, a1, a2⟩, h⟩ := hbody A outer s H f c E gd hr
  have e0 : startF N vs ws = L2.start N vs := by
    cases ws with
    | nil => simp [startF, L2.start]
    | cons _ _ => simp at hw
  rw [e0]
  exact ⟨t0, a1, a2 G _ _ R H _ _ (SV.start dv) rh (h ds R Qd Ed q) cb.fin⟩
end
/-! ### its call by a local name -/
def tCallLV (i : Nat) (L : Lam) (sp : Sp) (E : XK) (t : TA) : TE := fun σ H Q => ∃ f c, σ[i]? = some (some (.ref f)) ∧ H f = some (LamO f L c) ∧ t σ H fun vs H1 => H1 f = some (LamO f L c) ∧ H1 c = some (CodeO c L.qual) ∧ sp vs H1 Q E
theorem lamAt_of {X : Cx} {pins : List (Addr × Obj)} {σ : L2.St} {H : Hp} {s : Shared} {f c : Addr} {L : Lam} (I : Inv X pins σ H s) (e : H f = some (LamO f L c)) : PySem.W.FnAt f s.heap := by
  obtain ⟨⟨pm, ctv, ho⟩, _, _⟩ := I.hok f _ e
  exact ⟨_, _, _, _, ho⟩
section
variable {X : Cx} {CX : CXT} {ps : List Str} {i j k : Nat} {x : Str} {L : Lam} {sp : Sp} {E : XK} {t : TA} {e : Expr} {es : List Expr} {p pos : Pos}
theorem pe_callLV (Fn : LOk X.prog X.w X.K X.mg X.base CX k L ps [] fun _ => sp) (hcl : L.cl = []) (gd : X.A.guards = some []) (hr : Room j X.A) (hk : k ≤ j) (hx : Passes CX X E) (hN : X.N[i]? = some x) (hv : Vis X.env.scope x) (ha : PA X (e :: es) t)
    (hd : (x == ("__debug__" : Str)) = false := by decide) (hcd : (x == ("__classdict__" : Str)) = false := by decide)
    (he : starEach (e :: es) X.env = (false, eval e X.env) :: starEach es X.env := by rfl) (hpl : (backTo pos (starEach es X.env)).any (·.1) = false := by rfl) :
    PE X (.Call (.Name x p) (e :: es) [] pos) (tCallLV i L sp E t) := by
  refine ⟨fun pins s σ H Q I h => ?_⟩
  obtain ⟨f, c, hs, hf, ht⟩ := h
  refine wpAny_Call_Name_kw (thn ((pe_var (pos := p) hN hv hd hcd).run pins s σ H (fun v H1 => v = .ref f ∧ H1 = H) I ⟨.ref f, hs, rfl, rfl⟩) fun u s1 ⟨v, H1, I1, r1, q1⟩ => ?_)
  obtain ⟨ev, eH⟩ := q1
  subst ev
  rw [eH] at I1
  obtain rfl : u = Value.ref f := r1
  refine PySem.W.callWith_F (first := []) (lamAt_of I1 hf) (thn (ha.run pos pins s1 σ H _ I1 ht) fun us s2 ⟨vs, H2, I2, r, h1, h2, q⟩ => ⟨lamAt_of I2 h1, ?_⟩) he hpl
  show wpAny _ _ (call (.ref f) us) _ _ _
  refine wpAny_call (codeAny_mono (Fn.go X.A gd (hr.mono hk) X.stack s2 H2 I2.env0 f c us vs [] Q E h1 h2 (by rw [hcl]; exact cells0) r q) fun r s' hq => ?_)
  cases r with
  | error e => exact hx pins σ H2 s2 e s' I2 hq
  | ok fl =>
    cases fl with
    | ret u => exact I2.after hq
    | next => exact False.elim hq
    | brk => exact False.elim hq
    | cont => exact False.elim hq
end
def dCallL (i : Nat) (L : Lam) (dsp : DSp) (t : DTA) : DTE := fun s R Q => s[i]? = some (some (.lam L)) ∧ t s R fun ds R1 => dsp ds R1 Q Ed0
section
variable {X : CxF} {i j k : Nat} {x : Str} {L : Lam} {dsp : DSp} {t : DTA} {e : Expr} {es : List Expr} {p pos : Pos}
theorem de_callL (i : Nat) (c : LamP X.prog X.w X.K.F X.mg X.base k L dsp) (gd : X.A.guards = some []) (hr : Room j X.A) (hk : k ≤ j) (ha : DA X (e :: es) t) (hN : X.N[i]? = some x := by rfl) (hv : Vis X.env.scope x := by first | exact Or.inl rfl | exact Or.inr (Or.inl rfl) | exact Or.inr (Or.inr rfl))
    (hd : (x == ("__debug__" : Str)) = false := by decide) (hcd : (x == ("__classdict__" : Str)) = false := by decide)
    (he : starEach (e :: es) X.env = (false, eval e X.env) :: starEach es X.env := by rfl) (hpl : (backTo pos (starEach es X.env)).any (·.1) = false := by rfl) : DE X (.Call (.Name x p) (e :: es) [] pos) (dCallL i L dsp t) := by
  obtain ⟨hcl, ps, F⟩ := c
  obtain ⟨t0, a1, a2⟩ := ha
  refine ⟨_, pe_callLV (i := i) F hcl gd hr hk pass0 hN hv a1 hd hcd he hpl, fun G sd s R H Qd Q sv rh ⟨hs, q⟩ k => ?_⟩
  obtain ⟨v, hv, dv⟩ := sv.at' i _ hs
  cases dv with
  | lam h1 h2 =>
    refine ⟨_, _, hv, rh.g _ _ h1, a2 G sd s R H _ _ sv rh q fun G1 R1 H1 ds vs e1 rh1 dv1 q1 => ?_⟩
    exact ⟨rh1.g _ _ (e1.g _ _ h1), rh1.g _ _ (e1.g _ _ h2), G1, ds, R1, Qd, Ed0, dv1, rh1.toAll, q1, (k.st e1).toAll rh1.φ, fun _ _ _ _ _ _ _ _ _ z => z.elim⟩
end

/-! ### f-strings -/
def dFmt (t : DTE) : DTE := fun s R Q => t s R fun x R1 => (∃ y : Str, x = .str y ∧ y.length ≤ sizeLine ∧ Q (.str y) R1) ∨ ∃ i : Int, x = .int i ∧ i.natAbs.log2 < 1920 ∧ Q (.str (toString i)) R1
/-- {x} where x is a text -/
def dFmtS (t : DTE) : DTE := fun s R Q => t s R fun x R1 => ∃ y : Str, x = .str y ∧ y.length ≤ sizeLine ∧ Q (.str y) R1
def dJs : List DTE → Str → DSt → Rs → (Str → Rs → Prop) → Prop
  | [], acc, _, R, Q => Q acc R
  | t :: ts, acc, s, R, Q => t s R fun x R1 => ∃ y : Str, x = .str y ∧ (acc ++ y).length ≤ sizeLine ∧ dJs ts (acc ++ y) s R1 Q
def dJoin (ts : List DTE) : DTE := fun s R Q => dJs ts Str.empty s R fun out R1 => Q (.str out) R1
section
variable {X : CxF}
theorem de_fmt {e : Expr} {t : DTE} {pos : Pos} (h : DE X e t) : DE X (.FormattedValue e (-1) none pos) (dFmt t) := by
  obtain ⟨t0, a1, a2⟩ := h
  refine ⟨_, pe_fmt a1, fun G sd s R H Qd Q sv rh q k => a2 G sd s R H _ _ sv rh q fun G1 R1 H1 d v e1 rh1 dv q1 => ?_⟩
  rcases q1 with ⟨y, rfl, hz, q1⟩ | ⟨i, rfl, hz, q1⟩
  · cases dv; exact .inl ⟨y, rfl, hz, k G1 R1 H1 _ _ e1 rh1 (.str y) q1⟩
  · cases dv; exact .inr ⟨i, rfl, hz, k G1 R1 H1 _ _ e1 rh1 (.str _) q1⟩
theorem de_fmtS {e : Expr} {t : DTE} {pos : Pos} (h : DE X e t) : DE X (.FormattedValue e (-1) none pos) (dFmtS t) := by
  obtain ⟨t0, a1, a2⟩ := h
  refine ⟨_, pe_fmt a1, fun G sd s R H Qd Q sv rh q k => a2 G sd s R H _ _ sv rh q fun G1 R1 H1 d v e1 rh1 dv q1 => ?_⟩
  obtain ⟨y, rfl, hz, q1⟩ := q1
  cases dv; exact .inl ⟨y, rfl, hz, k G1 R1 H1 _ _ e1 rh1 (.str y) q1⟩
inductive DJ (X : CxF) : List Expr → List DTE → Prop where
  | nil : DJ X [] []
  | cons {e : Expr} {t : DTE} {es : List Expr} {ts : List DTE} (h : DE X e t) (r : DJ X es ts) : DJ X (e :: es) (t :: ts)
theorem dj_pj {es : List Expr} {ts : List DTE} (h : DJ X es ts) : ∃ ps, PJ X es ps ∧ ∀ acc G sd s R H (Qd : Str → Rs → Prop) (Q : Str → Hp → Prop), SV X.K G sd s → RepH X.K G R H → dJs ts acc sd R Qd → (∀ G' R' H' out, Stp G R H G' R' H' → RepH X.K G' R' H' → Qd out R' → Q out H') → tJs ps acc s H Q := by
  induction h with
  | nil => exact ⟨[], .nil, fun acc G sd s R H Qd Q sv rh q k => k G R H acc (Stp.refl _ _ _) rh q⟩
  | cons h r ih =>
    obtain ⟨ps, a1, a2⟩ := ih
    obtain ⟨t0, b1, b2⟩ := h
    refine ⟨t0 :: ps, .cons b1 a1, fun acc G sd s R H Qd Q sv rh q k => b2 G sd s R H _ _ sv rh q fun G1 R1 H1 d v e1 rh1 dv q1 => ?_⟩
    obtain ⟨y, rfl, hz, q1⟩ := q1
    cases dv
    exact ⟨y, rfl, hz, a2 _ G1 sd s R1 H1 Qd Q (sv.st e1) rh1 q1 fun G' R' H' out e2 => k G' R' H' out (e1.trans e2)⟩
theorem de_joined {v1 v2 : Expr} {rest : List Expr} {ts : List DTE} {pos : Pos} (h : DJ X (v1 :: v2 :: rest) ts) : DE X (.JoinedStr (v1 :: v2 :: rest) pos) (dJoin ts) := by
  obtain ⟨ps, a1, a2⟩ := dj_pj h
  exact ⟨_, pe_joined a1, fun G sd s R H Qd Q sv rh q k => a2 _ G sd s R H _ _ sv rh q fun G' R' H' out e rh' q' => k G' R' H' _ _ e rh' (.str out) q'⟩
theorem de_joined1 {e : Expr} {t : DTE} {pos : Pos} (h : DE X e t) : DE X (.JoinedStr [e] pos) t := by
  obtain ⟨t0, a1, a2⟩ := h
  exact ⟨_, pe_joined1 a1, a2⟩
end
end DL
end
section
set_option Elab.async false
set_option maxRecDepth 100000
set_option linter.all false
set_option autoImplicit false
/-! DLF: the end of a law's row whose defs make lambdas, from a promise FnG -/
namespace DL
open PySem PySem.Spec PyProof.Rows L2 LamX
variable [TabCtx]
abbrev tab0 : Obj := { cls := .none, data := .fields #[] }
section
variable {P : Program} {w : World} {K : PySem.W.Frag} {mg mb : Str → Option Value} {CX : CXT} {k : Nat} {fa a : Addr} {fd : FuncData} {x : Str} {sp : Sp} {s1 : Shared} {vs : List Value} {ns : List Int} {cs : List (Addr × Addr)}
/-- what is hidden is the script or a table -/
def Hidden (K : PySem.W.Frag) (cs : List (Addr × Addr)) (a : Addr) (H : Hp) : Prop := ∀ b u, H b = some u → (b = a ∧ K.lookup a = none ∧ ∃ ob xs, u = .frz ob (.lst xs)) ∨ (K.lookup b = none ∧ u = .tbl #[] ∧ b ∈ cs.map (·.2))
theorem law_atT {H : Hp} (kin : K.In s1.heap) (gns : s1.heap.Ns mainGlobals mg) (bns : s1.heap.Ns builtinsNs mb) (blt : ∀ x : Str, x ≠ "__name__" → mb x = bootBuiltins x) (nl : s1.heap.NoLimit) (gens : s1.gens = #[])
    (obj : s1.heap.get? a = some { cls := .type "list", data := .seq vs.toArray }) (room : Room k callerA) (hT : ∀ p ∈ cs, s1.heap.get? p.2 = some tab0) (hC : ∀ p ∈ cs, PySem.W.CodeHd s1.heap p.1 p.2)
    (hbm : ∃ (bm : Addr) (ob : Obj), mg "__builtins__" = some (.ref bm) ∧ bm ≠ builtinsNs ∧ s1.heap.get? bm = some ob ∧ ob.cls = .type "module" ∧ ob.dict = some builtinsNs ∧ ob.data = .plain)
    (F : ∀ base : Heap, K.In base → base.Ns mainGlobals mg → (∀ p ∈ cs, TabB base mg p.1 p.2) → FnG P w K mg base CX k fa fd [x] sp) (bd : ∀ (s : Shared) (u : Value), BindsTo s fd ⟨[u], []⟩ [(x, u)])
    (q : sp [.ref a] H (fun v _ => v = .bl true) fun _ _ _ => False) (noX : ∀ e s', CX [] H s1 (fun _ _ _ => False) e s' → False)
    (hok : HOk P w H s1.heap) (one : Hidden K cs a H) (tr : ∀ p ∈ cs, H p.2 = some (.tbl #[])) :
    codeAny (model P w) callerA (.call (.ref fa) ⟨[.ref a], []⟩) (fun r s' => r = .ok (.ret (.bool true)) ∧ OldK s1.heap s'.heap ∧ s'.os = s1.os ∧ AllBare s'.gens) s1 := by
  have tabs : ∀ b, b ∈ cs.map (·.2) → s1.heap.get? b = some tab0 := by
    intro b hb
    obtain ⟨p, hp, rfl⟩ := List.mem_map.mp hb
    exact hT p hp
  -- neither the script nor a table
  have see : ∀ {b : Addr} {o : Obj}, s1.heap.get? b = some o → (∀ us n, o.data ≠ .seq us n) → o.data ≠ .fields #[] → (hidT s1.heap H).get? b = some o := by
    intro b o e n1 n2
    refine hidT_get e ?_
    cases z : H b with
    | none => rfl
    | some u =>
      rcases one b u z with ⟨rfl, _⟩ | ⟨_, _, hb⟩
      · rw [obj] at e; cases e; exact (n1 _ _ rfl).elim
      · rw [tabs b hb] at e; cases e; exact (n2 rfl).elim
  have keep : ∀ {b : Addr} {m : Str → Option Value}, s1.heap.Ns b m → (hidT s1.heap H).Ns b m := by
    rintro b m ⟨o, es, ep, e, d, r⟩
    exact ⟨o, es, ep, see e (fun us n z => by rw [d] at z; cases z) (fun z => by rw [d] at z; cases z), d, r⟩
  have inK : K.In (hidT s1.heap H) := by
    intro b o e
    refine hidT_get (kin b o e) ?_
    cases z : H b with
    | none => rfl
    | some u =>
      rcases one b u z with ⟨rfl, no, _⟩ | ⟨no, _⟩ <;> (rw [no] at e; cases e)
  have md : Mod K mg (hidT s1.heap H) := ⟨inK, keep gns, ⟨mb, keep bns, blt⟩, by obtain ⟨mc, h1, h2⟩ := nl; exact ⟨mc, keep h1, h2⟩⟩
  have none_in : ∀ b : Addr, b ∉ frs ([] : List Env) := fun b z => by cases z
  have ev : Env0 P w K mg (hidT s1.heap H) callerA [] s1 H := ⟨rfl, md, fun _ _ e => of_hidT e, Nat.le_of_eq (hidT_size _ _), trivial, fun b z => (none_in b z).elim, hok, .of_eq gens⟩
  have tb : ∀ p ∈ cs, TabB (hidT s1.heap H) mg p.1 p.2 := by
    intro p hp
    have hp2 := hT p hp
    obtain ⟨go, ges, gep, ge, gd, _⟩ := gns
    obtain ⟨o, us, file, tf, flags, tg, inF, text, tt, e1, r1, r2, r3, rr⟩ := hC p hp
    obtain ⟨bm, ob, b1, b2, b3, b4, b5, b6⟩ := hbm
    have c1 : (hidT s1.heap H).get? p.1 = some o := see e1 (fun us n z => by rw [r2] at z; cases z) (fun z => by rw [r2] at z; cases z; simp at r3)
    have c2 : (hidT s1.heap H).get? bm = some ob := see b3 (fun us n z => by rw [b6] at z; cases z) (fun z => by rw [b6] at z; cases z)
    have n1 : bm ≠ mainGlobals := fun z => by rw [z, ge] at b3; cases b3; rw [gd] at b6; cases b6
    have n2 : bm ≠ p.2 := fun z => by rw [z, hp2] at b3; cases b3; cases b6
    exact ⟨⟨o, us, file, tf, flags, tg, inF, text, tt, c1, r1, r2, r3, rr⟩, ⟨bm, ob, b1, b2, n1, n2, c2, b4, b5, b6⟩, fun z => by rw [z, hp2] at ge; cases ge; cases gd⟩
  apply codeAny_mono ((F _ inK (keep gns) tb).go callerA rfl room [] s1 H ev ⟨[.ref a], []⟩ [.ref a] [.ref a] _ _ (bd s1 (.ref a)) (.cons rfl .nil) q)
  rintro (er | fl) s2 z
  · exact (noX er s2 z).elim
  · cases fl with
    | next => exact False.elim z
    | brk => exact False.elim z
    | cont => exact False.elim z
    | ret u =>
      obtain ⟨v, H2, os, bare, un, hok2, rel, tt⟩ := z
      cases (show v = .bl true from tt)
      cases (show u = Value.bool true from rel)
      have old : ∀ b o, s1.heap.get? b = some o → b ∉ cs.map (·.2) → s2.heap.get? b = some o := by
        intro b o e nb
        cases z : H b with
        | none => exact un.keep b o e z (none_in b) (by simp)
        | some u =>
          rcases one b u z with ⟨_, _, ob, xs, rfl⟩ | ⟨_, _, hb⟩
          · have e1 : s1.heap.get? b = some ob := (hok b _ z).1
            have e2 : s2.heap.get? b = some ob := (hok2 b _ (un.frzs b ob _ z)).1
            rw [e] at e1
            rw [e2, e1]
          · exact (nb hb).elim
      have new : ∀ p ∈ cs, ∃ more : Array Value, s2.heap.get? p.2 = some { cls := .none, data := .fields more } := by
        intro p hp
        obtain ⟨more, z⟩ := un.tbls p.2 #[] (tr p hp)
        exact ⟨_, hok2 p.2 _ z⟩
      refine ⟨rfl, ⟨fun b o e => ?_, fun b o e => ?_⟩, os, bare⟩
      · by_cases hb : b ∈ cs.map (·.2)
        · obtain ⟨p, hp, rfl⟩ := List.mem_map.mp hb
          obtain ⟨more, hm⟩ := new p hp
          rw [hT p hp] at e
          cases e
          exact .inr (.inl ⟨((hC p hp).tab (hT p hp)).isCodeTable, rfl, #[], more, rfl, by rw [Array.empty_append]; exact hm⟩)
        · exact .inl (old b o e hb)
      · by_cases hb : b ∈ cs.map (·.2)
        · obtain ⟨p, hp, rfl⟩ := List.mem_map.mp hb
          obtain ⟨more, hm⟩ := new p hp
          exact ⟨_, hm⟩
        · exact ⟨o, old b o e hb⟩
/-- the tables alone; the tables and the script -/
def tabHp (cs : List (Addr × Addr)) : Hp := fun b => if b ∈ cs.map (·.2) then some (.tbl #[]) else none
theorem tabHp_at {b : Addr} {u : HO} (h : tabHp cs b = some u) : b ∈ cs.map (·.2) ∧ u = .tbl #[] := by
  unfold tabHp at h
  split at h
  · rename_i hb; cases h; exact ⟨hb, rfl⟩
  · cases h
theorem tabHp_on {p : Addr × Addr} (hp : p ∈ cs) : tabHp cs p.2 = some (.tbl #[]) := by unfold tabHp; rw [if_pos (List.mem_map.mpr ⟨p, hp, rfl⟩)]
theorem law_callT (kin : K.In s1.heap) (gns : s1.heap.Ns mainGlobals mg) (bns : s1.heap.Ns builtinsNs mb) (blt : ∀ x : Str, x ≠ "__name__" → mb x = bootBuiltins x) (nl : s1.heap.NoLimit) (gens : s1.gens = #[])
    (obj : s1.heap.get? a = some { cls := .type "list", data := .seq vs.toArray }) (inz : IntsAre vs ns) (few : ns.length ≤ sizeLine) (room : Room k callerA) (hT : ∀ p ∈ cs, s1.heap.get? p.2 = some tab0) (nT : ∀ p ∈ cs, K.lookup p.2 = none) (hC : ∀ p ∈ cs, PySem.W.CodeHd s1.heap p.1 p.2)
    (hbm : ∃ (bm : Addr) (ob : Obj), mg "__builtins__" = some (.ref bm) ∧ bm ≠ builtinsNs ∧ s1.heap.get? bm = some ob ∧ ob.cls = .type "module" ∧ ob.dict = some builtinsNs ∧ ob.data = .plain)
    (F : ∀ base : Heap, K.In base → base.Ns mainGlobals mg → (∀ p ∈ cs, TabB base mg p.1 p.2) → FnG P w K mg base CX k fa fd [x] sp) (bd : ∀ (s : Shared) (u : Value), BindsTo s fd ⟨[u], []⟩ [(x, u)])
    (hsp : ∀ H : Hp, (∀ p ∈ cs, H p.2 = some (.tbl #[])) → SqL K H a (ns.map V.int) → sp [.ref a] H (fun v _ => v = .bl true) fun _ _ _ => False)
    (noX : ∀ H e s', CX [] H s1 (fun _ _ _ => False) e s' → False) :
    codeAny (model P w) callerA (.call (.ref fa) ⟨[.ref a], []⟩) (fun r s' => r = .ok (.ret (.bool true)) ∧ OldK s1.heap s'.heap ∧ s'.os = s1.os ∧ AllBare s'.gens) s1 := by
  have n1 := inz.length
  have tabs : ∀ b, b ∈ cs.map (·.2) → s1.heap.get? b = some tab0 ∧ K.lookup b = none := by
    intro b hb
    obtain ⟨p, hp, rfl⟩ := List.mem_map.mp hb
    exact ⟨hT p hp, nT p hp⟩
  have aT : a ∉ cs.map (·.2) := fun z => by
    have := (tabs a z).1
    rw [obj] at this
    cases this
  cases lk : K.lookup a with
  | some o =>
    have e := kin a o lk
    rw [obj] at e
    cases e
    have sq : SqL K (tabHp cs) a (ns.map V.int) := .inr ⟨_, vs.toArray, _, lk, rfl, rfl, rfl, by rw [List.size_toArray, n1]; exact few, by simpa using vals_ints inz⟩
    refine law_atT kin gns bns blt nl gens obj room hT hC hbm F bd (hsp _ (fun p hp => tabHp_on hp) sq) (noX _) (fun b u z => ?_) (fun b u z => ?_) fun p hp => tabHp_on hp
    · obtain ⟨hb, rfl⟩ := tabHp_at z
      exact (tabs b hb).1
    · obtain ⟨hb, rfl⟩ := tabHp_at z
      exact .inr ⟨(tabs b hb).2, rfl, hb⟩
  | none =>
    let H : Hp := upd (tabHp cs) a (.frz { cls := .type "list", data := .seq vs.toArray } (.lst (ns.map V.int)))
    have at_ : ∀ b u, H b = some u → (b = a ∧ u = .frz { cls := .type "list", data := .seq vs.toArray } (.lst (ns.map V.int))) ∨ (b ∈ cs.map (·.2) ∧ u = .tbl #[]) := by
      intro b u z
      by_cases hb : b = a
      · subst hb
        have z2 : upd (tabHp cs) b _ b = some u := z
        rw [upd_same] at z2
        cases z2
        exact .inl ⟨rfl, rfl⟩
      · have z2 : upd (tabHp cs) a _ b = some u := z
        rw [upd_ne hb] at z2
        exact .inr (tabHp_at z2)
    have tr : ∀ p ∈ cs, H p.2 = some (.tbl #[]) := fun p hp => by
      show upd (tabHp cs) a _ p.2 = _
      rw [upd_ne fun z => aT (by rw [← z]; exact List.mem_map.mpr ⟨p, hp, rfl⟩)]
      exact tabHp_on hp
    have sq : SqL K H a (ns.map V.int) := .inl (.inr ⟨_, upd_same⟩)
    refine law_atT kin gns bns blt nl gens obj room hT hC hbm F bd (hsp H tr sq) (noX H) (fun b u z => ?_) (fun b u z => ?_) tr
    · rcases at_ b u z with ⟨rfl, rfl⟩ | ⟨hb, rfl⟩
      · exact ⟨obj, by rw [List.length_map]; exact few, vs, _, vals_ints inz, obj⟩
      · exact (tabs b hb).1
    · rcases at_ b u z with ⟨rfl, rfl⟩ | ⟨hb, rfl⟩
      · exact .inl ⟨rfl, lk, _, _, rfl⟩
      · exact .inr ⟨(tabs b hb).2, rfl, hb⟩
end
/-- the tables of the defs at the head's end: empty -/
def TabsOf (q : Program) (K : PySem.W.Frag) (h : Heap) : Prop := ∀ (x : Str) (c P : Addr), ((recsOf q).find? fun e => e.name == x).isSome = true → PySem.W.tabIn K x = some (c, P) → PySem.W.CodeHd h c P ∧ h.get? P = some tab0
/-- the law's promise at the head's heap h -/
def LawAtG (l : PySem.W.OpenLaw) (w : World) (K : PySem.W.Frag) (CX : CXT) (k n : Nat) (x : Str) (mg : Str → Option Value) (fa : Addr) (h : Heap) : Prop :=
  ∃ (fd : FuncData) (cs : List (Addr × Addr)) (sp : Sp), (∀ p ∈ cs, h.get? p.2 = some tab0) ∧ (∀ p ∈ cs, K.lookup p.2 = none) ∧ (∀ p ∈ cs, PySem.W.CodeHd h p.1 p.2) ∧ (∀ (s : Shared) (u : Value), BindsTo s fd ⟨[u], []⟩ [(x, u)]) ∧
    (∀ (H : Hp) (a : Addr) (ns : List Int), ns.length ≤ n → (∀ p ∈ cs, H p.2 = some (.tbl #[])) → SqL K H a (ns.map V.int) → sp [.ref a] H (fun v _ => v = .bl true) fun _ _ _ => False) ∧
    ∀ base : Heap, K.In base → base.Ns mainGlobals mg → (∀ p ∈ cs, TabB base mg p.1 p.2) → FnG l.prog w K mg base CX k fa fd [x] sp
theorem walkT {l : PySem.W.OpenLaw} {n k : Nat} {q : Program} {loose : List Str} {XP : (Str → Option Value) → Heap → Prop} {YP : World → Heap → Prop} {d : DefRec} {K : Params → PySem.W.Frag} {CX : World → CXT} {x : Str}
    (hn : l.most = some n) (hn2 : n ≤ sizeLine) (hdf : d.params.defaults = []) (room : Room k callerA) (hY : ∀ (w : World) (h : Heap), YP w h → (K w.params).In h)
    (F : ∀ (w : World) (mg : Str → Option Value) (fa : Addr) (h : Heap), YP w h → (K w.params).In h → h.Ns mainGlobals mg → mg d.name = some (.ref fa) → TabsOf q (K w.params) h → LawAtG l w (K w.params) (CX w) k n x mg fa h)
    (noX : ∀ (w : World) (H : Hp) (s : Shared) (e : Value) (s' : Shared), CX w [] H s (fun _ _ _ => False) e s' → False) :
    PySem.W.WalkO q loose XP YP l.row.toRowW d [] (fun f vs => PySem.call f vs) := by
  apply Att.attach_call hn hdf
  intro w s0 s1 mg mb fa o pm cd doc a vs ns G Y ho hd hcd hmg hobj hints hlen hg
  have kin := hY w _ Y
  have tbs : TabsOf q (K w.params) s1.heap := fun x c P hr ht => by
    obtain ⟨e, he⟩ := Option.isSome_iff_exists.mp hr
    exact PySem.W.tab_of G.T kin he ht
  obtain ⟨fd, cs, sp, hT, nT, hC, bd, hsp, hF⟩ := F w mg fa _ Y kin G.T.g hmg tbs
  exact law_callT kin G.T.g G.T.b G.T.builtins G.T.nolimit hg hobj hints (Nat.le_trans hlen hn2) room hT nT hC G.T.bmain hF bd (fun H tr sq => hsp H a ns hlen tr sq) fun H e s' => noX w H s1 e s'

/-! ### what stays true: the told tables -/
def tabsPhi : Phi := ⟨fun G R H => ∀ a nm, TabCtx.T a = some nm → TabH G R H a nm, fun e h a nm z => e.t a nm z (h a nm z)⟩
theorem script_okT {K : PySem.W.Frag} {dsp : DSp} {H : Hp} {a : Addr} {ns : List Int} (h : ∀ (R : Rs) (Ed : DXK), dsp [.rls (ns.map D.int)] R (fun d _ => d = .bl true) Ed) (tr : ∀ b nm, TabCtx.T b = some nm → H b = some (.tbl #[])) (hS : SqL K H a (ns.map V.int)) :
    spOf ⟨K, tabsPhi⟩ dsp [.ref a] H (fun v _ => v = .bl true) (fun _ _ _ => False) := by
  let G : Hp := fun b => match TabCtx.T b with | some _ => none | none => H b
  have g0 : ∀ b, TabCtx.T b = none → G b = H b := fun b e => by show (match TabCtx.T b with | some _ => none | none => H b) = _; rw [e]
  have g1 : ∀ b nm, TabCtx.T b = some nm → G b = none := fun b nm e => by show (match TabCtx.T b with | some _ => none | none => H b) = _; rw [e]
  have eq : ∀ b u, H b = some u → NoTab u → G b = some u := fun b u e n => by
    cases z : TabCtx.T b with
    | none => rw [g0 b z]; exact e
    | some nm => rw [tr b nm z] at e; cases e; exact (n _ rfl).elim
  refine script_okG (G := G) h (fun b u e => ?_) (fun b nm z => ⟨g1 b nm z, rfl, #[], tr b nm z, trivial, fun pos cv hc => ?_⟩) ?_
  · cases z : TabCtx.T b with
    | none => rw [g0 b z] at e; exact e
    | some nm => rw [g1 b nm z] at e; cases e
  · have z : codeAmong pos [] = some cv := hc
    simp [codeAmong] at z
  · rcases hS with (hS | ⟨o, hS⟩) | hS
    · exact .inl (.inl (eq _ _ hS (fun _ z => by cases z)))
    · exact .inl (.inr ⟨o, eq _ _ hS (fun _ z => by cases z)⟩)
    · exact .inr hS
/-- a def whose code object is known -/
structure FunC (K : PySem.W.Frag) (x qual : Str) (st : Stmt) (f : Addr) (fd : FuncData) (c : Addr) : Prop where
  ex : ∃ (oc : Value) (od : Option Addr) (kV doc pm : Value) (an : Option Addr) (ct : Value) (osl : Array (Option Value)), fd = PySem.W.fnOf x qual (defArgs st) (defBody st) (defScope st) .none kV doc pm an (.ref c) ct ∧ K.lookup f = some ⟨oc, od, .func fd, osl⟩ ∧ PySem.W.codeIn K (.ref c) qual = true
/-- its table -/
structure TabOk (K : KB) (mg : Str → Option Value) (base : Heap) (c P : Addr) (nm : Nat → Nat → Str) : Prop where
  tb : TabB base mg c P
  on : ∀ G R H, K.B.p G R H → TabH G R H P nm
  tc : TabCtx.T P = some nm
section
variable {P : Program} {w : World} {K : KB} {mg : Str → Option Value} {base : Heap}
theorem okDC {x qual : Str} {st : Stmt} {f c : Addr} {fd : FuncData} {N ps : List Str} {k : Nat} {dsp : DSp} (F : FunC K x qual st f fd c) (S : FnScope N ps (defScope st)) (len : ∀ ds R Q E, dsp ds R Q E → ds.length = ps.length)
    (hbody : ∀ (A : Around) (outer : List Env) (s : Shared) (H : Hp) (E : XK), A.guards = some [] → Room k (A.deeper (envOfC qual (defScope st) s.heap.objs.size f (.ref c))) →
      ∃ t, DSs ⟨(cxOf CX0 P w K mg base N qual (defScope st) f (.ref c) A outer s H E).nox, .all, K.B⟩ (defBody st) t ∧ ∀ ds R Qd Ed, dsp ds R Qd Ed → t { nx := fun _ R' => Fin Qd .non R', rt := Fin Qd } (dstart N ds) R) : FnG P w K mg base CX0 (k + 1) f fd ps (spOf K dsp) := by
  obtain ⟨oc, od, kV, doc, pm, an, ct, osl, rfl, lk, cd⟩ := F.ex
  refine fnG_of lk cd S (spOf_len len) fun A gd outer s H vs Q E hr ⟨G, ds, R, Qd, Ed, dv, rh, q, cb, cx⟩ => ?_
  obtain ⟨t, ⟨t0, a1, a2⟩, h⟩ := hbody A outer s H E gd hr
  exact ⟨t0, a1.nox, a2 G _ _ R H _ _ (SV.start dv) rh (h ds R Qd Ed q) ⟨fun G' sd s R' H' e sv rh' q => cb.fin G' R' H' _ _ e rh' .non q, fun G' R' H' d v e rh' dv' q => cb.fin G' R' H' d v e rh' dv' q, fun _ _ _ _ _ _ _ _ q => q.elim, fun _ _ _ _ _ _ _ _ q => q.elim⟩⟩
end
/-! ### a lambda among a call's arguments -/
def exNone : Expr := .Constant .none 0 ⟨0, 0, 0, 0⟩
def retE : List Stmt → Expr
  | .Return (some e) _ :: _ => e
  | _ => exNone
def argE (i : Nat) : Expr → Expr
  | .Call _ es _ _ => es.getD i exNone
  | _ => exNone
def lamOf (q : Str) : Expr → Lam
  | .Lambda ps b sc _ => ⟨q, ps, b, sc, []⟩
  | _ => ⟨q, { posonlyargs := [], args := [], vararg := none, kwonlyargs := [], kw_defaults := [], kwarg := none, defaults := [] }, exNone, { kind := .function, names := [], isGenerator := false, isCoroutine := false, more := [] }, []⟩
end DL
end
section
set_option Elab.async false
set_option maxRecDepth 100000
set_option maxHeartbeats 4000000
set_option linter.all false
set_option autoImplicit false
namespace Law
open PySem PySem.Spec PyProof.Rows L2 DL TL TrA TrA.Tr
def top (i : Nat) : Stmt := PySem.Challenge.pw_eitherside_k25_tree_texts.main.body.getD i (.Pass ⟨0, 0, 0, 0⟩)
abbrev bl : List Str := ["len", "isinstance", "repr", "abs", "max", "min", "sorted", "any", "all", "int", "str", "tuple", "list", "set", "bool", "range", "dict", "enumerate", "zip", "sum", "ValueError", "KeyError", "TypeError", "LookupError", "IndexError", "ArithmeticError", "RuntimeError"]
section
variable [TabCtx] {P : Program} {w : World} {K : KB} {mg : Str → Option Value} {base : Heap} {f : Addr} {fd : FuncData}
abbrev s_law_bag : Stmt := top 14
abbrev n_law_bag : List Str := ["_law_script", "_law_at", "_law_cell", "_law_far", "_law_seed"]
theorem sc_law_bag : FnScope n_law_bag ["_law_script", "_law_at"] (defScope s_law_bag) := ⟨rfl, rfl, rfl, by decide +kernel, rfl, by decide +kernel, by decide +kernel⟩
/-- a bag: three numbers -/
def Bag (R : Rs) (b : Addr) : Prop := ∃ x y z : Int, R b = some (.lst [.int x, .int y, .int z]) ∧ 0 ≤ x ∧ 0 ≤ y ∧ y < 2147483647
def spBag : DSp := fun ds R Q _ => ∃ (ns : List Int) (i : Int), ds = [.rls (ns.map D.int), .int i] ∧ 0 ≤ i ∧ i < 64 ∧ ∀ (b : Addr) (o : RO), R b = none → Bag (put R b o) b → Q (.ref b) (put R b o)
theorem ok_bag (F : Fun K "_law_bag" "_law_bag" s_law_bag f fd) (Z : Blt mg bl) : FnG P w K mg base CX0 1 f fd ["_law_script", "_law_at"] (spOf K spBag) := by
  refine okD F sc_law_bag (fun ds R Q E h => by obtain ⟨ns, i, rfl, _⟩ := h; rfl) fun cdv A outer s H E gd hr => ?_
  refine ⟨_, (dss_cons (ds_asg (de_if (dt_cmp od_lt (dv 1) (de_callB cd_len (by rfl) (Z _ (by decide)) bt_len (da_cons (dv 0) da_nil)) (nomark _)) (de_ix xd_seq (dv 0) (dv 1) (fun _ _ => rfl)) de_int) (dg_name (i := 2) sc_law_bag.nd rfl (.inl rfl)))
    (dss_cons (ds_asg (de_callB cd_abs (by rfl) (Z _ (by decide)) bt_abs (da_cons (dv 2) da_nil)) (dg_name (i := 3) sc_law_bag.nd rfl (.inl rfl)))
    (dss_cons (ds_asg (de_op od_mod (de_op od_add (de_op od_add (de_op od_mul (de_op od_mod (dv 2) de_int) de_int) (de_op od_mul de_int (dv 1))) de_int) de_int) (dg_name (i := 4) sc_law_bag.nd rfl (.inl rfl)))
    (dss_one (ds_ret (de_lst (da_cons (de_op od_mul (dv 3) (de_callTy cd_intB (by rfl) (Z _ (by decide)) bt_int (da_cons (de_cmp od_ge (dv 3) (de_op od_pow de_int de_int) (nomark _)) da_nil))) (da_cons (dv 4) (da_cons de_int da_nil))))))))), fun ds R Qd Ed h => ?_⟩
  obtain ⟨ns, i, rfl, h0, h1, q⟩ := h
  simp only [dSeq, dCallL, dLam, dJoin, dJs, dFmtS, dRepl, dRaise, dCallX, dDelTail, dAugL, dXF, dAsg, dIf, dIfS, dB, dAnd, dOr, dNot, dAndV, dOrV, dNotV, dChain, dOp, dUn, dVar, dC, rdI0, rdI, dCB, dCall, rd1, dCons, dNil, dgName, dgSub, dgTup, dgLst, dSortSet, dgCons, dgNil, rdSetL, dRet, dLst, dLstF, dTup, dDrop, dNext, dPar, dBM, dBM0, dSl, dPart, dNoPart, dstart, dwipe, List.map_cons, List.map_nil, List.length_cons, List.length_nil, List.replicate_succ, List.replicate_zero, List.cons_append, List.nil_append, List.set_cons_zero, List.set_cons_succ, List.getElem?_cons_zero, List.getElem?_cons_succ, Nat.reduceAdd, Nat.reduceSub, Option.some.injEq, D.int.injEq, D.bl.injEq, D.str.injEq, D.ref.injEq, D.ty.injEq, D.tup.injEq, D.lst.injEq, D.rls.injEq, RO.lst.injEq, List.cons.injEq, exists_and_left, exists_eq_left', exists_eq_left, and_true, true_and, put_same, put_put, at0, at1, at2, ix30, ix31, ix32, and_assoc, dLcF, dLc, dLcT, dIRng1, dIRng2, dIStr, dITup, dILst, dYes, if_true, Bool.false_eq_true, if_false, eqS_ii, neS_ii, eqS_ss, neS_ss, decide_eq_true_eq, sq_tup, sq_lst, sq_rls, lo_lst, lo_rls, tr_lst, isi_tt, isi_st, isi_nt, isi_bt, isi_it, isi_lt, isi_ts, isi_ss, isi_ns, isi_bs, isi_is, isi_ls, List.append_nil, sz0, sz1, sz2, sz3, sz4, sz5, sz6, sl0, sl1, sl2, ty_put, ty_str, lo_put, sq_put, tr_put, reduceCtorEq, false_and, and_false, exists_false, or_false, false_or, Bool.not_false, Bool.not_true, List.isEmpty_nil, List.isEmpty_cons, app1_empty]
  have hfar : ∀ c : Int, 0 ≤ (if c < 0 then -c else c) := by intro c; split <;> omega
  have h01 : ∀ (p : Prop) [Decidable p], (-(2 ^ 64) : Int) < (if p then 1 else 0) ∧ (if p then 1 else 0 : Int) < 2 ^ 64 := by intro p _; by_cases z : p <;> simp [z]
  have h02 : ∀ (p : Prop) [Decidable p], 0 ≤ (if p then 1 else 0 : Int) := by intro p _; by_cases z : p <;> simp [z]
  have hi : (-(2 ^ 64) : Int) < i ∧ i < 2 ^ 64 := by omega
  split
  · rename_i hlt
    obtain ⟨c, hc, _⟩ := at_lt (l := ns) h0 (by simpa using hlt)
    refine ⟨_, at_map D.int hc, c, rfl, c, rfl, by decide, .inr ⟨by decide, by decide⟩, .inr hi, by decide, ⟨by decide, by decide, by decide⟩, .inr ?_, fun p hp => fin (q p _ hp ⟨_, _, _, put_same, ?_, ?_, ?_⟩)⟩
    · exact h01 _
    · exact Int.mul_nonneg (hfar c) (h02 _)
    · exact Int.emod_nonneg _ (by decide)
    · exact Int.emod_lt_of_pos _ (by decide)
  · refine ⟨by decide, .inr ⟨by decide, by decide⟩, .inr hi, by decide, ⟨by decide, by decide, by decide⟩, .inr ?_, fun p hp => fin (q p _ hp ⟨_, _, _, put_same, ?_, ?_, ?_⟩)⟩
    · exact h01 _
    · exact Int.mul_nonneg (hfar 0) (h02 _)
    · exact Int.emod_nonneg _ (by decide)
    · exact Int.emod_lt_of_pos _ (by decide)

abbrev s_law_take : Stmt := top 15
abbrev n_law_take : List Str := ["_law_bag_here", "_law_many", "_law_digit"]
theorem sc_law_take : FnScope n_law_take ["_law_bag_here", "_law_many"] (defScope s_law_take) := ⟨rfl, rfl, rfl, by decide +kernel, rfl, by decide +kernel, by decide +kernel⟩
def spTake : DSp := fun ds R Q _ => ∃ (b : Addr) (m : Int), ds = [.ref b, .int m] ∧ Bag R b ∧ 0 < m ∧ m < 1000000 ∧ ∀ (v : Int) (o : RO), 0 ≤ v → v < m → Bag (put R b o) b → Q (.int v) (put R b o)
theorem ok_take (F : Fun K "_law_take" "_law_take" s_law_take f fd) (Z : Blt mg bl) : FnG P w K mg base CX0 1 f fd ["_law_bag_here", "_law_many"] (spOf K spTake) := by
  refine okD F sc_law_take (fun ds R Q E h => by obtain ⟨b, m, rfl, _⟩ := h; rfl) fun cdv A outer s H E gd hr => ?_
  refine ⟨_, (dss_cons (ds_if (dt_cmp od_gt (de_ix xd_seq (dv 0) de_int (fun _ _ => rfl)) de_int (nomark _)) (dss_cons (ds_asg (de_op od_mod (de_ix xd_seq (dv 0) de_int (fun _ _ => rfl)) (dv 1)) (dg_name (i := 2) sc_law_take.nd rfl (.inl rfl)))
      (dss_cons (ds_asg (de_op od_fdiv (de_ix xd_seq (dv 0) de_int (fun _ _ => rfl)) (dv 1)) (dg_sub (dv 0) de_int dset_list))
      (dss_one (ds_ret (dv 2))))) dss_nil)
    (dss_cons (ds_asg (de_op od_add (de_ix xd_seq (dv 0) de_int (fun _ _ => rfl)) de_int) (dg_sub (dv 0) de_int dset_list))
    (dss_cons (ds_asg (de_op od_mod (de_op od_add (de_op od_add (de_op od_mul (de_ix xd_seq (dv 0) de_int (fun _ _ => rfl)) de_int) (de_op od_mul de_int (de_ix xd_seq (dv 0) de_int (fun _ _ => rfl)))) de_int) de_int) (dg_sub (dv 0) de_int dset_list))
    (dss_one (ds_ret (de_op od_mod (de_op od_fdiv (de_op od_mod (de_op od_pow (de_op od_fdiv (de_ix xd_seq (dv 0) de_int (fun _ _ => rfl)) de_int) de_int) de_int) de_int) (dv 1))))))), fun ds R Qd Ed h => ?_⟩
  obtain ⟨b, m, rfl, ⟨x, y, z, hb, hx, hy, hy2⟩, h0, h1, q⟩ := h
  have hm : CDiv x m := ⟨h0, by omega⟩
  simp only [dSeq, dCallL, dLam, dJoin, dJs, dFmtS, dRepl, dRaise, dCallX, dDelTail, dAugL, dXF, dAsg, dIf, dIfS, dB, dAnd, dOr, dNot, dAndV, dOrV, dNotV, dChain, dOp, dUn, dVar, dC, rdI0, rdI, dCB, dCall, rd1, dCons, dNil, dgName, dgSub, dgTup, dgLst, dSortSet, dgCons, dgNil, rdSetL, dRet, dLst, dLstF, dTup, dDrop, dNext, dPar, dBM, dBM0, dSl, dPart, dNoPart, dstart, dwipe, List.map_cons, List.map_nil, List.length_cons, List.length_nil, List.replicate_succ, List.replicate_zero, List.cons_append, List.nil_append, List.set_cons_zero, List.set_cons_succ, List.getElem?_cons_zero, List.getElem?_cons_succ, Nat.reduceAdd, Nat.reduceSub, Option.some.injEq, D.int.injEq, D.bl.injEq, D.str.injEq, D.ref.injEq, D.ty.injEq, D.tup.injEq, D.lst.injEq, D.rls.injEq, RO.lst.injEq, List.cons.injEq, exists_and_left, exists_eq_left', exists_eq_left, and_true, true_and, put_same, put_put, at0, at1, at2, ix30, ix31, ix32, and_assoc, dLcF, dLc, dLcT, dIRng1, dIRng2, dIStr, dITup, dILst, dYes, if_true, Bool.false_eq_true, if_false, eqS_ii, neS_ii, eqS_ss, neS_ss, decide_eq_true_eq, sq_tup, sq_lst, sq_rls, lo_lst, lo_rls, tr_lst, isi_tt, isi_st, isi_nt, isi_bt, isi_it, isi_lt, isi_ts, isi_ss, isi_ns, isi_bs, isi_is, isi_ls, List.append_nil, sz0, sz1, sz2, sz3, sz4, sz5, sz6, sl0, sl1, sl2, ty_put, ty_str, lo_put, sq_put, tr_put, reduceCtorEq, false_and, and_false, exists_false, or_false, false_or, Bool.not_false, Bool.not_true, List.isEmpty_nil, List.isEmpty_cons, app1_empty, sq_ref hb, hb, sq_ref put_same]
  split
  · refine ⟨h0, hm, fin (q _ _ (Int.emod_nonneg _ (by omega)) (Int.emod_lt_of_pos _ h0) ⟨_, _, _, put_same, ?_, hy, hy2⟩)⟩
    exact Int.ediv_nonneg hx (by omega)
  · have hk : ∀ a : Int, 0 ≤ a % 2147483647 ∧ a % 2147483647 < 2147483647 := fun a => ⟨Int.emod_nonneg _ (by decide), Int.emod_lt_of_pos _ (by decide)⟩
    refine ⟨.inr ⟨by decide, by decide⟩, .inl ⟨by decide, by decide⟩, by decide, ⟨by decide, by decide⟩, ⟨by decide, by decide, ?_⟩, by decide, ⟨by decide, by decide⟩, h0, fin (q _ _ (Int.emod_nonneg _ (by omega)) (Int.emod_lt_of_pos _ h0) ⟨_, _, _, put_same, hx, (hk _).1, (hk _).2⟩)⟩
    have := hk (y * 69621 + 7411 * (z + 1) + 29)
    omega

abbrev s_law_names : Stmt := top 16
abbrev n_law_names : List Str := ["_law_bag_here", "_law_many", "_law_letters", "_law_stem", "_law_first", "_law_pace", "_law_turn"]
theorem sc_law_names : FnScope n_law_names ["_law_bag_here", "_law_many"] (defScope s_law_names) := ⟨rfl, rfl, rfl, by decide +kernel, rfl, by decide +kernel, by decide +kernel⟩
def spNames : DSp := fun ds R Q _ => ∃ (b : Addr) (m : Nat), ds = [.ref b, .int m] ∧ Bag R b ∧ m ≤ 26 ∧ ∀ (xs : List Str) (o : RO), NmS xs m → Bag (put R b o) b → Q (.lst (xs.map D.str)) (put R b o)
theorem take_ok {R : Rs} {b : Addr} {m : Int} {Q : DK} {E : DXK} (hb : Bag R b) (h0 : 0 < m) (h1 : m < 1000000) (q : ∀ (v : Int) (o : RO), 0 ≤ v → v < m → Bag (put R b o) b → Q (.int v) (put R b o)) : spTake [.ref b, .int m] R Q E := ⟨b, m, rfl, hb, h0, h1, q⟩
theorem Bag.self {R : Rs} {b : Addr} (h : Bag R b) : ∃ o, put R b o = R := by obtain ⟨x, y, z, e, _⟩ := h; exact ⟨_, put_self e⟩
def MA (R : Rs) (b : Addr) (m : Nat) : DSt → Rs → Prop := fun s' R' => ∃ o st, R' = put R b o ∧ Bag R' b ∧ Stem st ∧ s' = [some (.ref b), some (.int m), some (.str abc), some (.str st), none, none, none]
def MB (R : Rs) (b : Addr) (m : Nat) (st : Str) : DSt → Rs → Prop := fun s' R' => ∃ (o : RO) (a p : Int), R' = put R b o ∧ Bag R' b ∧ 0 ≤ a ∧ a < 26 ∧ (p = 1 ∨ p = 3 ∨ p = 5 ∨ p = 25) ∧ s' = [some (.ref b), some (.int m), some (.str abc), some (.str st), some (.int a), some (.int p), none]
theorem ok_names (F : Fun K "_law_names" "_law_names" s_law_names f fd) (Z : Blt mg bl) (c_law_take : Cal P w K mg base 1 "_law_take" spTake) : FnG P w K mg base CX0 2 f fd ["_law_bag_here", "_law_many"] (spOf K spNames) := by
  refine okD F sc_law_names (fun ds R Q E h => by obtain ⟨b, m, rfl, _⟩ := h; rfl) fun cdv A outer s H E gd hr => ?_
  refine ⟨_, (dss_cons (ds_asg de_str (dg_name (i := 2) sc_law_names.nd rfl (.inr rfl)))
    (dss_cut (ds_asg (de_bm PySem.F.plainAttrs_str PySem.F.slot_str_join PySem.F.type_str_join md_join de_str (da_cons (de_lcF (own := [("_law_turn", 6)]) rfl sc_law_names.nd (lcd (di_range1 (by rfl) (Z _ (by decide)) (de_c c_law_take gd hr (by omega) (by rfl) (da_cons (dv 0) (da_cons de_int da_nil)))) (blkOk_by (N := n_law_names) (sc := defScope s_law_names) (by decide +kernel)) (fun _ _ _ _ _ => (dgw_name (i := 6) sc_law_names.nd rfl (.inl rfl))) (fun _ _ _ _ _ => dts_nil) (fun _ _ _ _ _ => (de_ix xd_str (dv 2) (de_c c_law_take gd hr (by omega) (by rfl) (da_cons (dv 0) (da_cons de_int da_nil))) (fun _ _ => rfl))))) da_nil)) (dg_name (i := 3) sc_law_names.nd rfl (.inr rfl)))
    (dss_cut (ds_if (dt_cmp od_eqS (de_c c_law_take gd hr (by omega) (by rfl) (da_cons (dv 0) (da_cons de_int da_nil))) de_int (nomark _)) (dss_one (ds_asg de_str (dg_name (i := 3) sc_law_names.nd rfl (.inr rfl)))) dss_nil)
    (dss_cut (ds_asg (de_tup (da_cons (de_c c_law_take gd hr (by omega) (by rfl) (da_cons (dv 0) (da_cons de_int da_nil))) (da_cons (de_ix xd_seq (de_lstF (da_cons de_int (da_cons de_int (da_cons de_int (da_cons de_int da_nil))))) (de_c c_law_take gd hr (by omega) (by rfl) (da_cons (dv 0) (da_cons de_int da_nil))) (fun _ _ => rfl)) da_nil))) (dg_tup (n := 2) rfl (dgs_cons (dg_name (i := 4) sc_law_names.nd rfl (.inr rfl)) (dgs_cons (dg_name (i := 5) sc_law_names.nd rfl (.inr rfl)) dgs_nil))))
    (dss_one (ds_ret (de_callB cd_sortedS (by rfl) (Z _ (by decide)) bt_sorted (da_cons (de_lcF (own := [("_law_turn", 6)]) rfl sc_law_names.nd (lcd (di_range1 (by rfl) (Z _ (by decide)) (dv 1)) (blkOk_by (N := n_law_names) (sc := defScope s_law_names) (by decide +kernel)) (fun _ _ _ _ _ => (dgw_name (i := 6) sc_law_names.nd rfl (.inl rfl))) (fun _ _ _ _ _ => dts_nil) (fun _ _ _ _ _ => (de_op od_adds (dv 3) (de_ix xd_str (dv 2) (de_op od_mod (de_op od_add (dv 4) (de_op od_mul (dv 5) (dv 6))) de_int) (fun _ _ => rfl)))))) da_nil)))))))), fun ds R Qd Ed h => ?_⟩
  obtain ⟨b, m, rfl, hb, hm, q⟩ := h
  -- the stem
  refine (show dSeq _ _ _ _ _ from ?_)
  refine ⟨MA R b m, ?_, ?_⟩
  · simp only [dSeq, dCallL, dLam, dJoin, dJs, dFmtS, dRepl, dRaise, dCallX, dDelTail, dAugL, dXF, dAsg, dIf, dIfS, dB, dAnd, dOr, dNot, dAndV, dOrV, dNotV, dChain, dOp, dUn, dVar, dC, rdI0, rdI, dCB, dCall, rd1, dCons, dNil, dgName, dgSub, dgTup, dgLst, dSortSet, dgCons, dgNil, rdSetL, dRet, dLst, dLstF, dTup, dDrop, dNext, dPar, dBM, dBM0, dSl, dPart, dNoPart, dstart, dwipe, List.map_cons, List.map_nil, List.length_cons, List.length_nil, List.replicate_succ, List.replicate_zero, List.cons_append, List.nil_append, List.set_cons_zero, List.set_cons_succ, List.getElem?_cons_zero, List.getElem?_cons_succ, Nat.reduceAdd, Nat.reduceSub, Option.some.injEq, D.int.injEq, D.bl.injEq, D.str.injEq, D.ref.injEq, D.ty.injEq, D.tup.injEq, D.lst.injEq, D.rls.injEq, RO.lst.injEq, List.cons.injEq, exists_and_left, exists_eq_left', exists_eq_left, and_true, true_and, put_same, put_put, at0, at1, at2, ix30, ix31, ix32, and_assoc, dLcF, dLc, dLcT, dIRng1, dIRng2, dIStr, dITup, dILst, dYes, if_true, Bool.false_eq_true, if_false, eqS_ii, neS_ii, eqS_ss, neS_ss, decide_eq_true_eq, sq_tup, sq_lst, sq_rls, lo_lst, lo_rls, tr_lst, isi_tt, isi_st, isi_nt, isi_bt, isi_it, isi_lt, isi_ts, isi_ss, isi_ns, isi_bs, isi_is, isi_ls, List.append_nil, sz0, sz1, sz2, sz3, sz4, sz5, sz6, sl0, sl1, sl2, ty_put, ty_str, lo_put, sq_put, tr_put, reduceCtorEq, false_and, and_false, exists_false, or_false, false_or, Bool.not_false, Bool.not_true, List.isEmpty_nil, List.isEmpty_cons, app1_empty]
    refine take_ok hb (by decide) (by decide) fun v o h0 h1 hb1 => ?_
    obtain ⟨n, rfl⟩ : ∃ n : Nat, v = n := ⟨v.toNat, by omega⟩
    refine ⟨n, rfl, by omega, by simp [sizeLine]; omega, fun i acc R' => ∃ o cs, R' = put R b o ∧ Bag R' b ∧ acc = (cs.map lstr).map D.str ∧ cs.length = i ∧ ∀ c ∈ cs, Let c, ⟨o, [], rfl, hb1, rfl, rfl, by simp⟩, fun _ _ _ _ _ => trivial, ?_, ?_⟩
    · rintro i x acc R' hx hl ⟨o1, cs, rfl, hb2, rfl, rfl, hc⟩
      refine take_ok hb2 (by decide) (by decide) fun v o2 h0 h1 hb3 => ?_
      refine ⟨v, rfl, abc_len, _, abc_at h0 h1, o2, cs ++ [97 + v.toNat], by rw [put_put], hb3, by simp [lstr], by simp, fun c hc2 => ?_⟩
      rcases List.mem_append.mp hc2 with z | z
      · exact hc c z
      · have e : c = 97 + v.toNat := by simpa using z
        subst e
        exact ⟨by omega, by omega⟩
    · rintro acc R' hl ⟨o1, cs, rfl, hb2, rfl, hcl, hc⟩
      have hcl' : cs.length = n := by simpa using hcl
      refine ⟨cs.map lstr, rfl, ?_, o1, _, rfl, hb2, stem_join hc (by omega), rfl⟩
      have : ((cs.map lstr).map fun x => x.length).sum = cs.length := by
        clear hcl hcl' hc hl
        induction cs with
        | nil => rfl
        | cons c cs ih => rw [List.map_cons, List.map_cons, List.sum_cons, ih]; show 1 + cs.length = cs.length + 1; omega
      rw [this, List.length_map]
      have e0 : (Str.ofString "").length = 0 := by decide +kernel
      rw [e0]
      omega
  rintro s1 R1 ⟨o1, st, rfl, hb1, hst, rfl⟩
  refine ⟨MA R b m, ?_, ?_⟩
  · simp only [dSeq, dCallL, dLam, dJoin, dJs, dFmtS, dRepl, dRaise, dCallX, dDelTail, dAugL, dXF, dAsg, dIf, dIfS, dB, dAnd, dOr, dNot, dAndV, dOrV, dNotV, dChain, dOp, dUn, dVar, dC, rdI0, rdI, dCB, dCall, rd1, dCons, dNil, dgName, dgSub, dgTup, dgLst, dSortSet, dgCons, dgNil, rdSetL, dRet, dLst, dLstF, dTup, dDrop, dNext, dPar, dBM, dBM0, dSl, dPart, dNoPart, dstart, dwipe, List.map_cons, List.map_nil, List.length_cons, List.length_nil, List.replicate_succ, List.replicate_zero, List.cons_append, List.nil_append, List.set_cons_zero, List.set_cons_succ, List.getElem?_cons_zero, List.getElem?_cons_succ, Nat.reduceAdd, Nat.reduceSub, Option.some.injEq, D.int.injEq, D.bl.injEq, D.str.injEq, D.ref.injEq, D.ty.injEq, D.tup.injEq, D.lst.injEq, D.rls.injEq, RO.lst.injEq, List.cons.injEq, exists_and_left, exists_eq_left', exists_eq_left, and_true, true_and, put_same, put_put, at0, at1, at2, ix30, ix31, ix32, and_assoc, dLcF, dLc, dLcT, dIRng1, dIRng2, dIStr, dITup, dILst, dYes, if_true, Bool.false_eq_true, if_false, eqS_ii, neS_ii, eqS_ss, neS_ss, decide_eq_true_eq, sq_tup, sq_lst, sq_rls, lo_lst, lo_rls, tr_lst, isi_tt, isi_st, isi_nt, isi_bt, isi_it, isi_lt, isi_ts, isi_ss, isi_ns, isi_bs, isi_is, isi_ls, List.append_nil, sz0, sz1, sz2, sz3, sz4, sz5, sz6, sl0, sl1, sl2, ty_put, ty_str, lo_put, sq_put, tr_put, reduceCtorEq, false_and, and_false, exists_false, or_false, false_or, Bool.not_false, Bool.not_true, List.isEmpty_nil, List.isEmpty_cons, app1_empty]
    refine take_ok hb1 (by decide) (by decide) fun v o2 h0 h1 hb2 => ?_
    rw [put_put] at hb2 ⊢
    simp only [dSeq, dCallL, dLam, dJoin, dJs, dFmtS, dRepl, dRaise, dCallX, dDelTail, dAugL, dXF, dAsg, dIf, dIfS, dB, dAnd, dOr, dNot, dAndV, dOrV, dNotV, dChain, dOp, dUn, dVar, dC, rdI0, rdI, dCB, dCall, rd1, dCons, dNil, dgName, dgSub, dgTup, dgLst, dSortSet, dgCons, dgNil, rdSetL, dRet, dLst, dLstF, dTup, dDrop, dNext, dPar, dBM, dBM0, dSl, dPart, dNoPart, dstart, dwipe, List.map_cons, List.map_nil, List.length_cons, List.length_nil, List.replicate_succ, List.replicate_zero, List.cons_append, List.nil_append, List.set_cons_zero, List.set_cons_succ, List.getElem?_cons_zero, List.getElem?_cons_succ, Nat.reduceAdd, Nat.reduceSub, Option.some.injEq, D.int.injEq, D.bl.injEq, D.str.injEq, D.ref.injEq, D.ty.injEq, D.tup.injEq, D.lst.injEq, D.rls.injEq, RO.lst.injEq, List.cons.injEq, exists_and_left, exists_eq_left', exists_eq_left, and_true, true_and, put_same, put_put, at0, at1, at2, ix30, ix31, ix32, and_assoc, dLcF, dLc, dLcT, dIRng1, dIRng2, dIStr, dITup, dILst, dYes, if_true, Bool.false_eq_true, if_false, eqS_ii, neS_ii, eqS_ss, neS_ss, decide_eq_true_eq, sq_tup, sq_lst, sq_rls, lo_lst, lo_rls, tr_lst, isi_tt, isi_st, isi_nt, isi_bt, isi_it, isi_lt, isi_ts, isi_ss, isi_ns, isi_bs, isi_is, isi_ls, List.append_nil, sz0, sz1, sz2, sz3, sz4, sz5, sz6, sl0, sl1, sl2, ty_put, ty_str, lo_put, sq_put, tr_put, reduceCtorEq, false_and, and_false, exists_false, or_false, false_or, Bool.not_false, Bool.not_true, List.isEmpty_nil, List.isEmpty_cons, app1_empty]
    split
    · exact ⟨o2, _, rfl, hb2, stem_zz, rfl⟩
    · exact ⟨o2, st, rfl, hb2, hst, rfl⟩
  rintro s1 R1 ⟨o1, st, rfl, hb1, hst, rfl⟩
  refine ⟨MB R b m st, ?_, ?_⟩
  · simp only [dSeq, dCallL, dLam, dJoin, dJs, dFmtS, dRepl, dRaise, dCallX, dDelTail, dAugL, dXF, dAsg, dIf, dIfS, dB, dAnd, dOr, dNot, dAndV, dOrV, dNotV, dChain, dOp, dUn, dVar, dC, rdI0, rdI, dCB, dCall, rd1, dCons, dNil, dgName, dgSub, dgTup, dgLst, dSortSet, dgCons, dgNil, rdSetL, dRet, dLst, dLstF, dTup, dDrop, dNext, dPar, dBM, dBM0, dSl, dPart, dNoPart, dstart, dwipe, List.map_cons, List.map_nil, List.length_cons, List.length_nil, List.replicate_succ, List.replicate_zero, List.cons_append, List.nil_append, List.set_cons_zero, List.set_cons_succ, List.getElem?_cons_zero, List.getElem?_cons_succ, Nat.reduceAdd, Nat.reduceSub, Option.some.injEq, D.int.injEq, D.bl.injEq, D.str.injEq, D.ref.injEq, D.ty.injEq, D.tup.injEq, D.lst.injEq, D.rls.injEq, RO.lst.injEq, List.cons.injEq, exists_and_left, exists_eq_left', exists_eq_left, and_true, true_and, put_same, put_put, at0, at1, at2, ix30, ix31, ix32, and_assoc, dLcF, dLc, dLcT, dIRng1, dIRng2, dIStr, dITup, dILst, dYes, if_true, Bool.false_eq_true, if_false, eqS_ii, neS_ii, eqS_ss, neS_ss, decide_eq_true_eq, sq_tup, sq_lst, sq_rls, lo_lst, lo_rls, tr_lst, isi_tt, isi_st, isi_nt, isi_bt, isi_it, isi_lt, isi_ts, isi_ss, isi_ns, isi_bs, isi_is, isi_ls, List.append_nil, sz0, sz1, sz2, sz3, sz4, sz5, sz6, sl0, sl1, sl2, ty_put, ty_str, lo_put, sq_put, tr_put, reduceCtorEq, false_and, and_false, exists_false, or_false, false_or, Bool.not_false, Bool.not_true, List.isEmpty_nil, List.isEmpty_cons, app1_empty]
    refine take_ok hb1 (by decide) (by decide) fun a o2 ha0 ha1 hb2 => ?_
    rw [put_put] at hb2 ⊢
    refine (take_ok hb2 (by decide) (by decide) fun v o3 h0 h1 hb3 => ?_)
    rw [put_put] at hb3 ⊢
    have : v = 0 ∨ v = 1 ∨ v = 2 ∨ v = 3 := by omega
    rcases this with rfl | rfl | rfl | rfl
    · exact ⟨_, rfl, _, at0, o3, a, 1, rfl, hb3, ha0, ha1, .inl rfl, rfl⟩
    · exact ⟨_, rfl, _, at1, o3, a, 3, rfl, hb3, ha0, ha1, .inr (.inl rfl), rfl⟩
    · exact ⟨_, rfl, _, at2, o3, a, 5, rfl, hb3, ha0, ha1, .inr (.inr (.inl rfl)), rfl⟩
    · exact ⟨_, rfl, .int 25, rfl, o3, a, 25, rfl, hb3, ha0, ha1, .inr (.inr (.inr rfl)), rfl⟩
  rintro s1 R1 ⟨o1, a, p, rfl, hb1, ha0, ha1, hp, rfl⟩
  simp only [dSeq, dCallL, dLam, dJoin, dJs, dFmtS, dRepl, dRaise, dCallX, dDelTail, dAugL, dXF, dAsg, dIf, dIfS, dB, dAnd, dOr, dNot, dAndV, dOrV, dNotV, dChain, dOp, dUn, dVar, dC, rdI0, rdI, dCB, dCall, rd1, dCons, dNil, dgName, dgSub, dgTup, dgLst, dSortSet, dgCons, dgNil, rdSetL, dRet, dLst, dLstF, dTup, dDrop, dNext, dPar, dBM, dBM0, dSl, dPart, dNoPart, dstart, dwipe, List.map_cons, List.map_nil, List.length_cons, List.length_nil, List.replicate_succ, List.replicate_zero, List.cons_append, List.nil_append, List.set_cons_zero, List.set_cons_succ, List.getElem?_cons_zero, List.getElem?_cons_succ, Nat.reduceAdd, Nat.reduceSub, Option.some.injEq, D.int.injEq, D.bl.injEq, D.str.injEq, D.ref.injEq, D.ty.injEq, D.tup.injEq, D.lst.injEq, D.rls.injEq, RO.lst.injEq, List.cons.injEq, exists_and_left, exists_eq_left', exists_eq_left, and_true, true_and, put_same, put_put, at0, at1, at2, ix30, ix31, ix32, and_assoc, dLcF, dLc, dLcT, dIRng1, dIRng2, dIStr, dITup, dILst, dYes, if_true, Bool.false_eq_true, if_false, eqS_ii, neS_ii, eqS_ss, neS_ss, decide_eq_true_eq, sq_tup, sq_lst, sq_rls, lo_lst, lo_rls, tr_lst, isi_tt, isi_st, isi_nt, isi_bt, isi_it, isi_lt, isi_ts, isi_ss, isi_ns, isi_bs, isi_is, isi_ls, List.append_nil, sz0, sz1, sz2, sz3, sz4, sz5, sz6, sl0, sl1, sl2, ty_put, ty_str, lo_put, sq_put, tr_put, reduceCtorEq, false_and, and_false, exists_false, or_false, false_or, Bool.not_false, Bool.not_true, List.isEmpty_nil, List.isEmpty_cons, app1_empty]
  refine ⟨m, rfl, by omega, by simp [sizeLine]; omega, fun i acc R' => R' = put R b o1 ∧ acc = ((List.range i).map (nth st a p)).map D.str, ⟨rfl, rfl⟩, fun _ _ _ _ _ => trivial, ?_, ?_⟩
  · rintro i x acc R' hx hl ⟨rfl, rfl⟩
    have hx' : x = .int i := by
      rw [List.getElem?_map] at hx
      by_cases hi : i < m
      · rw [List.getElem?_range hi] at hx; cases hx; rfl
      · rw [List.getElem?_eq_none (by simpa using hi)] at hx; cases hx
    subst hx'
    have h1 := Int.emod_nonneg (a + p * (i : Int)) (show (26 : Int) ≠ 0 by decide)
    have h2 := Int.emod_lt_of_pos (a + p * (i : Int)) (show (0 : Int) < 26 by decide)
    refine ⟨_, rfl, .inl ?_, by decide, abc_len, _, abc_at h1 h2, ?_, rfl, ?_⟩
    · rcases hp with rfl | rfl | rfl | rfl <;> decide
    · have := hst.len
      show st.length + 1 ≤ sizeLine
      simp [sizeLine]
      omega
    · rw [List.range_succ, List.map_append, List.map_append]
      rfl
  · rintro acc R' hl ⟨rfl, rfl⟩
    have hm2 : (List.map (fun i => D.int ((i : Nat) : Int)) (List.range m)).length = m := by simp
    rw [hm2]
    have hn := nths hst hp hm (a := a)
    exact ⟨_, rfl, by rw [hn.1]; omega, fun ys py _ => fin (q ys o1 (hn.perm py) hb1)⟩

end

end Law
end
section
set_option Elab.async false
set_option maxRecDepth 100000
set_option maxHeartbeats 4000000
set_option linter.all false
set_option autoImplicit false
namespace Law
open PySem PySem.Spec PyProof.Rows L2 DL TL TrA TrA.Tr
section
variable [TabCtx] {P : Program} {w : World} {K : KB} {mg : Str → Option Value} {base : Heap} {f : Addr} {fd : FuncData}
abbrev rsv : List Str := ["self", "other", "super", "raises"]
def letB (c : Nat) : Bool := decide (c ∈ tl abc)
def nmB (x : Str) : Bool := decide (1 ≤ x.length) && decide (x.length ≤ 6) && !decide (x ∈ rsv) && (tl x).all letB
/-- what is_class_name says of a value -/
def nmD : D → Bool
  | .str x => nmB x
  | _ => false
/-- a value of the kinds that laws hand in -/
def Vk : D → Bool
  | .non => true
  | .bl _ => true
  | .int _ => true
  | .str x => decide (x.length ≤ 2000)
  | .tup _ => true
  | .lst _ => true
  | _ => false
theorem nmB_len {x : Str} (h : nmB x = true) : x.length ≤ 6 := by
  unfold nmB at h
  simp only [Bool.and_eq_true, decide_eq_true_eq] at h
  exact h.1.1.2
theorem letB_let {c : Nat} (h : Let c) : letB c = true := by
  unfold letB
  rw [decide_eq_true_eq, tl_abc, List.mem_map]
  unfold Let at h
  exact ⟨c - 97, by rw [List.mem_range]; omega, by omega⟩
theorem letB_iff {c : Nat} : letB c = true ↔ Let c := by
  refine ⟨fun h => ?_, letB_let⟩
  unfold letB at h
  rw [decide_eq_true_eq, tl_abc, List.mem_map] at h
  obtain ⟨k, hk, rfl⟩ := h
  rw [List.mem_range] at hk
  exact ⟨by omega, by omega⟩
theorem rsv_len {x : Str} (h : x ∈ rsv) : (tl x).length = 4 ∨ (tl x).length = 5 ∨ tl x = [114, 97, 105, 115, 101, 115] := by
  simp only [List.mem_cons, List.not_mem_nil, or_false] at h
  rcases h with rfl | rfl | rfl | rfl
  · exact .inl (by decide +kernel)
  · exact .inr (.inl (by decide +kernel))
  · exact .inr (.inl (by decide +kernel))
  · exact .inr (.inr (by decide +kernel))
theorem nmB_nm {x : Str} (h : Nm x) : nmB x = true := by
  have hl := h.len
  have ha := h.all
  unfold Law.nmB
  rw [decide_eq_true hl.1, decide_eq_true hl.2, show (tl x).all letB = true from List.all_eq_true.mpr fun c hc => letB_let (ha c hc)]
  have : x ∉ rsv := by
    intro hr
    obtain ⟨st, c, hs, hc, e⟩ := h
    rcases rsv_len hr with z | z | z
    · rcases hs.2 with y | y
      · rw [e, List.length_append, List.length_singleton] at z; omega
      · rw [e, y] at z; simp at z
    · rcases hs.2 with y | y
      · rw [e, List.length_append, List.length_singleton] at z; omega
      · rw [e, y] at z; simp at z
    · rcases hs.2 with y | y
      · have := congrArg List.length z
        rw [e, List.length_append, List.length_singleton] at this
        have h6 : ([114, 97, 105, 115, 101, 115] : List Nat).length = 6 := rfl
        rw [h6] at this; omega
      · rw [e, y] at z; simp at z
  rw [decide_eq_false this]
  rfl
theorem nm_block {R : Rs} {x : Str} {Qd : DK} (hx : x.length ≤ 2000) (q : Qd (.bl (nmB x)) R) : x.length ≤ sizeLine ∧
    if 1 ≤ (x.length : Int) then
      if (!decide ((x.length : Int) ≤ 6)) = true then DL.Fin Qd (D.bl false) R
      else
        ∃ x_1, [D.str (Str.ofString "self"), D.str (Str.ofString "other"), D.str (Str.ofString "super"), D.str (Str.ofString "raises")] = List.map D.str x_1 ∧
            if x ∈ x_1 then DL.Fin Qd (D.bl false) R
            else
              (List.map (fun c => D.str { cps := #[c] }) x.cps.toList).length ≤ sizeLine ∧
                ∃ Pv : Nat → List D → Rs → Prop,
                  Pv 0 [] R ∧
                    (∀ (i : Nat) (acc : List D) (R : Rs), i ≤ (List.map (fun c => D.str { cps := #[c] }) x.cps.toList).length → Pv i acc R → True) ∧
                      (∀ (i : Nat) (x_2 : D) (acc : List D) (R : Rs),
                          (List.map (fun c => D.str { cps := #[c] }) x.cps.toList)[i]? = some x_2 → acc.length ≤ i → Pv i acc R →
                                ∃ c, x_2 = D.str { cps := #[c] } ∧ Pv (i + 1) (acc ++ [D.bl (decide (c ∈ abc.cps.toList))]) R) ∧
                        ∀ (acc : List D) (R : Rs), acc.length ≤ (List.map (fun c => D.str { cps := #[c] }) x.cps.toList).length →
                            Pv (List.map (fun c => D.str { cps := #[c] }) x.cps.toList).length acc R → ∃ xs, acc = List.map D.bl xs ∧ DL.Fin Qd (D.bl (xs.all id)) R
    else DL.Fin Qd (D.bl false) R := by
  refine ⟨by rw [sizeLine_eq]; omega, ?_⟩
  have q1 : ∀ b : Bool, nmB x = b → DL.Fin Qd (.bl b) R := fun b e => by subst e; exact fin q
  have hl : (tl x).length = x.length := (DL.len_tl x).symm
  split
  · rename_i h1
    split
    · rename_i h6
      exact q1 false (by unfold nmB; rw [decide_eq_false (p := x.length ≤ 6) (by simp at h6; omega)]; simp)
    · rename_i h6
      refine ⟨rsv, rfl, ?_⟩
      split
      · rename_i hr
        exact q1 false (by unfold nmB; rw [decide_eq_true (p := x ∈ rsv) hr]; simp)
      · rename_i hr
        refine ⟨by rw [List.length_map, sizeLine_eq]; show (tl x).length ≤ _; omega, PvM (tl x) (fun c => .bl (letB c)) R, ⟨rfl, rfl⟩, fun _ _ _ _ _ => trivial, ?_, ?_⟩
        · rintro i y acc R' hy hl ⟨rfl, rfl⟩
          obtain ⟨v, rfl, hv, _, e⟩ := take_step hy
          exact ⟨v, rfl, PvM.go e⟩
        · rintro acc R' _ hp
          obtain ⟨rfl, rfl⟩ := hp.end (List.length_map _)
          refine ⟨(tl x).map letB, by rw [List.map_map]; rfl, q1 _ ?_⟩
          unfold nmB
          rw [decide_eq_true (p := 1 ≤ x.length) (by omega), decide_eq_true (p := x.length ≤ 6) (by simp at h6; omega), decide_eq_false hr, List.all_map]
          rfl
  · exact q1 false (by unfold nmB; rw [decide_eq_false (p := 1 ≤ x.length) (by omega)]; simp)
abbrev s_is_class_name : Stmt := top 6
abbrev n_is_class_name : List Str := ["value", "sign"]
theorem sc_is_class_name : FnScope n_is_class_name ["value"] (defScope s_is_class_name) := ⟨rfl, rfl, rfl, by decide +kernel, rfl, by decide +kernel, by decide +kernel⟩
def spIsName : DSp := fun ds R Q _ => ∃ d : D, ds = [d] ∧ Vk d = true ∧ Q (.bl (nmD d)) R
theorem ok_is_class_name (F : Fun K "is_class_name" "is_class_name" s_is_class_name f fd) (Z : Blt mg bl) (g_LETTERS : GC K mg "LETTERS" (.str abc)) (g_LONGEST_NAME : GC K mg "LONGEST_NAME" (.int 6)) (g_RESERVED : GC K mg "RESERVED" (.tup (rsv.map D.str))) : FnG P w K mg base CX0 1 f fd ["value"] (spOf K spIsName) := by
  refine okD F sc_is_class_name (fun ds R Q E h => by obtain ⟨d, rfl, _⟩ := h; rfl) fun cdv A outer s H E gd hr => ?_
  refine ⟨_, (dss_cons (ds_if (dw_or (dt_not (dt_val (de_callB cd_isi (by rfl) (Z _ (by decide)) bt_isi (da_cons (dv 0) (da_cons (de_ty (by rfl) (Z _ (by decide)) bt_str) da_nil))))) (dw_or (dt_not (dt_chain od_le od_le de_int (de_callB cd_lenS (by rfl) (Z _ (by decide)) bt_len (da_cons (dv 0) da_nil)) (de_glob g_LONGEST_NAME (by rfl)))) (dw_or1 (dt_cmp od_inS (dv 0) (de_glob g_RESERVED (by rfl)) (by with_unfolding_all rfl))))).dt (dss_one (ds_ret de_bl)) dss_nil)
    (dss_one (ds_ret (de_callB (cd_all rfl) (by rfl) (Z _ (by decide)) bt_all (da_cons (de_lcF (own := [("sign", 1)]) rfl sc_is_class_name.nd (lcd (di_str (dv 0)) (blkOk_by (N := n_is_class_name) (sc := defScope s_is_class_name) (by decide +kernel)) (fun _ _ _ _ _ => (dgw_name (i := 1) sc_is_class_name.nd rfl (.inl rfl))) (fun _ _ _ _ _ => dts_nil) (fun _ _ _ _ _ => (de_cmp od_inSign (dv 1) (de_glob g_LETTERS (by rfl)) (by with_unfolding_all rfl))))) da_nil))))), fun ds R Qd Ed h => ?_⟩
  obtain ⟨d, rfl, hv, q⟩ := h
  cases d with
  | ty _ => cases hv
  | ref _ => cases hv
  | rls _ => cases hv
  | ins _ _ _ => cases hv
  | dK _ _ => cases hv
  | dT _ _ => cases hv
  | lam _ => cases hv
  | str x =>
    have hx : x.length ≤ 2000 := by simpa [Vk] using hv
    simp only [rdInS, dSeq, dCallL, dLam, dJoin, dJs, dFmtS, dRepl, dRaise, dCallX, dDelTail, dAugL, dXF, dAsg, dIf, dIfS, dB, dAnd, dOr, dNot, dAndV, dOrV, dNotV, dChain, dOp, dUn, dVar, dC, rdI0, rdI, dCB, dCall, rd1, dCons, dNil, dgName, dgSub, dgTup, dgLst, dSortSet, dgCons, dgNil, rdSetL, dRet, dLst, dLstF, dTup, dDrop, dNext, dPar, dBM, dBM0, dSl, dPart, dNoPart, dstart, dwipe, List.map_cons, List.map_nil, List.length_cons, List.length_nil, List.replicate_succ, List.replicate_zero, List.cons_append, List.nil_append, List.set_cons_zero, List.set_cons_succ, List.getElem?_cons_zero, List.getElem?_cons_succ, Nat.reduceAdd, Nat.reduceSub, Option.some.injEq, D.int.injEq, D.bl.injEq, D.str.injEq, D.ref.injEq, D.ty.injEq, D.tup.injEq, D.lst.injEq, D.rls.injEq, RO.lst.injEq, List.cons.injEq, exists_and_left, exists_eq_left', exists_eq_left, and_true, true_and, put_same, put_put, at0, at1, at2, ix30, ix31, ix32, and_assoc, dLcF, dLc, dLcT, dIRng1, dIRng2, dIStr, dITup, dILst, dYes, if_true, Bool.false_eq_true, if_false, eqS_ii, neS_ii, eqS_ss, neS_ss, decide_eq_true_eq, sq_tup, sq_lst, sq_rls, lo_lst, lo_rls, tr_lst, isi_tt, isi_st, isi_nt, isi_bt, isi_it, isi_lt, isi_ts, isi_ss, isi_ns, isi_bs, isi_is, isi_ls, List.append_nil, sz0, sz1, sz2, sz3, sz4, sz5, sz6, sl0, sl1, sl2, ty_put, ty_str, lo_put, sq_put, tr_put, reduceCtorEq, false_and, and_false, exists_false, or_false, false_or, Bool.not_false, Bool.not_true, List.isEmpty_nil, List.isEmpty_cons, app1_empty]
    exact nm_block hx q
  | _ =>
    simp only [dSeq, dCallL, dLam, dJoin, dJs, dFmtS, dRepl, dRaise, dCallX, dDelTail, dAugL, dXF, dAsg, dIf, dIfS, dB, dAnd, dOr, dNot, dAndV, dOrV, dNotV, dChain, dOp, dUn, dVar, dC, rdI0, rdI, dCB, dCall, rd1, dCons, dNil, dgName, dgSub, dgTup, dgLst, dSortSet, dgCons, dgNil, rdSetL, dRet, dLst, dLstF, dTup, dDrop, dNext, dPar, dBM, dBM0, dSl, dPart, dNoPart, dstart, dwipe, List.map_cons, List.map_nil, List.length_cons, List.length_nil, List.replicate_succ, List.replicate_zero, List.cons_append, List.nil_append, List.set_cons_zero, List.set_cons_succ, List.getElem?_cons_zero, List.getElem?_cons_succ, Nat.reduceAdd, Nat.reduceSub, Option.some.injEq, D.int.injEq, D.bl.injEq, D.str.injEq, D.ref.injEq, D.ty.injEq, D.tup.injEq, D.lst.injEq, D.rls.injEq, RO.lst.injEq, List.cons.injEq, exists_and_left, exists_eq_left', exists_eq_left, and_true, true_and, put_same, put_put, at0, at1, at2, ix30, ix31, ix32, and_assoc, dLcF, dLc, dLcT, dIRng1, dIRng2, dIStr, dITup, dILst, dYes, if_true, Bool.false_eq_true, if_false, eqS_ii, neS_ii, eqS_ss, neS_ss, decide_eq_true_eq, sq_tup, sq_lst, sq_rls, lo_lst, lo_rls, tr_lst, isi_tt, isi_st, isi_nt, isi_bt, isi_it, isi_lt, isi_ts, isi_ss, isi_ns, isi_bs, isi_is, isi_ls, List.append_nil, sz0, sz1, sz2, sz3, sz4, sz5, sz6, sl0, sl1, sl2, ty_put, ty_str, lo_put, sq_put, tr_put, reduceCtorEq, false_and, and_false, exists_false, or_false, false_or, Bool.not_false, Bool.not_true, List.isEmpty_nil, List.isEmpty_cons, app1_empty]
    exact fin q
end

end Law
end
section
set_option Elab.async false
set_option maxRecDepth 100000
set_option maxHeartbeats 4000000
set_option linter.all false
set_option autoImplicit false
namespace Law
open PySem PySem.Spec PyProof.Rows L2 DL TL TrA TrA.Tr
section
variable [TabCtx] {P : Program} {w : World} {K : KB} {mg : Str → Option Value} {base : Heap} {f : Addr} {fd : FuncData}
def okC (c : Option (List Str)) (x : Str) : Bool := match c with
  | none => true
  | some l => decide (x ∈ l)
/-- what is_tree_over says of a value -/
def isTD (c : Option (List Str)) : D → Bool
  | .tup [a, b] => isTD c a && isTD c b
  | .str x => nmB x && okC c x
  | _ => false
def vsz : D → Nat
  | .tup [a, b] => vsz a + vsz b + 1
  | _ => 1
def vdB : D → Bool
  | .tup [a, b] => vdB a && vdB b
  | d => Vk d
theorem vsz_pos : ∀ d : D, 0 < vsz d := fun d => by
  unfold vsz; split <;> omega
def vszs (ds : List D) : Nat := (ds.map vsz).sum
theorem vszs_len (ds : List D) : ds.length ≤ vszs ds := by
  induction ds with
  | nil => simp [vszs]
  | cons d ds ih => have := vsz_pos d; unfold vszs at *; simp only [List.map_cons, List.sum_cons, List.length_cons]; omega
theorem vszs_app (a b : List D) : vszs (a ++ b) = vszs a + vszs b := by unfold vszs; rw [List.map_append, List.sum_append]
def clD : Option (List Str) → D
  | none => .non
  | some l => .tup (l.map D.str)
abbrev s_is_tree_over : Stmt := top 9
abbrev n_is_tree_over : List Str := ["value", "classes", "waiting", "part"]
theorem sc_is_tree_over : FnScope n_is_tree_over ["value", "classes"] (defScope s_is_tree_over) := ⟨rfl, rfl, rfl, by decide +kernel, rfl, by decide +kernel, by decide +kernel⟩
def spTreeOver : DSp := fun ds R Q _ => ∃ (d : D) (c : Option (List Str)), ds = [d, clD c] ∧ vdB d = true ∧ vsz d ≤ 100000 ∧ Q (.bl (isTD c d)) R
def WO (d : D) (c : Option (List Str)) (R : Rs) (p : Addr) (m : Nat) (s' : DSt) (R' : Rs) : Prop := ∃ (ds : List D) (x : Option D), s' = [some d, some (clD c), some (.ref p), x] ∧ R' = put R p (.lst ds) ∧ (ds.all (isTD c)) = isTD c d ∧ (ds.all vdB) = true ∧ m = vszs ds ∧ m ≤ vsz d
theorem ok_is_tree_over (F : Fun K "is_tree_over" "is_tree_over" s_is_tree_over f fd) (Z : Blt mg bl) (c_is_class_name : Cal P w K mg base 1 "is_class_name" spIsName) : FnG P w K mg base CX0 2 f fd ["value", "classes"] (spOf K spTreeOver) := by
  refine okD F sc_is_tree_over (fun ds R Q E h => by obtain ⟨d, c, rfl, _⟩ := h; rfl) fun cdv A outer s H E gd hr => ?_
  refine ⟨_, (dss_cons (ds_asg (de_lst (da_cons (dv 0) da_nil)) (dg_name (i := 2) sc_is_tree_over.nd rfl (.inl rfl)))
    (dss_cons (ds_while PassesOwn.never (dt_cmp (od_neNil (DL.Room.cl hr)) (dv 2) (de_lstF da_nil) (nomark _)) (dss_cons (ds_asg (de_bm0 PySem.F.plainAttrs_list PySem.F.slot_list_pop PySem.F.type_list_pop md_pop (dv 2)) (dg_name (i := 3) sc_is_tree_over.nd rfl (.inl rfl)))
      (dss_one (ds_if (dw_and (dt_val (de_callB cd_isi (by rfl) (Z _ (by decide)) bt_isi (da_cons (dv 3) (da_cons (de_ty (by rfl) (Z _ (by decide)) bt_tuple) da_nil)))) (dw_and1 (dt_cmp od_eqS (de_callB cd_len (by rfl) (Z _ (by decide)) bt_len (da_cons (dv 3) da_nil)) de_int (nomark _)))).dt (dss_one (ds_expr (de_bm PySem.F.plainAttrs_list PySem.F.slot_list_extend PySem.F.type_list_extend md_extT (dv 2) (da_cons (dv 3) da_nil)))) (dss_one (ds_if (dw_or (dt_not (dt_val (de_c c_is_class_name gd hr (by omega) (by rfl) (da_cons (dv 3) da_nil)))) (dw_or1 (dw_and (dt_cmp od_notN (dv 1) de_non (nomark _)) (dw_and1 (dt_cmp od_notInS (dv 3) (dv 1) (by with_unfolding_all rfl)))).dt)).dt (dss_one (ds_ret de_bl)) dss_nil))))))
    (dss_one (ds_ret de_bl)))), fun ds R Qd Ed h => ?_⟩
  obtain ⟨d, c, rfl, hv, hz, q⟩ := h
  simp only [dSeq, dCallL, dLam, dJoin, dJs, dFmtS, dRepl, dRaise, dCallX, dDelTail, dAugL, dXF, dAsg, dIf, dIfS, dB, dAnd, dOr, dNot, dAndV, dOrV, dNotV, dChain, dOp, dUn, dVar, dC, rdI0, rdI, dCB, dCall, rd1, dCons, dNil, dgName, dgSub, dgTup, dgLst, dSortSet, dgCons, dgNil, rdSetL, dRet, dLst, dLstF, dTup, dDrop, dNext, dPar, dBM, dBM0, dSl, dPart, dNoPart, dstart, dwipe, List.map_cons, List.map_nil, List.length_cons, List.length_nil, List.replicate_succ, List.replicate_zero, List.cons_append, List.nil_append, List.set_cons_zero, List.set_cons_succ, List.getElem?_cons_zero, List.getElem?_cons_succ, Nat.reduceAdd, Nat.reduceSub, Option.some.injEq, D.int.injEq, D.bl.injEq, D.str.injEq, D.ref.injEq, D.ty.injEq, D.tup.injEq, D.lst.injEq, D.rls.injEq, RO.lst.injEq, List.cons.injEq, exists_and_left, exists_eq_left', exists_eq_left, and_true, true_and, put_same, put_put, at0, at1, at2, ix30, ix31, ix32, and_assoc, dLcF, dLc, dLcT, dIRng1, dIRng2, dIStr, dITup, dILst, dYes, if_true, Bool.false_eq_true, if_false, eqS_ii, neS_ii, eqS_ss, neS_ss, decide_eq_true_eq, sq_tup, sq_lst, sq_rls, lo_lst, lo_rls, tr_lst, isi_tt, isi_st, isi_nt, isi_bt, isi_it, isi_lt, isi_ts, isi_ss, isi_ns, isi_bs, isi_is, isi_ls, List.append_nil, sz0, sz1, sz2, sz3, sz4, sz5, sz6, sl0, sl1, sl2, ty_put, ty_str, lo_put, sq_put, tr_put, reduceCtorEq, false_and, and_false, exists_false, or_false, false_or, Bool.not_false, Bool.not_true, List.isEmpty_nil, List.isEmpty_cons, app1_empty]
  intro p hp
  refine ⟨WO d c R p, ⟨_, [d], none, rfl, rfl, by simp, by simpa using hv, rfl, by simp [vszs]⟩, ?_⟩
  rintro m s' R' ⟨ds, x, rfl, rfl, he, hvs, rfl, hm⟩
  have hq : ∀ b : Bool, isTD c d = b → DL.Fin Qd (.bl b) (put R p (.lst ds)) := fun b e => by
    subst e; exact finS (sub_put hp) q
  rcases List.eq_nil_or_concat ds with rfl | ⟨ds, y, rfl⟩
  · simp only [rdNil, dSeq, dCallL, dLam, dJoin, dJs, dFmtS, dRepl, dRaise, dCallX, dDelTail, dAugL, dXF, dAsg, dIf, dIfS, dB, dAnd, dOr, dNot, dAndV, dOrV, dNotV, dChain, dOp, dUn, dVar, dC, rdI0, rdI, dCB, dCall, rd1, dCons, dNil, dgName, dgSub, dgTup, dgLst, dSortSet, dgCons, dgNil, rdSetL, dRet, dLst, dLstF, dTup, dDrop, dNext, dPar, dBM, dBM0, dSl, dPart, dNoPart, dstart, dwipe, List.map_cons, List.map_nil, List.length_cons, List.length_nil, List.replicate_succ, List.replicate_zero, List.cons_append, List.nil_append, List.set_cons_zero, List.set_cons_succ, List.getElem?_cons_zero, List.getElem?_cons_succ, Nat.reduceAdd, Nat.reduceSub, Option.some.injEq, D.int.injEq, D.bl.injEq, D.str.injEq, D.ref.injEq, D.ty.injEq, D.tup.injEq, D.lst.injEq, D.rls.injEq, RO.lst.injEq, List.cons.injEq, exists_and_left, exists_eq_left', exists_eq_left, and_true, true_and, put_same, put_put, at0, at1, at2, ix30, ix31, ix32, and_assoc, dLcF, dLc, dLcT, dIRng1, dIRng2, dIStr, dITup, dILst, dYes, if_true, Bool.false_eq_true, if_false, eqS_ii, neS_ii, eqS_ss, neS_ss, decide_eq_true_eq, sq_tup, sq_lst, sq_rls, lo_lst, lo_rls, tr_lst, isi_tt, isi_st, isi_nt, isi_bt, isi_it, isi_lt, isi_ts, isi_ss, isi_ns, isi_bs, isi_is, isi_ls, List.append_nil, sz0, sz1, sz2, sz3, sz4, sz5, sz6, sl0, sl1, sl2, ty_put, ty_str, lo_put, sq_put, tr_put, reduceCtorEq, false_and, and_false, exists_false, or_false, false_or, Bool.not_false, Bool.not_true, List.isEmpty_nil, List.isEmpty_cons, app1_empty]
    exact hq true he.symm
  · rw [List.concat_eq_append] at *
    have hl := vszs_len ds
    rw [vszs_app] at hm
    rw [List.all_append, Bool.and_eq_true] at hvs
    obtain ⟨hvs, hy⟩ := hvs
    have hy : vdB y = true := by simpa using hy
    rw [List.all_append] at he
    have he : (ds.all (isTD c) && isTD c y) = isTD c d := by rw [← he]; simp
    have hqd : ∀ b : Bool, isTD c d = b → DL.Fin Qd (.bl b) (put R p (.lst ds)) := fun b e => by
      subst e; exact finS (sub_put hp) q
    clear hv hq
    simp only [rdNil, dSeq, dCallL, dLam, dJoin, dJs, dFmtS, dRepl, dRaise, dCallX, dDelTail, dAugL, dXF, dAsg, dIf, dIfS, dB, dAnd, dOr, dNot, dAndV, dOrV, dNotV, dChain, dOp, dUn, dVar, dC, rdI0, rdI, dCB, dCall, rd1, dCons, dNil, dgName, dgSub, dgTup, dgLst, dSortSet, dgCons, dgNil, rdSetL, dRet, dLst, dLstF, dTup, dDrop, dNext, dPar, dBM, dBM0, dSl, dPart, dNoPart, dstart, dwipe, List.map_cons, List.map_nil, List.length_cons, List.length_nil, List.replicate_succ, List.replicate_zero, List.cons_append, List.nil_append, List.set_cons_zero, List.set_cons_succ, List.getElem?_cons_zero, List.getElem?_cons_succ, Nat.reduceAdd, Nat.reduceSub, Option.some.injEq, D.int.injEq, D.bl.injEq, D.str.injEq, D.ref.injEq, D.ty.injEq, D.tup.injEq, D.lst.injEq, D.rls.injEq, RO.lst.injEq, List.cons.injEq, exists_and_left, exists_eq_left', exists_eq_left, and_true, true_and, put_same, put_put, at0, at1, at2, ix30, ix31, ix32, and_assoc, dLcF, dLc, dLcT, dIRng1, dIRng2, dIStr, dITup, dILst, dYes, if_true, Bool.false_eq_true, if_false, eqS_ii, neS_ii, eqS_ss, neS_ss, decide_eq_true_eq, sq_tup, sq_lst, sq_rls, lo_lst, lo_rls, tr_lst, isi_tt, isi_st, isi_nt, isi_bt, isi_it, isi_lt, isi_ts, isi_ss, isi_ns, isi_bs, isi_is, isi_ls, List.append_nil, sz0, sz1, sz2, sz3, sz4, sz5, sz6, sl0, sl1, sl2, ty_put, ty_str, lo_put, sq_put, tr_put, reduceCtorEq, false_and, and_false, exists_false, or_false, false_or, Bool.not_false, Bool.not_true, List.isEmpty_nil, List.isEmpty_cons, app1_empty]
    refine ⟨ds, y, rfl, ?_⟩
    have bad : ∀ {y' : D}, Vk y' = true → nmD y' = false → isTD c d = false → ∀ {G : D → Rs → Prop}, (DL.Fin Qd (.bl false) (put R p (.lst ds)) → G (.bl false) (put R p (.lst ds))) → spIsName [y'] (put R p (.lst ds)) G Ed0 := fun h1 h2 h3 _ k => ⟨_, rfl, h1, by rw [h2]; exact k (hqd false h3)⟩
    have vz1 : vszs [y] = vsz y := by simp [vszs]
    cases y with
    | tup xs =>
      match xs with
      | [a, b] =>
        simp only [dSeq, dCallL, dLam, dJoin, dJs, dFmtS, dRepl, dRaise, dCallX, dDelTail, dAugL, dXF, dAsg, dIf, dIfS, dB, dAnd, dOr, dNot, dAndV, dOrV, dNotV, dChain, dOp, dUn, dVar, dC, rdI0, rdI, dCB, dCall, rd1, dCons, dNil, dgName, dgSub, dgTup, dgLst, dSortSet, dgCons, dgNil, rdSetL, dRet, dLst, dLstF, dTup, dDrop, dNext, dPar, dBM, dBM0, dSl, dPart, dNoPart, dstart, dwipe, List.map_cons, List.map_nil, List.length_cons, List.length_nil, List.replicate_succ, List.replicate_zero, List.cons_append, List.nil_append, List.set_cons_zero, List.set_cons_succ, List.getElem?_cons_zero, List.getElem?_cons_succ, Nat.reduceAdd, Nat.reduceSub, Option.some.injEq, D.int.injEq, D.bl.injEq, D.str.injEq, D.ref.injEq, D.ty.injEq, D.tup.injEq, D.lst.injEq, D.rls.injEq, RO.lst.injEq, List.cons.injEq, exists_and_left, exists_eq_left', exists_eq_left, and_true, true_and, put_same, put_put, at0, at1, at2, ix30, ix31, ix32, and_assoc, dLcF, dLc, dLcT, dIRng1, dIRng2, dIStr, dITup, dILst, dYes, if_true, Bool.false_eq_true, if_false, eqS_ii, neS_ii, eqS_ss, neS_ss, decide_eq_true_eq, sq_tup, sq_lst, sq_rls, lo_lst, lo_rls, tr_lst, isi_tt, isi_st, isi_nt, isi_bt, isi_it, isi_lt, isi_ts, isi_ss, isi_ns, isi_bs, isi_is, isi_ls, List.append_nil, sz0, sz1, sz2, sz3, sz4, sz5, sz6, sl0, sl1, sl2, ty_put, ty_str, lo_put, sq_put, tr_put, reduceCtorEq, false_and, and_false, exists_false, or_false, false_or, Bool.not_false, Bool.not_true, List.isEmpty_nil, List.isEmpty_cons, app1_empty]
        rw [if_pos (by omega)]
        have e2 : vszs [a, b] = vsz a + vsz b := by simp [vszs]
        have e1 : vsz (.tup [a, b]) = vsz a + vsz b + 1 := by simp [vsz]
        have hl2 := vszs_len (ds ++ [a, b])
        have hl3 := vszs_app ds [a, b]
        have hab : vdB a = true ∧ vdB b = true := by simpa [vdB] using hy
        rw [List.length_append] at hl2
        have e22 : ([a, b] : List D).length = 2 := rfl
        refine ⟨by rw [sizeLine_eq]; omega, vszs (ds ++ [a, b]), by rw [vszs_app, vszs_app]; omega, ds ++ [a, b], _, rfl, rfl, ?_, ?_, rfl, by omega⟩
        · rw [← he, List.all_append]
          simp [isTD]
        · rw [List.all_append, hvs]
          simp [hab.1, hab.2]
      | [] =>
        simp only [dSeq, dCallL, dLam, dJoin, dJs, dFmtS, dRepl, dRaise, dCallX, dDelTail, dAugL, dXF, dAsg, dIf, dIfS, dB, dAnd, dOr, dNot, dAndV, dOrV, dNotV, dChain, dOp, dUn, dVar, dC, rdI0, rdI, dCB, dCall, rd1, dCons, dNil, dgName, dgSub, dgTup, dgLst, dSortSet, dgCons, dgNil, rdSetL, dRet, dLst, dLstF, dTup, dDrop, dNext, dPar, dBM, dBM0, dSl, dPart, dNoPart, dstart, dwipe, List.map_cons, List.map_nil, List.length_cons, List.length_nil, List.replicate_succ, List.replicate_zero, List.cons_append, List.nil_append, List.set_cons_zero, List.set_cons_succ, List.getElem?_cons_zero, List.getElem?_cons_succ, Nat.reduceAdd, Nat.reduceSub, Option.some.injEq, D.int.injEq, D.bl.injEq, D.str.injEq, D.ref.injEq, D.ty.injEq, D.tup.injEq, D.lst.injEq, D.rls.injEq, RO.lst.injEq, List.cons.injEq, exists_and_left, exists_eq_left', exists_eq_left, and_true, true_and, put_same, put_put, at0, at1, at2, ix30, ix31, ix32, and_assoc, dLcF, dLc, dLcT, dIRng1, dIRng2, dIStr, dITup, dILst, dYes, if_true, Bool.false_eq_true, if_false, eqS_ii, neS_ii, eqS_ss, neS_ss, decide_eq_true_eq, sq_tup, sq_lst, sq_rls, lo_lst, lo_rls, tr_lst, isi_tt, isi_st, isi_nt, isi_bt, isi_it, isi_lt, isi_ts, isi_ss, isi_ns, isi_bs, isi_is, isi_ls, List.append_nil, sz0, sz1, sz2, sz3, sz4, sz5, sz6, sl0, sl1, sl2, ty_put, ty_str, lo_put, sq_put, tr_put, reduceCtorEq, false_and, and_false, exists_false, or_false, false_or, Bool.not_false, Bool.not_true, List.isEmpty_nil, List.isEmpty_cons, app1_empty]
        rw [if_neg (by decide)]
        exact bad rfl rfl (by rw [← he]; simp [isTD]) fun z => ⟨_, rfl, z⟩
      | [_] =>
        simp only [dSeq, dCallL, dLam, dJoin, dJs, dFmtS, dRepl, dRaise, dCallX, dDelTail, dAugL, dXF, dAsg, dIf, dIfS, dB, dAnd, dOr, dNot, dAndV, dOrV, dNotV, dChain, dOp, dUn, dVar, dC, rdI0, rdI, dCB, dCall, rd1, dCons, dNil, dgName, dgSub, dgTup, dgLst, dSortSet, dgCons, dgNil, rdSetL, dRet, dLst, dLstF, dTup, dDrop, dNext, dPar, dBM, dBM0, dSl, dPart, dNoPart, dstart, dwipe, List.map_cons, List.map_nil, List.length_cons, List.length_nil, List.replicate_succ, List.replicate_zero, List.cons_append, List.nil_append, List.set_cons_zero, List.set_cons_succ, List.getElem?_cons_zero, List.getElem?_cons_succ, Nat.reduceAdd, Nat.reduceSub, Option.some.injEq, D.int.injEq, D.bl.injEq, D.str.injEq, D.ref.injEq, D.ty.injEq, D.tup.injEq, D.lst.injEq, D.rls.injEq, RO.lst.injEq, List.cons.injEq, exists_and_left, exists_eq_left', exists_eq_left, and_true, true_and, put_same, put_put, at0, at1, at2, ix30, ix31, ix32, and_assoc, dLcF, dLc, dLcT, dIRng1, dIRng2, dIStr, dITup, dILst, dYes, if_true, Bool.false_eq_true, if_false, eqS_ii, neS_ii, eqS_ss, neS_ss, decide_eq_true_eq, sq_tup, sq_lst, sq_rls, lo_lst, lo_rls, tr_lst, isi_tt, isi_st, isi_nt, isi_bt, isi_it, isi_lt, isi_ts, isi_ss, isi_ns, isi_bs, isi_is, isi_ls, List.append_nil, sz0, sz1, sz2, sz3, sz4, sz5, sz6, sl0, sl1, sl2, ty_put, ty_str, lo_put, sq_put, tr_put, reduceCtorEq, false_and, and_false, exists_false, or_false, false_or, Bool.not_false, Bool.not_true, List.isEmpty_nil, List.isEmpty_cons, app1_empty]
        rw [if_neg (by decide)]
        exact bad rfl rfl (by rw [← he]; simp [isTD]) fun z => ⟨_, rfl, z⟩
      | a :: b :: c2 :: r =>
        simp only [dSeq, dCallL, dLam, dJoin, dJs, dFmtS, dRepl, dRaise, dCallX, dDelTail, dAugL, dXF, dAsg, dIf, dIfS, dB, dAnd, dOr, dNot, dAndV, dOrV, dNotV, dChain, dOp, dUn, dVar, dC, rdI0, rdI, dCB, dCall, rd1, dCons, dNil, dgName, dgSub, dgTup, dgLst, dSortSet, dgCons, dgNil, rdSetL, dRet, dLst, dLstF, dTup, dDrop, dNext, dPar, dBM, dBM0, dSl, dPart, dNoPart, dstart, dwipe, List.map_cons, List.map_nil, List.length_cons, List.length_nil, List.replicate_succ, List.replicate_zero, List.cons_append, List.nil_append, List.set_cons_zero, List.set_cons_succ, List.getElem?_cons_zero, List.getElem?_cons_succ, Nat.reduceAdd, Nat.reduceSub, Option.some.injEq, D.int.injEq, D.bl.injEq, D.str.injEq, D.ref.injEq, D.ty.injEq, D.tup.injEq, D.lst.injEq, D.rls.injEq, RO.lst.injEq, List.cons.injEq, exists_and_left, exists_eq_left', exists_eq_left, and_true, true_and, put_same, put_put, at0, at1, at2, ix30, ix31, ix32, and_assoc, dLcF, dLc, dLcT, dIRng1, dIRng2, dIStr, dITup, dILst, dYes, if_true, Bool.false_eq_true, if_false, eqS_ii, neS_ii, eqS_ss, neS_ss, decide_eq_true_eq, sq_tup, sq_lst, sq_rls, lo_lst, lo_rls, tr_lst, isi_tt, isi_st, isi_nt, isi_bt, isi_it, isi_lt, isi_ts, isi_ss, isi_ns, isi_bs, isi_is, isi_ls, List.append_nil, sz0, sz1, sz2, sz3, sz4, sz5, sz6, sl0, sl1, sl2, ty_put, ty_str, lo_put, sq_put, tr_put, reduceCtorEq, false_and, and_false, exists_false, or_false, false_or, Bool.not_false, Bool.not_true, List.isEmpty_nil, List.isEmpty_cons, app1_empty]
        rw [if_neg (by omega)]
        exact bad rfl rfl (by rw [← he]; simp [isTD]) fun z => ⟨_, rfl, z⟩
    | str x =>
      simp only [dSeq, dCallL, dLam, dJoin, dJs, dFmtS, dRepl, dRaise, dCallX, dDelTail, dAugL, dXF, dAsg, dIf, dIfS, dB, dAnd, dOr, dNot, dAndV, dOrV, dNotV, dChain, dOp, dUn, dVar, dC, rdI0, rdI, dCB, dCall, rd1, dCons, dNil, dgName, dgSub, dgTup, dgLst, dSortSet, dgCons, dgNil, rdSetL, dRet, dLst, dLstF, dTup, dDrop, dNext, dPar, dBM, dBM0, dSl, dPart, dNoPart, dstart, dwipe, List.map_cons, List.map_nil, List.length_cons, List.length_nil, List.replicate_succ, List.replicate_zero, List.cons_append, List.nil_append, List.set_cons_zero, List.set_cons_succ, List.getElem?_cons_zero, List.getElem?_cons_succ, Nat.reduceAdd, Nat.reduceSub, Option.some.injEq, D.int.injEq, D.bl.injEq, D.str.injEq, D.ref.injEq, D.ty.injEq, D.tup.injEq, D.lst.injEq, D.rls.injEq, RO.lst.injEq, List.cons.injEq, exists_and_left, exists_eq_left', exists_eq_left, and_true, true_and, put_same, put_put, at0, at1, at2, ix30, ix31, ix32, and_assoc, dLcF, dLc, dLcT, dIRng1, dIRng2, dIStr, dITup, dILst, dYes, if_true, Bool.false_eq_true, if_false, eqS_ii, neS_ii, eqS_ss, neS_ss, decide_eq_true_eq, sq_tup, sq_lst, sq_rls, lo_lst, lo_rls, tr_lst, isi_tt, isi_st, isi_nt, isi_bt, isi_it, isi_lt, isi_ts, isi_ss, isi_ns, isi_bs, isi_is, isi_ls, List.append_nil, sz0, sz1, sz2, sz3, sz4, sz5, sz6, sl0, sl1, sl2, ty_put, ty_str, lo_put, sq_put, tr_put, reduceCtorEq, false_and, and_false, exists_false, or_false, false_or, Bool.not_false, Bool.not_true, List.isEmpty_nil, List.isEmpty_cons, app1_empty]
      have hx : Vk (.str x) = true := by simpa [vdB] using hy
      refine ⟨_, rfl, hx, _, rfl, ?_⟩
      have et : isTD c (.str x) = (nmB x && okC c x) := by simp [isTD]
      have good : nmB x = true → okC c x = true → ∃ m', m' < vszs (ds ++ [D.str x]) ∧ WO d c R p m' [some d, some (clD c), some (D.ref p), some (D.str x)] (put R p (.lst ds)) := fun h1 h2 =>
        ⟨vszs ds, by rw [vszs_app]; have := vsz_pos (.str x); omega, ds, _, rfl, rfl, by rw [← he, et, h1, h2]; simp, hvs, rfl, by omega⟩
      cases h1 : nmB x with
      | false =>
        rw [show nmD (.str x) = false from h1]
        rw [if_pos (by decide)]
        exact hqd false (by rw [← he, et, h1]; simp)
      | true =>
        rw [show nmD (.str x) = true from h1, if_neg (by decide)]
        cases c with
        | none =>
          rw [if_neg (by simp [clD, D.isNon])]
          exact good h1 rfl
        | some l =>
          rw [if_pos (by simp [clD, D.isNon])]
          refine ⟨x, l, rfl, rfl, _, rfl, ?_⟩
          by_cases hm : x ∈ l
          · simp only [decide_eq_true hm, if_true, Bool.not_true, Bool.false_eq_true, if_false]
            exact good h1 (decide_eq_true hm)
          · simp only [decide_eq_false hm, if_true, Bool.not_false]
            exact hqd false (by rw [← he, et, h1]; simp [okC, hm])
    | ty _ => simp [vdB, Vk] at hy
    | ref _ => simp [vdB, Vk] at hy
    | rls _ => simp [vdB, Vk] at hy
    | ins _ _ _ => simp [vdB, Vk] at hy
    | dK _ _ => simp [vdB, Vk] at hy
    | dT _ _ => simp [vdB, Vk] at hy
    | lam _ => simp [vdB, Vk] at hy
    | _ =>
      simp only [dSeq, dCallL, dLam, dJoin, dJs, dFmtS, dRepl, dRaise, dCallX, dDelTail, dAugL, dXF, dAsg, dIf, dIfS, dB, dAnd, dOr, dNot, dAndV, dOrV, dNotV, dChain, dOp, dUn, dVar, dC, rdI0, rdI, dCB, dCall, rd1, dCons, dNil, dgName, dgSub, dgTup, dgLst, dSortSet, dgCons, dgNil, rdSetL, dRet, dLst, dLstF, dTup, dDrop, dNext, dPar, dBM, dBM0, dSl, dPart, dNoPart, dstart, dwipe, List.map_cons, List.map_nil, List.length_cons, List.length_nil, List.replicate_succ, List.replicate_zero, List.cons_append, List.nil_append, List.set_cons_zero, List.set_cons_succ, List.getElem?_cons_zero, List.getElem?_cons_succ, Nat.reduceAdd, Nat.reduceSub, Option.some.injEq, D.int.injEq, D.bl.injEq, D.str.injEq, D.ref.injEq, D.ty.injEq, D.tup.injEq, D.lst.injEq, D.rls.injEq, RO.lst.injEq, List.cons.injEq, exists_and_left, exists_eq_left', exists_eq_left, and_true, true_and, put_same, put_put, at0, at1, at2, ix30, ix31, ix32, and_assoc, dLcF, dLc, dLcT, dIRng1, dIRng2, dIStr, dITup, dILst, dYes, if_true, Bool.false_eq_true, if_false, eqS_ii, neS_ii, eqS_ss, neS_ss, decide_eq_true_eq, sq_tup, sq_lst, sq_rls, lo_lst, lo_rls, tr_lst, isi_tt, isi_st, isi_nt, isi_bt, isi_it, isi_lt, isi_ts, isi_ss, isi_ns, isi_bs, isi_is, isi_ls, List.append_nil, sz0, sz1, sz2, sz3, sz4, sz5, sz6, sl0, sl1, sl2, ty_put, ty_str, lo_put, sq_put, tr_put, reduceCtorEq, false_and, and_false, exists_false, or_false, false_or, Bool.not_false, Bool.not_true, List.isEmpty_nil, List.isEmpty_cons, app1_empty]
      exact bad rfl rfl (by rw [← he]; simp [isTD]) fun z => ⟨_, rfl, z⟩
abbrev s_is_tree : Stmt := top 8
abbrev n_is_tree : List Str := ["value"]
theorem sc_is_tree : FnScope n_is_tree ["value"] (defScope s_is_tree) := ⟨rfl, rfl, rfl, by decide +kernel, rfl, by decide +kernel, by decide +kernel⟩
def spIsTree : DSp := fun ds R Q _ => ∃ d : D, ds = [d] ∧ vdB d = true ∧ vsz d ≤ 100000 ∧ Q (.bl (isTD none d)) R
theorem ok_is_tree (F : Fun K "is_tree" "is_tree" s_is_tree f fd) (Z : Blt mg bl) (c_is_tree_over : Cal P w K mg base 2 "is_tree_over" spTreeOver) : FnG P w K mg base CX0 3 f fd ["value"] (spOf K spIsTree) := by
  refine okD F sc_is_tree (fun ds R Q E h => by obtain ⟨d, rfl, _⟩ := h; rfl) fun cdv A outer s H E gd hr => ?_
  refine ⟨_, (dss_one (ds_ret (de_c c_is_tree_over gd hr (by omega) (by rfl) (da_cons (dv 0) (da_cons de_non da_nil))))), fun ds R Qd Ed h => ?_⟩
  obtain ⟨d, rfl, hv, hz, q⟩ := h
  simp only [dSeq, dCallL, dLam, dJoin, dJs, dFmtS, dRepl, dRaise, dCallX, dDelTail, dAugL, dXF, dAsg, dIf, dIfS, dB, dAnd, dOr, dNot, dAndV, dOrV, dNotV, dChain, dOp, dUn, dVar, dC, rdI0, rdI, dCB, dCall, rd1, dCons, dNil, dgName, dgSub, dgTup, dgLst, dSortSet, dgCons, dgNil, rdSetL, dRet, dLst, dLstF, dTup, dDrop, dNext, dPar, dBM, dBM0, dSl, dPart, dNoPart, dstart, dwipe, List.map_cons, List.map_nil, List.length_cons, List.length_nil, List.replicate_succ, List.replicate_zero, List.cons_append, List.nil_append, List.set_cons_zero, List.set_cons_succ, List.getElem?_cons_zero, List.getElem?_cons_succ, Nat.reduceAdd, Nat.reduceSub, Option.some.injEq, D.int.injEq, D.bl.injEq, D.str.injEq, D.ref.injEq, D.ty.injEq, D.tup.injEq, D.lst.injEq, D.rls.injEq, RO.lst.injEq, List.cons.injEq, exists_and_left, exists_eq_left', exists_eq_left, and_true, true_and, put_same, put_put, at0, at1, at2, ix30, ix31, ix32, and_assoc, dLcF, dLc, dLcT, dIRng1, dIRng2, dIStr, dITup, dILst, dYes, if_true, Bool.false_eq_true, if_false, eqS_ii, neS_ii, eqS_ss, neS_ss, decide_eq_true_eq, sq_tup, sq_lst, sq_rls, lo_lst, lo_rls, tr_lst, isi_tt, isi_st, isi_nt, isi_bt, isi_it, isi_lt, isi_ts, isi_ss, isi_ns, isi_bs, isi_is, isi_ls, List.append_nil, sz0, sz1, sz2, sz3, sz4, sz5, sz6, sl0, sl1, sl2, ty_put, ty_str, lo_put, sq_put, tr_put, reduceCtorEq, false_and, and_false, exists_false, or_false, false_or, Bool.not_false, Bool.not_true, List.isEmpty_nil, List.isEmpty_cons, app1_empty]
  exact ⟨d, none, rfl, hv, hz, fin q⟩
theorem isTD_td {t : T} (h : ∀ x ∈ leaves t, nmB x = true) : isTD none (td t) = true := by
  induction t with
  | leaf x => simp [td, isTD, okC, h x (by simp [leaves])]
  | node l r il ir => simp [td, isTD, il fun x hx => h x (by simp [leaves, hx]), ir fun x hx => h x (by simp [leaves, hx])]
theorem nmB_NT {t : T} (h : NT t) : ∀ x ∈ leaves t, nmB x = true := fun x hx => nmB_nm (h x hx)
theorem vsz_td : ∀ t : T, vsz (td t) + 1 = 2 * size t
  | leaf _ => rfl
  | node l r => by have := vsz_td l; have := vsz_td r; simp only [td, vsz, size]; omega
theorem vdB_td {t : T} (h : ∀ x ∈ leaves t, x.length ≤ 2000) : vdB (td t) = true := by
  induction t with
  | leaf x => simp [td, vdB, Vk, h x (by simp [leaves])]
  | node l r il ir => simp [td, vdB, il fun x hx => h x (by simp [leaves, hx]), ir fun x hx => h x (by simp [leaves, hx])]
end

end Law
end
section
set_option Elab.async false
set_option maxRecDepth 100000
set_option maxHeartbeats 4000000
set_option linter.all false
set_option autoImplicit false
namespace Law
open PySem PySem.Spec PyProof.Rows L2 DL TL TrA TrA.Tr
section
open PySem PySem.W PySem.Calls PyProof.Rows PySem.HandSPX PySem.LX
def iA_NoText : Arguments := { posonlyargs := [], args := [{ arg := "self", annotation := none, pos := ⟨4, 17, 4, 21⟩ }, { arg := "position", annotation := none, pos := ⟨4, 23, 4, 31⟩ }], vararg := none, kwonlyargs := [], kw_defaults := [], kwarg := none, defaults := [] }
def iB_NoText : List Stmt := [.Assign [.Attribute (.Name "self" ⟨5, 8, 5, 12⟩) "position" ⟨5, 8, 5, 21⟩] (.Name "position" ⟨5, 24, 5, 32⟩) ⟨5, 8, 5, 32⟩]
def iS_NoText : Scope := { kind := .function, names := [(PySem.Str.ofString "self", .local), (PySem.Str.ofString "position", .local)], isGenerator := false, isCoroutine := false, more := [] }
theorem low_NoText {K : Frag} {mg : Str → Option Value} {C fI : Addr} {nm q : Str} {N : Addr} {bs : List Value} {sn : List Str} {sub : List Value} {ab : Bool} {col : Option Bool} {dd : Option Addr} {k0 k1 k2 k3 k5 : Option Value} {oc : Value} {od : Option Addr} {doc pm : Value} {an : Option Addr} {cdv ct : Value} {osl : Array (Option Value)}
    (aC : mg "NoText" = some (.ref C)) (hC : K.lookup C = some (excClassObj nm q C N bs [.type "ValueError", .type "Exception", .type "BaseException", .type "object"] true sn sub ab col dd k0 k1 k2 k3 k5 "ValueError.__new__"))
    (sa : findIn K (.ref C) "__setattr__" = some (some (.builtin "object.__setattr__"))) (ga : findIn K (.ref C) "__getattribute__" = some (some (.builtin "BaseException.__getattribute__"))) (gg : findIn K (.ref C) "__getattr__" = some none) (noN : findIn K (.ref C) "position" = some none)
    (iC : findIn K (.ref C) "__init__" = some (some (.ref fI))) (tC : typeIn K (.ref fI) = some (.type "function"))
    (ho : K.lookup fI = some ⟨oc, od, .func (fnOf "__init__" "NoText.__init__" iA_NoText iB_NoText iS_NoText .none .none doc pm an cdv ct), osl⟩) (hcd : codeIn K cdv "NoText.__init__" = true)
    (kC : keepIn K (.ref C) = true) (exC : subIn K (.ref C) (.type "BaseException") = some true) (tyC : typeIn K (.ref C) = some (.type "type")) (hdC : hasDictIn K C = true) (icC : isClsIn K C = true) (sC : subIn K (.ref C) (.ref C) = some true) : PySem.LX.Low K mg "NoText" "position" C := by
  have hcl : clsIn K C = some { name := nm, bases := bs, mro := .ref C :: [.type "ValueError", .type "Exception", .type "BaseException", .type "object"], ns := N, qualname := q, hasDict := true, slotNames := sn, subclasses := sub, abstract := ab, collection := col, hasDel := false } := by unfold clsIn; rw [hC] <;> rfl
  have init : ∀ (prog : Program) (w : World) (A : Around) (R : Result → Shared → Prop) (s : Shared) (x t0 : Addr) (v : Value), K.In s.heap → s.heap.NoLimit → s.heap.get? x = some (excO C t0) → A.depth < recursionLimit →
      (∀ h' tk dx, InitEnd s.heap h' x C dx t0 "position" v → R (.ok (.ret .none)) { s with heap := h', toks := tk }) → codeAny (model prog w) A (.call (.ref fI) ⟨[.ref x, v], []⟩) R s := by
    intro prog w A R s x t0 v X hlim hx hroom hq
    refine Att.call_fn (binds := [("self", .ref x), ("position", v)]) X hlim ho hcd hroom (BindsTo.of_eq (by first | rfl | with_unfolding_all rfl)) (by first | rfl | decide | with_unfolding_all rfl) (fun s₁ IC => ?_) rfl rfl rfl
    obtain ⟨h₁, tk₁, rfl⟩ := IC.toInCall.same
    have k : ∀ b o, s.heap.get? b = some o → h₁.get? b = some o := IC.toInCall.keep
    have hn := IC.toInCall.ns
    have X₁ : K.In h₁ := X.keeps k
    have hx₁ := k _ _ hx
    show wpAny _ _ (execs _ _) _ _ _
    refine wpAny_execs_cons (plainObj_wpAny_Assign_Attribute ?_)
    refine ldC (v := v) hn (by first | rfl | with_unfolding_all rfl | kernel_rfl) (ldC (v := .ref x) hn (by first | rfl | with_unfolding_all rfl | kernel_rfl) ?_)
    refine set_plain X₁ (ox := excO C t0) (od := none) ⟨hx₁, rfl, rfl, trivial⟩ sa ?_
    refine PySem.LX.exc_osa X₁ hx₁ hcl rfl F.store_ValueError.passes (by decide +kernel) rfl noN (fun h₃ tk₃ dx k₃ dn dne hx₃ hn₃ => ?_)
    show wpAny _ _ (execs _ _) _ _ _
    have z : s.heap.objs.size < h₁.objs.size := hn.lt
    exact wpAny_execs_nil (hq h₃ tk₃ dx ⟨fun b o hb e => k₃ b o hb (k b o e), hx₃, Nat.le_of_lt (Nat.lt_of_lt_of_le z dn), dne, hn₃⟩)
  refine { gC := aC, ga := ga, gg := gg, noN := noN, kC := kC, exC := exC, tyC := tyC, hdC := hdC, te := exm_self exC icC tyC sC, made := ?_ }
  intro prog w A R s v X hlim hroom hq
  obtain ⟨hp, g, dr, tk, os⟩ := s
  have k : ∀ b o, hp.get? b = some o → ((hp.push (kdv_tup [v])).push (excO C hp.objs.size)).get? b = some o := fun b o e => Heap.get?_push_of_some _ (Heap.get?_push_of_some _ e)
  have hget : ((hp.push (kdv_tup [v])).push (excO C hp.objs.size)).get? (hp.objs.size + 1) = some (excO C hp.objs.size) := by heap_get
  refine call_own F.excBase_ValueError (fun X => rfl) (X _ _ hC) (looks_findIn X iC) (fun self => bind_fn X self tC) (one_size v) ?_
  refine init _ _ _ _ ⟨(hp.push (kdv_tup [v])).push (excO C hp.objs.size), g, dr, tk, os⟩ _ _ _ (X.keeps k) (hlim.keeps k) hget ?_ fun h' tk' dx ⟨k', hx, dn, dne, hns⟩ => ?_
  · show A.depth + 1 < recursionLimit
    exact hroom
  · have old : ∀ b o, hp.get? b = some o → h'.get? b = some o := fun b o e => k' b o (Nat.ne_of_lt (Nat.lt_succ_of_lt (Heap.lt_size e))) (k b o e)
    have z : hp.objs.size + 1 + 1 ≤ dx := by
      first
        | (simpa only [Heap.size_push] using dn)
        | exact dn
        | (have q := dn; rw [Heap.size_push, Heap.size_push] at q; exact q)
    exact ⟨rfl, hq h' tk' (hp.objs.size + 1) dx ⟨old, Nat.le_succ _, ⟨_, _, hx, rfl, rfl, rfl, rfl⟩, Nat.le_trans (Nat.le_trans (Nat.le_succ _) (Nat.le_succ _)) z, dne, hns⟩⟩
end

section
variable [TabCtx] {P : Program} {w : World} {K : KB} {mg : Str → Option Value} {base : Heap} {f : Addr} {fd : FuncData}
/-! ### reading a tree's text, its parts with the last one first -/
abbrev lpS : Str := "("
abbrev spS : Str := " "
def isMark : T → Bool
  | leaf x => decide (x = lpS) || decide (x = spS)
  | node _ _ => true
def closes (c : Nat) : List T → Bool
  | _ :: sp :: _ :: op :: _ => decide (c = 41) && (decide (op = leaf lpS) && decide (sp = leaf spS))
  | _ => false
def pushB (c : Nat) : List T → Bool
  | leaf w :: _ => decide (c = 40 ∨ c = 32) || isMark (leaf w)
  | _ => true
def closeTop : List T → List T
  | r :: _ :: l :: _ :: rest => node l r :: rest
  | ps => ps
def growTop (c : Nat) : List T → List T
  | leaf w :: rest => leaf (w ++ lstr c) :: rest
  | ps => ps
def rdStep (ps : List T) (c : Nat) : List T := if closes c ps = true then closeTop ps else if pushB c ps = true then leaf (lstr c) :: ps else growTop c ps
def rdRun (cs : List Nat) : List T := cs.foldl rdStep []
theorem rdRun_snoc (cs : List Nat) (c : Nat) : rdRun (cs ++ [c]) = rdStep (rdRun cs) c := by unfold rdRun; rw [List.foldl_append]; rfl
def readOf : List T → Option T
  | [t] => if isTD none (td t) = true then some t else none
  | _ => none
def readT (x : Str) : Option T := readOf (rdRun (tl x))
/-- the text of a tree -/
def txt : T → List Nat
  | leaf w => tl w
  | node l r => 40 :: (txt l ++ 32 :: (txt r ++ [41]))
def flat (ps : List T) : List Nat := ps.reverse.flatMap txt
theorem flat_cons (t : T) (ps : List T) : flat (t :: ps) = flat ps ++ txt t := by unfold flat; simp
theorem tl_app (a b : Str) : tl (a ++ b) = tl a ++ tl b := by show (a.cps ++ b.cps).toList = _; simp [tl]
theorem tl_lp : tl lpS = [40] := by decide +kernel
theorem tl_sp : tl spS = [32] := by decide +kernel
theorem closes_of {c : Nat} {ps : List T} (h : closes c ps = true) : ∃ r l rest, c = 41 ∧ ps = r :: leaf spS :: l :: leaf lpS :: rest := by
  unfold closes at h
  split at h
  · simp only [Bool.and_eq_true, decide_eq_true_eq] at h
    obtain ⟨rfl, rfl, rfl⟩ := h
    exact ⟨_, _, _, rfl, rfl⟩
  · cases h
theorem pushB_no {c : Nat} {ps : List T} (h : pushB c ps = false) : ∃ w rest, ps = leaf w :: rest ∧ ¬ (c = 40 ∨ c = 32) ∧ isMark (leaf w) = false := by
  unfold pushB at h
  split at h
  · rw [Bool.or_eq_false_iff, decide_eq_false_iff_not] at h
    exact ⟨_, _, rfl, h.1, h.2⟩
  · cases h
theorem rdStep_flat (ps : List T) (c : Nat) : flat (rdStep ps c) = flat ps ++ [c] := by
  unfold rdStep
  split
  · rename_i h
    obtain ⟨r, l, rest, rfl, rfl⟩ := closes_of h
    simp only [closeTop, flat_cons, txt, tl_lp, tl_sp, List.append_assoc, List.cons_append, List.nil_append]
  · split
    · rw [flat_cons]; rfl
    · rename_i h
      obtain ⟨w, rest, rfl, _⟩ := pushB_no (by simpa using h)
      rw [growTop, flat_cons, flat_cons, txt, txt, tl_app, List.append_assoc]; rfl
theorem rdFold_flat (cs : List Nat) : ∀ ps, flat (cs.foldl rdStep ps) = flat ps ++ cs := by
  induction cs with
  | nil => intro ps; simp
  | cons c cs ih => intro ps; rw [List.foldl_cons, ih, rdStep_flat, List.append_assoc]; rfl
theorem rdRun_flat (cs : List Nat) : flat (rdRun cs) = cs := by have := rdFold_flat cs []; simpa [flat, rdRun] using this
/-- what is read has that text -/
theorem readT_txt {x : Str} {t : T} (h : readT x = some t) : txt t = tl x ∧ isTD none (td t) = true := by
  unfold readT readOf at h
  split at h
  · rename_i u e
    split at h
    · rename_i g
      cases h
      have := rdRun_flat (tl x)
      rw [e] at this
      exact ⟨by simpa [flat] using this, g⟩
    · cases h
  · cases h
def szl (ps : List T) : Nat := (ps.map size).sum
theorem rdStep_szl (ps : List T) (c : Nat) : szl (rdStep ps c) ≤ szl ps + 1 := by
  unfold rdStep
  split
  · rename_i h
    obtain ⟨r, l, rest, rfl, rfl⟩ := closes_of h
    simp [closeTop, szl, size]; omega
  · split
    · simp [szl, size]; omega
    · rename_i h
      obtain ⟨w, rest, rfl, _⟩ := pushB_no (by simpa using h)
      simp [growTop, szl, size]
theorem rdRun_szl (cs : List Nat) : szl (rdRun cs) ≤ cs.length := by
  have : ∀ (cs : List Nat) (ps : List T), szl (cs.foldl rdStep ps) ≤ szl ps + cs.length := by
    intro cs
    induction cs with
    | nil => intro ps; simp
    | cons c cs ih => intro ps; rw [List.foldl_cons, List.length_cons]; have := ih (rdStep ps c); have := rdStep_szl ps c; omega
  have := this cs []
  simpa [szl, rdRun] using this
theorem szl_len (ps : List T) : ps.length ≤ szl ps := by
  induction ps with
  | nil => simp [szl]
  | cons t ps ih => have := size_pos t; simp only [szl, List.map_cons, List.sum_cons, List.length_cons] at *; omega
def txtLeaves {t : T} {x : Str} : x ∈ leaves t → x.length ≤ (txt t).length := by
  intro h
  induction t with
  | leaf w => simp only [leaves, List.mem_singleton] at h; subst h; simp [txt, DL.len_tl]
  | node l r il ir =>
    rcases List.mem_append.mp h with h | h
    · have := il h; simp only [txt, List.length_cons, List.length_append]; omega
    · have := ir h; simp only [txt, List.length_cons, List.length_append]; omega
theorem flat_mem {ps : List T} {t : T} (h : t ∈ ps) : (txt t).length ≤ (flat ps).length := by
  induction ps with
  | nil => cases h
  | cons u ps ih =>
    rw [flat_cons, List.length_append]
    rcases List.mem_cons.mp h with rfl | h
    · omega
    · have := ih h; omega
theorem flat_sub {ps : List T} {t : T} (h : t ∈ ps) : ∀ c ∈ txt t, c ∈ flat ps := by
  induction ps with
  | nil => cases h
  | cons u ps ih =>
    intro c hc
    rw [flat_cons, List.mem_append]
    rcases List.mem_cons.mp h with rfl | h
    · exact .inr hc
    · exact .inl (ih h c hc)
theorem txt_sub {t : T} {x : Str} (h : x ∈ leaves t) : ∀ c ∈ tl x, c ∈ txt t := by
  induction t with
  | leaf w => simp only [leaves, List.mem_singleton] at h; subst h; exact fun c hc => hc
  | node l r il ir =>
    intro c hc
    rcases List.mem_append.mp h with h | h
    · have := il h c hc; simp [txt, this]
    · have := ir h c hc; simp [txt, this]
theorem strOk_of {x : Str} (h : ∀ c ∈ tl x, c < 1114112) : PyData.strOk x = true := by
  unfold PyData.strOk
  rw [← Array.all_toList, List.all_eq_true]
  intro c hc
  simp only [decide_eq_true_eq]
  exact h c hc
theorem td_layS {t : T} (h : ∀ x ∈ leaves t, PyData.strOk x = true) : (td t).py.canLay0 = true := by
  induction t with
  | leaf x => simp only [td, D.py, PyData.canLay0]; exact h x (by simp [leaves])
  | node l r il ir => simp [td, D.py, D.pys, PyData.canLay0, PyData.canLayAll0, il fun x hx => h x (by simp [leaves, hx]), ir fun x hx => h x (by simp [leaves, hx])]
theorem td_shapedS {t : T} (h : ∀ x ∈ leaves t, PyData.strOk x = true) (hh : height t ≤ 64) : SeqAt.shaped (td t).py = true := by
  show ((td t).py.canLay0 && decide ((td t).py.depth ≤ 64)) = true
  rw [td_layS h, td_depth, decide_eq_true hh]; rfl
theorem eqTS {R : Rs} {Q : DK} {t u : T} (ht : ∀ x ∈ leaves t, PyData.strOk x = true) (hu : ∀ x ∈ leaves u, PyData.strOk x = true) (h1 : height t ≤ 64) (h2 : height u ≤ 64) (q : Q (.bl (decide (t = u))) R) : rdEqD false (td t) (td u) R Q :=
  ⟨_, _, td_asPy t, td_asPy u, td_shapedS ht h1, td_shapedS hu h2, by rw [td_eqv]; exact q⟩
theorem sgn_rp {c : Nat} : ((⟨#[c]⟩ : Str) = Str.ofString ")") ↔ c = 41 := by
  constructor
  · intro h
    have : tl (⟨#[c]⟩ : Str) = [41] := by rw [h]; decide +kernel
    simpa [tl] using this
  · rintro rfl; decide +kernel
theorem sgn_in {c : Nat} : (c ∈ (Str.ofString "( ").cps.toList) ↔ (c = 40 ∨ c = 32) := by
  have : (Str.ofString "( ").cps.toList = [40, 32] := by decide +kernel
  rw [this]; simp
theorem okL (y : Str) (h : PyData.strOk y = true) : ∀ x ∈ leaves (leaf y), PyData.strOk x = true := fun x hx => by
  have e : x = y := by simpa [leaves] using hx
  rw [e]; exact h
theorem rev4 (r sp l op : T) (rest : List T) : (r :: sp :: l :: op :: rest).reverse.map td = rest.reverse.map td ++ [td op, td l, td sp, td r] := by simp
theorem rev1 (t : T) (rest : List T) : (t :: rest).reverse.map td = rest.reverse.map td ++ [td t] := by simp
def hOk (ps : List T) : Prop := (∀ t, ps[3]? = some t → height t ≤ 64) ∧ (∀ t, ps[1]? = some t → height t ≤ 64)
structure OkR (x : Str) : Prop where
  len : x.length ≤ 2000
  cps : ∀ c ∈ tl x, c < 1114112
  hs : ∀ i, (tl x)[i]? = some 41 → hOk (rdRun ((tl x).take i))
abbrev s_read_tree : Stmt := top 12
abbrev n_read_tree : List Str := ["text", "parts", "sign", "pair"]
theorem sc_read_tree : FnScope n_read_tree ["text"] (defScope s_read_tree) := ⟨rfl, rfl, rfl, by decide +kernel, rfl, by decide +kernel, by decide +kernel⟩
def spRead (C : Addr) : DSp := fun ds R Q E => ∃ d : D, ds = [d] ∧ ((∃ x, d = .str x ∧ OkR x ∧ (match readT x with | some t => Q (td t) R | none => E (.ref C) [("position", .int 0)] R)) ∨ (Vk d = true ∧ (∀ x, d ≠ .str x) ∧ E (.ref C) [("position", .int 0)] R))
def MR1 (d : D) (R : Rs) (s' : DSt) (R' : Rs) : Prop := s' = [some d, none, none, none] ∧ R' = R
def MR3 (x : Str) (R : Rs) (s' : DSt) (R' : Rs) : Prop := ∃ p, R p = none ∧ s' = [some (.str x), some (.ref p), none, none] ∧ R' = put R p (.lst [])
def WR (x : Str) (R : Rs) (p : Addr) (i : Nat) (s' : DSt) (R' : Rs) : Prop := ∃ j2 j3 : Option D, s' = [some (.str x), some (.ref p), j2, j3] ∧ R' = put R p (.lst ((rdRun ((tl x).take i)).reverse.map td))
theorem ok_read_tree {C : Addr} (F : Fun K "read_tree" "read_tree" s_read_tree f fd) (Z : Blt mg bl) (x_NoText : PySem.LX.Low K mg "NoText" "position" C) (c_is_tree : Cal P w K mg base 3 "is_tree" spIsTree) : FnG P w K mg base (L2.CX P w) 4 f fd ["text"] (spOf K (spRead C)) := by
  refine okX F sc_read_tree (fun ds R Q E h => by obtain ⟨d, rfl, _⟩ := h; rfl) fun cdv A outer s H E Ed gd hr tk => ?_
  refine ⟨_, (dss_cut (ds_if (dt_not (dt_val (de_callB cd_isi (by rfl) (Z _ (by decide)) bt_isi (da_cons (dv 0) (da_cons (de_ty (by rfl) (Z _ (by decide)) bt_str) da_nil))))) (dss_one (ds_raise rfl x_NoText hr tk (da_cons de_int da_nil) (by rfl))) dss_nil)
    (dss_cut (ds_asg (de_lst da_nil) (dg_name (i := 1) sc_read_tree.nd rfl (.inl rfl)))
    (dss_cons (ds_for (passes_of rfl) rfl (di_str (dv 0)) (dg_name (i := 2) sc_read_tree.nd rfl (.inl rfl)) (dss_one (ds_if (dw_and (dt_cmp od_eqS (dv 2) de_str (nomark _)) (dw_and (dt_cmp od_gt (de_callB cd_len (by rfl) (Z _ (by decide)) bt_len (da_cons (dv 1) da_nil)) de_int (nomark _)) (dw_and (dt_cmp (od_eqD hr.units) (de_ix xd_seq (dv 1) (de_un un_negD de_int) (fun _ _ => rfl)) de_str (nomark _)) (dw_and1 (dt_cmp (od_eqD hr.units) (de_ix xd_seq (dv 1) (de_un un_negD de_int) (fun _ _ => rfl)) de_str (nomark _)))))).dt (dss_cons (ds_asg (de_tup (da_cons (de_ix xd_seq (dv 1) (de_un un_negD de_int) (fun _ _ => rfl)) (da_cons (de_ix xd_seq (dv 1) (de_un un_negD de_int) (fun _ _ => rfl)) da_nil))) (dg_name (i := 3) sc_read_tree.nd rfl (.inl rfl)))
        (dss_cons (ds_delTail (by decide) (dv 1))
        (dss_one (ds_expr (de_bm PySem.F.plainAttrs_list PySem.F.slot_list_append PySem.F.type_list_append md_append (dv 1) (da_cons (dv 3) da_nil)))))) (dss_one (ds_if (dw_or (dt_cmp od_inSign (dv 2) de_str (by with_unfolding_all rfl)) (dw_or (dt_cmp (od_eqNil (DL.Room.cl hr)) (dv 1) (de_lstF da_nil) (nomark _)) (dw_or (dt_not (dt_val (de_callB cd_isi (by rfl) (Z _ (by decide)) bt_isi (da_cons (de_ix xd_seq (dv 1) (de_un un_negD de_int) (fun _ _ => rfl)) (da_cons (de_ty (by rfl) (Z _ (by decide)) bt_str) da_nil))))) (dw_or1 (dt_cmp od_inS (de_ix xd_seq (dv 1) (de_un un_negD de_int) (fun _ _ => rfl)) (de_tup (da_cons de_str (da_cons de_str da_nil))) (by with_unfolding_all rfl)))))).dt (dss_one (ds_expr (de_bm PySem.F.plainAttrs_list PySem.F.slot_list_append PySem.F.type_list_append md_append (dv 1) (da_cons (dv 2) da_nil)))) (dss_one (ds_augL (dv 1) (de_un un_negD de_int) (dv 2))))))))
    (dss_cons (ds_if (dw_or (dt_cmp od_neS (de_callB cd_len (by rfl) (Z _ (by decide)) bt_len (da_cons (dv 1) da_nil)) de_int (nomark _)) (dw_or1 (dt_not (dt_val (de_c c_is_tree gd hr (by omega) (by rfl) (da_cons (de_ix xd_seq (dv 1) de_int (fun _ _ => rfl)) da_nil)))))).dt (dss_one (ds_raise rfl x_NoText hr tk (da_cons de_int da_nil) (by rfl))) dss_nil)
    (dss_one (ds_ret (de_ix xd_seq (dv 1) de_int (fun _ _ => rfl)))))))), fun ds R Qd h => ?_⟩
  obtain ⟨d, rfl, h⟩ := h
  refine (show dCut _ _ _ _ _ from ?_)
  refine ⟨fun s' R' => MR1 d R s' R' ∧ ∃ x, d = .str x, ?_, ?_⟩
  · rcases h with ⟨x, rfl, _⟩ | ⟨hv, hn, q⟩
    · simp only [dSeq, dCallL, dLam, dJoin, dJs, dFmtS, dRepl, dRaise, dCallX, dDelTail, dAugL, dXF, dAsg, dIf, dIfS, dB, dAnd, dOr, dNot, dAndV, dOrV, dNotV, dChain, dOp, dUn, dVar, dC, rdI0, rdI, dCB, dCall, rd1, dCons, dNil, dgName, dgSub, dgTup, dgLst, dSortSet, dgCons, dgNil, rdSetL, dRet, dLst, dLstF, dTup, dDrop, dNext, dPar, dBM, dBM0, dSl, dPart, dNoPart, dstart, dwipe, List.map_cons, List.map_nil, List.length_cons, List.length_nil, List.replicate_succ, List.replicate_zero, List.cons_append, List.nil_append, List.set_cons_zero, List.set_cons_succ, List.getElem?_cons_zero, List.getElem?_cons_succ, Nat.reduceAdd, Nat.reduceSub, Option.some.injEq, D.int.injEq, D.bl.injEq, D.str.injEq, D.ref.injEq, D.ty.injEq, D.tup.injEq, D.lst.injEq, D.rls.injEq, RO.lst.injEq, List.cons.injEq, exists_and_left, exists_eq_left', exists_eq_left, and_true, true_and, put_same, put_put, at0, at1, at2, ix30, ix31, ix32, and_assoc, dLcF, dLc, dLcT, dIRng1, dIRng2, dIStr, dITup, dILst, dYes, if_true, Bool.false_eq_true, if_false, eqS_ii, neS_ii, eqS_ss, neS_ss, decide_eq_true_eq, sq_tup, sq_lst, sq_rls, lo_lst, lo_rls, tr_lst, isi_tt, isi_st, isi_nt, isi_bt, isi_it, isi_lt, isi_ts, isi_ss, isi_ns, isi_bs, isi_is, isi_ls, List.append_nil, sz0, sz1, sz2, sz3, sz4, sz5, sz6, sl0, sl1, sl2, ty_put, ty_str, lo_put, sq_put, tr_put, reduceCtorEq, false_and, and_false, exists_false, or_false, false_or, Bool.not_false, Bool.not_true, List.isEmpty_nil, List.isEmpty_cons, app1_empty]
      exact ⟨⟨rfl, rfl⟩, x, rfl⟩
    · cases d with
      | str x => exact absurd rfl (hn x)
      | ty _ => cases hv
      | ref _ => cases hv
      | rls _ => cases hv
      | ins _ _ _ => cases hv
      | dK _ _ => cases hv
      | dT _ _ => cases hv
      | lam _ => cases hv
      | _ =>
        simp only [dSeq, dCallL, dLam, dJoin, dJs, dFmtS, dRepl, dRaise, dCallX, dDelTail, dAugL, dXF, dAsg, dIf, dIfS, dB, dAnd, dOr, dNot, dAndV, dOrV, dNotV, dChain, dOp, dUn, dVar, dC, rdI0, rdI, dCB, dCall, rd1, dCons, dNil, dgName, dgSub, dgTup, dgLst, dSortSet, dgCons, dgNil, rdSetL, dRet, dLst, dLstF, dTup, dDrop, dNext, dPar, dBM, dBM0, dSl, dPart, dNoPart, dstart, dwipe, List.map_cons, List.map_nil, List.length_cons, List.length_nil, List.replicate_succ, List.replicate_zero, List.cons_append, List.nil_append, List.set_cons_zero, List.set_cons_succ, List.getElem?_cons_zero, List.getElem?_cons_succ, Nat.reduceAdd, Nat.reduceSub, Option.some.injEq, D.int.injEq, D.bl.injEq, D.str.injEq, D.ref.injEq, D.ty.injEq, D.tup.injEq, D.lst.injEq, D.rls.injEq, RO.lst.injEq, List.cons.injEq, exists_and_left, exists_eq_left', exists_eq_left, and_true, true_and, put_same, put_put, at0, at1, at2, ix30, ix31, ix32, and_assoc, dLcF, dLc, dLcT, dIRng1, dIRng2, dIStr, dITup, dILst, dYes, if_true, Bool.false_eq_true, if_false, eqS_ii, neS_ii, eqS_ss, neS_ss, decide_eq_true_eq, sq_tup, sq_lst, sq_rls, lo_lst, lo_rls, tr_lst, isi_tt, isi_st, isi_nt, isi_bt, isi_it, isi_lt, isi_ts, isi_ss, isi_ns, isi_bs, isi_is, isi_ls, List.append_nil, sz0, sz1, sz2, sz3, sz4, sz5, sz6, sl0, sl1, sl2, ty_put, ty_str, lo_put, sq_put, tr_put, reduceCtorEq, false_and, and_false, exists_false, or_false, false_or, Bool.not_false, Bool.not_true, List.isEmpty_nil, List.isEmpty_cons, app1_empty]
        exact finX q
  rintro s' R' ⟨⟨rfl, rfl⟩, x, rfl⟩
  have h : OkR x ∧ (match readT x with | some t => Qd (td t) R' | none => Ed (.ref C) [("position", .int 0)] R') := by
    rcases h with ⟨y, e, h1, h2⟩ | ⟨_, hn, _⟩
    · cases e; exact ⟨h1, h2⟩
    · exact absurd rfl (hn x)
  obtain ⟨ho, q⟩ := h
  refine ⟨MR3 x R', ?_, ?_⟩
  · simp only [dSeq, dCallL, dLam, dJoin, dJs, dFmtS, dRepl, dRaise, dCallX, dDelTail, dAugL, dXF, dAsg, dIf, dIfS, dB, dAnd, dOr, dNot, dAndV, dOrV, dNotV, dChain, dOp, dUn, dVar, dC, rdI0, rdI, dCB, dCall, rd1, dCons, dNil, dgName, dgSub, dgTup, dgLst, dSortSet, dgCons, dgNil, rdSetL, dRet, dLst, dLstF, dTup, dDrop, dNext, dPar, dBM, dBM0, dSl, dPart, dNoPart, dstart, dwipe, List.map_cons, List.map_nil, List.length_cons, List.length_nil, List.replicate_succ, List.replicate_zero, List.cons_append, List.nil_append, List.set_cons_zero, List.set_cons_succ, List.getElem?_cons_zero, List.getElem?_cons_succ, Nat.reduceAdd, Nat.reduceSub, Option.some.injEq, D.int.injEq, D.bl.injEq, D.str.injEq, D.ref.injEq, D.ty.injEq, D.tup.injEq, D.lst.injEq, D.rls.injEq, RO.lst.injEq, List.cons.injEq, exists_and_left, exists_eq_left', exists_eq_left, and_true, true_and, put_same, put_put, at0, at1, at2, ix30, ix31, ix32, and_assoc, dLcF, dLc, dLcT, dIRng1, dIRng2, dIStr, dITup, dILst, dYes, if_true, Bool.false_eq_true, if_false, eqS_ii, neS_ii, eqS_ss, neS_ss, decide_eq_true_eq, sq_tup, sq_lst, sq_rls, lo_lst, lo_rls, tr_lst, isi_tt, isi_st, isi_nt, isi_bt, isi_it, isi_lt, isi_ts, isi_ss, isi_ns, isi_bs, isi_is, isi_ls, List.append_nil, sz0, sz1, sz2, sz3, sz4, sz5, sz6, sl0, sl1, sl2, ty_put, ty_str, lo_put, sq_put, tr_put, reduceCtorEq, false_and, and_false, exists_false, or_false, false_or, Bool.not_false, Bool.not_true, List.isEmpty_nil, List.isEmpty_cons, app1_empty]
    exact fun p hp => ⟨p, hp, rfl, rfl⟩
  rintro s1 R1 ⟨p, hp, rfl, rfl⟩
  have hcl : (tl x).length = x.length := (DL.len_tl x).symm
  have hxl := ho.len
  simp only [dFor, dSeq, dCallL, dLam, dJoin, dJs, dFmtS, dRepl, dRaise, dCallX, dDelTail, dAugL, dXF, dAsg, dIf, dAndV, dOrV, dNotV, dChain, dOp, dUn, dVar, dC, rdI0, rdI, dCB, dCall, rd1, dCons, dNil, dgName, dgSub, dgTup, dgLst, dSortSet, dgCons, dgNil, rdSetL, dRet, dLst, dLstF, dTup, dDrop, dNext, dPar, dBM, dBM0, dSl, dPart, dNoPart, dstart, dwipe, List.map_cons, List.map_nil, List.length_cons, List.length_nil, List.replicate_succ, List.replicate_zero, List.cons_append, List.nil_append, List.set_cons_zero, List.set_cons_succ, List.getElem?_cons_zero, List.getElem?_cons_succ, Nat.reduceAdd, Nat.reduceSub, Option.some.injEq, D.int.injEq, D.bl.injEq, D.str.injEq, D.ref.injEq, D.ty.injEq, D.tup.injEq, D.lst.injEq, D.rls.injEq, RO.lst.injEq, List.cons.injEq, exists_and_left, exists_eq_left', exists_eq_left, and_true, true_and, put_same, put_put, at0, at1, at2, ix30, ix31, ix32, and_assoc, dLcF, dLc, dLcT, dIRng1, dIRng2, dIStr, dITup, dILst, dYes, if_true, Bool.false_eq_true, if_false, eqS_ii, neS_ii, eqS_ss, neS_ss, decide_eq_true_eq, sq_tup, sq_lst, sq_rls, lo_lst, lo_rls, tr_lst, isi_tt, isi_st, isi_nt, isi_bt, isi_it, isi_lt, isi_ts, isi_ss, isi_ns, isi_bs, isi_is, isi_ls, List.append_nil, sz0, sz1, sz2, sz3, sz4, sz5, sz6, sl0, sl1, sl2, ty_put, ty_str, lo_put, sq_put, tr_put, reduceCtorEq, false_and, and_false, exists_false, or_false, false_or, Bool.not_false, Bool.not_true, List.isEmpty_nil, List.isEmpty_cons, app1_empty]
  refine ⟨WR x R' p, ⟨none, none, rfl, rfl⟩, fun _ _ _ _ _ => trivial, ?_, ?_⟩
  · rintro i y s' R1 hy ⟨j2, j3, rfl, rfl⟩
    obtain ⟨c, rfl, hc, hi, e⟩ := take_step (l := tl x) (c := fun c => D.str ⟨#[c]⟩) hy
    have hil : i < (tl x).length := (List.getElem?_eq_some_iff.mp hi).1
    generalize hps : rdRun ((tl x).take i) = ps
    have hfl : flat ps = (tl x).take i := by rw [← hps]; exact rdRun_flat _
    have hsz : szl ps ≤ i := by have := rdRun_szl ((tl x).take i); rw [hps, List.length_take] at this; omega
    have hpl := szl_len ps
    have hok : ∀ t ∈ ps, ∀ z ∈ leaves t, PyData.strOk z = true ∧ z.length ≤ 2000 := fun t ht z hz => by
      refine ⟨strOk_of fun c' hc' => ho.cps c' ?_, ?_⟩
      · have h1 := flat_sub ht c' (txt_sub hz c' hc')
        rw [hfl] at h1
        exact List.mem_of_mem_take h1
      · have h1 := txtLeaves hz
        have h2 := flat_mem ht
        rw [hfl, List.length_take] at h2
        omega
    have hstep : ∀ R2, R2 = put R' p (.lst ((rdStep ps c).reverse.map td)) → ∀ j2 j3, WR x R' p (i + 1) [some (.str x), some (.ref p), j2, j3] R2 := fun R2 e2 j2 j3 => ⟨j2, j3, rfl, by rw [e2, e, rdRun_snoc, hps]⟩
    simp only [dSeq, dCallL, dLam, dJoin, dJs, dFmtS, dRepl, dRaise, dCallX, dDelTail, dAugL, dXF, dAsg, dIf, dAndV, dOrV, dNotV, dChain, dOp, dUn, dVar, dC, rdI0, rdI, dCB, dCall, rd1, dCons, dNil, dgName, dgSub, dgTup, dgLst, dSortSet, dgCons, dgNil, rdSetL, dRet, dLst, dLstF, dTup, dDrop, dNext, dPar, dBM, dBM0, dSl, dPart, dNoPart, dstart, dwipe, List.map_cons, List.map_nil, List.length_cons, List.length_nil, List.replicate_succ, List.replicate_zero, List.cons_append, List.nil_append, List.set_cons_zero, List.set_cons_succ, List.getElem?_cons_zero, List.getElem?_cons_succ, Nat.reduceAdd, Nat.reduceSub, Option.some.injEq, D.int.injEq, D.bl.injEq, D.str.injEq, D.ref.injEq, D.ty.injEq, D.tup.injEq, D.lst.injEq, D.rls.injEq, RO.lst.injEq, List.cons.injEq, exists_and_left, exists_eq_left', exists_eq_left, and_true, true_and, put_same, put_put, at0, at1, at2, ix30, ix31, ix32, and_assoc, dLcF, dLc, dLcT, dIRng1, dIRng2, dIStr, dITup, dILst, dYes, if_true, Bool.false_eq_true, if_false, eqS_ii, neS_ii, eqS_ss, neS_ss, decide_eq_true_eq, sq_tup, sq_lst, sq_rls, lo_lst, lo_rls, tr_lst, isi_tt, isi_st, isi_nt, isi_bt, isi_it, isi_lt, isi_ts, isi_ss, isi_ns, isi_bs, isi_is, isi_ls, List.append_nil, sz0, sz1, sz2, sz3, sz4, sz5, sz6, sl0, sl1, sl2, ty_put, ty_str, lo_put, sq_put, tr_put, reduceCtorEq, false_and, and_false, exists_false, or_false, false_or, Bool.not_false, Bool.not_true, List.isEmpty_nil, List.isEmpty_cons, app1_empty]
    have hh : c = 41 → hOk ps := fun hc => by rw [← hps]; exact ho.hs i (by rw [hi, hc])
    refine dIfS_by (closes c ps) ?_ ?_
    · intro Q q
      simp only [dSeq, dCallL, dLam, dJoin, dJs, dFmtS, dRepl, dRaise, dCallX, dDelTail, dAugL, dXF, dAsg, dIf, dIfS, dB, dAnd, dOr, dNot, dAndV, dOrV, dNotV, dChain, dOp, dUn, dVar, dC, rdI0, rdI, dCB, dCall, rd1, dCons, dNil, dgName, dgSub, dgTup, dgLst, dSortSet, dgCons, dgNil, rdSetL, dRet, dLst, dLstF, dTup, dDrop, dNext, dPar, dBM, dBM0, dSl, dPart, dNoPart, dstart, dwipe, List.map_cons, List.map_nil, List.length_cons, List.length_nil, List.replicate_succ, List.replicate_zero, List.cons_append, List.nil_append, List.set_cons_zero, List.set_cons_succ, List.getElem?_cons_zero, List.getElem?_cons_succ, Nat.reduceAdd, Nat.reduceSub, Option.some.injEq, D.int.injEq, D.bl.injEq, D.str.injEq, D.ref.injEq, D.ty.injEq, D.tup.injEq, D.lst.injEq, D.rls.injEq, RO.lst.injEq, List.cons.injEq, exists_and_left, exists_eq_left', exists_eq_left, and_true, true_and, put_same, put_put, at0, at1, at2, ix30, ix31, ix32, and_assoc, dLcF, dLc, dLcT, dIRng1, dIRng2, dIStr, dITup, dILst, dYes, if_true, Bool.false_eq_true, if_false, eqS_ii, neS_ii, eqS_ss, neS_ss, decide_eq_true_eq, sq_tup, sq_lst, sq_rls, lo_lst, lo_rls, tr_lst, isi_tt, isi_st, isi_nt, isi_bt, isi_it, isi_lt, isi_ts, isi_ss, isi_ns, isi_bs, isi_is, isi_ls, List.append_nil, sz0, sz1, sz2, sz3, sz4, sz5, sz6, sl0, sl1, sl2, ty_put, ty_str, lo_put, sq_put, tr_put, reduceCtorEq, false_and, and_false, exists_false, or_false, false_or, Bool.not_false, Bool.not_true, List.isEmpty_nil, List.isEmpty_cons, app1_empty]
      by_cases h41 : c = 41
      · rw [if_pos (sgn_rp.mpr h41)]
        obtain ⟨hh3, hh1⟩ := hh h41
        match ps, hok, hh3, hh1, q with
        | [], _, _, _, q => rw [if_neg (by simp)]; exact q
        | [_], _, _, _, q => rw [if_neg (by simp)]; exact q
        | [_, _], _, _, _, q => rw [if_neg (by simp)]; exact q
        | [_, _, _], _, _, _, q => rw [if_neg (by simp)]; exact q
        | r :: sp :: l :: op :: rest, hok, hh3, hh1, q =>
          rw [if_pos (by simp; omega), rev4] at *
          obtain ⟨a4, a3, a2, a1⟩ := atL4 (rest.reverse.map td) (td op) (td l) (td sp) (td r)
          refine ⟨_, a4, eqTS (u := leaf lpS) (fun z hz => (hok op (by simp) z hz).1) (okL _ (by decide +kernel)) (hh3 op rfl) (by simp [height]) ⟨_, rfl, ?_⟩⟩
          rw [show closes c (r :: sp :: l :: op :: rest) = (decide (op = leaf lpS) && decide (sp = leaf spS)) from by simp [closes, h41]] at q
          by_cases hop : op = leaf lpS
          · rw [decide_eq_true hop, if_pos rfl]
            rw [decide_eq_true hop, Bool.true_and] at q
            exact ⟨_, sq_put, _, a2, eqTS (u := leaf spS) (fun z hz => (hok sp (by simp) z hz).1) (okL _ (by decide +kernel)) (hh1 sp rfl) (by simp [height]) ⟨_, rfl, q⟩⟩
          · rw [decide_eq_false hop, if_neg (by simp)]
            rw [decide_eq_false hop, Bool.false_and] at q
            exact q
      · rw [if_neg (fun z => h41 (sgn_rp.mp z))]
        have e0 : closes c ps = false := by unfold closes; split <;> simp [h41]
        rw [e0] at q
        exact q
    · by_cases hcl : closes c ps = true
      · rw [if_pos hcl]
        obtain ⟨r, l, rest, hc41, rfl⟩ := closes_of hcl
        simp only [dSeq, dCallL, dLam, dJoin, dJs, dFmtS, dRepl, dRaise, dCallX, dDelTail, dAugL, dXF, dAsg, dIf, dIfS, dB, dAnd, dOr, dNot, dAndV, dOrV, dNotV, dChain, dOp, dUn, dVar, dC, rdI0, rdI, dCB, dCall, rd1, dCons, dNil, dgName, dgSub, dgTup, dgLst, dSortSet, dgCons, dgNil, rdSetL, dRet, dLst, dLstF, dTup, dDrop, dNext, dPar, dBM, dBM0, dSl, dPart, dNoPart, dstart, dwipe, List.map_cons, List.map_nil, List.length_cons, List.length_nil, List.replicate_succ, List.replicate_zero, List.cons_append, List.nil_append, List.set_cons_zero, List.set_cons_succ, List.getElem?_cons_zero, List.getElem?_cons_succ, Nat.reduceAdd, Nat.reduceSub, Option.some.injEq, D.int.injEq, D.bl.injEq, D.str.injEq, D.ref.injEq, D.ty.injEq, D.tup.injEq, D.lst.injEq, D.rls.injEq, RO.lst.injEq, List.cons.injEq, exists_and_left, exists_eq_left', exists_eq_left, and_true, true_and, put_same, put_put, at0, at1, at2, ix30, ix31, ix32, and_assoc, dLcF, dLc, dLcT, dIRng1, dIRng2, dIStr, dITup, dILst, dYes, if_true, Bool.false_eq_true, if_false, eqS_ii, neS_ii, eqS_ss, neS_ss, decide_eq_true_eq, sq_tup, sq_lst, sq_rls, lo_lst, lo_rls, tr_lst, isi_tt, isi_st, isi_nt, isi_bt, isi_it, isi_lt, isi_ts, isi_ss, isi_ns, isi_bs, isi_is, isi_ls, List.append_nil, sz0, sz1, sz2, sz3, sz4, sz5, sz6, sl0, sl1, sl2, ty_put, ty_str, lo_put, sq_put, tr_put, reduceCtorEq, false_and, and_false, exists_false, or_false, false_or, Bool.not_false, Bool.not_true, List.isEmpty_nil, List.isEmpty_cons, app1_empty]
        rw [rev4]
        obtain ⟨a4, a3, a2, a1⟩ := atL4 (rest.reverse.map td) (td (leaf lpS)) (td l) (td (leaf spS)) (td r)
        refine ⟨_, a3, _, a1, by simp, ?_⟩
        have e4 : (rest.reverse.map td ++ [td (leaf lpS), td l, td (leaf spS), td r]).take ((rest.reverse.map td ++ [td (leaf lpS), td l, td (leaf spS), td r]).length - 4) = rest.reverse.map td := by
          rw [show (rest.reverse.map td ++ [td (leaf lpS), td l, td (leaf spS), td r]).length - 4 = (rest.reverse.map td).length by simp]
          exact List.take_left' rfl
        simp only [e4, dSeq, dCallL, dLam, dJoin, dJs, dFmtS, dRepl, dRaise, dCallX, dDelTail, dAugL, dXF, dAsg, dIf, dIfS, dB, dAnd, dOr, dNot, dAndV, dOrV, dNotV, dChain, dOp, dUn, dVar, dC, rdI0, rdI, dCB, dCall, rd1, dCons, dNil, dgName, dgSub, dgTup, dgLst, dSortSet, dgCons, dgNil, rdSetL, dRet, dLst, dLstF, dTup, dDrop, dNext, dPar, dBM, dBM0, dSl, dPart, dNoPart, dstart, dwipe, List.map_cons, List.map_nil, List.length_cons, List.length_nil, List.replicate_succ, List.replicate_zero, List.cons_append, List.nil_append, List.set_cons_zero, List.set_cons_succ, List.getElem?_cons_zero, List.getElem?_cons_succ, Nat.reduceAdd, Nat.reduceSub, Option.some.injEq, D.int.injEq, D.bl.injEq, D.str.injEq, D.ref.injEq, D.ty.injEq, D.tup.injEq, D.lst.injEq, D.rls.injEq, RO.lst.injEq, List.cons.injEq, exists_and_left, exists_eq_left', exists_eq_left, and_true, true_and, put_same, put_put, at0, at1, at2, ix30, ix31, ix32, and_assoc, dLcF, dLc, dLcT, dIRng1, dIRng2, dIStr, dITup, dILst, dYes, if_true, Bool.false_eq_true, if_false, eqS_ii, neS_ii, eqS_ss, neS_ss, decide_eq_true_eq, sq_tup, sq_lst, sq_rls, lo_lst, lo_rls, tr_lst, isi_tt, isi_st, isi_nt, isi_bt, isi_it, isi_lt, isi_ts, isi_ss, isi_ns, isi_bs, isi_is, isi_ls, List.append_nil, sz0, sz1, sz2, sz3, sz4, sz5, sz6, sl0, sl1, sl2, ty_put, ty_str, lo_put, sq_put, tr_put, reduceCtorEq, false_and, and_false, exists_false, or_false, false_or, Bool.not_false, Bool.not_true, List.isEmpty_nil, List.isEmpty_cons, app1_empty]
        refine ⟨?_, hstep _ ?_ _ _⟩
        · simp only [List.length_map, List.length_reverse, List.length_cons, sizeLine_eq] at *; omega
        · unfold rdStep; rw [if_pos hcl]; simp [closeTop, td]
      · rw [if_neg hcl]
        have hr0 : rdStep ps c = if pushB c ps = true then leaf (lstr c) :: ps else growTop c ps := by unfold rdStep; rw [if_neg hcl]
        refine dIfS_by (pushB c ps) ?_ ?_
        · intro Q q
          simp only [rdNil, rdInS, dSeq, dCallL, dLam, dJoin, dJs, dFmtS, dRepl, dRaise, dCallX, dDelTail, dAugL, dXF, dAsg, dIf, dIfS, dB, dAnd, dOr, dNot, dAndV, dOrV, dNotV, dChain, dOp, dUn, dVar, dC, rdI0, rdI, dCB, dCall, rd1, dCons, dNil, dgName, dgSub, dgTup, dgLst, dSortSet, dgCons, dgNil, rdSetL, dRet, dLst, dLstF, dTup, dDrop, dNext, dPar, dBM, dBM0, dSl, dPart, dNoPart, dstart, dwipe, List.map_cons, List.map_nil, List.length_cons, List.length_nil, List.replicate_succ, List.replicate_zero, List.cons_append, List.nil_append, List.set_cons_zero, List.set_cons_succ, List.getElem?_cons_zero, List.getElem?_cons_succ, Nat.reduceAdd, Nat.reduceSub, Option.some.injEq, D.int.injEq, D.bl.injEq, D.str.injEq, D.ref.injEq, D.ty.injEq, D.tup.injEq, D.lst.injEq, D.rls.injEq, RO.lst.injEq, List.cons.injEq, exists_and_left, exists_eq_left', exists_eq_left, and_true, true_and, put_same, put_put, at0, at1, at2, ix30, ix31, ix32, and_assoc, dLcF, dLc, dLcT, dIRng1, dIRng2, dIStr, dITup, dILst, dYes, if_true, Bool.false_eq_true, if_false, eqS_ii, neS_ii, eqS_ss, neS_ss, decide_eq_true_eq, sq_tup, sq_lst, sq_rls, lo_lst, lo_rls, tr_lst, isi_tt, isi_st, isi_nt, isi_bt, isi_it, isi_lt, isi_ts, isi_ss, isi_ns, isi_bs, isi_is, isi_ls, List.append_nil, sz0, sz1, sz2, sz3, sz4, sz5, sz6, sl0, sl1, sl2, ty_put, ty_str, lo_put, sq_put, tr_put, reduceCtorEq, false_and, and_false, exists_false, or_false, false_or, Bool.not_false, Bool.not_true, List.isEmpty_nil, List.isEmpty_cons, app1_empty]
          refine ⟨c, rfl, ?_⟩
          by_cases hs : c = 40 ∨ c = 32
          · rw [if_pos (sgn_in.mpr hs)]
            rw [show pushB c ps = true from by unfold pushB; split <;> simp [hs]] at q
            exact q
          · rw [if_neg (fun z => hs (sgn_in.mp z))]
            match ps, q with
            | [], q => rw [if_pos (by rfl)]; exact q
            | t :: rest, q =>
              rw [rev1] at *
              rw [if_neg (by simp)]
              refine ⟨_, atL1 _ _, ?_⟩
              cases t with
              | node l r =>
                simp only [td_node, dSeq, dCallL, dLam, dJoin, dJs, dFmtS, dRepl, dRaise, dCallX, dDelTail, dAugL, dXF, dAsg, dIf, dIfS, dB, dAnd, dOr, dNot, dAndV, dOrV, dNotV, dChain, dOp, dUn, dVar, dC, rdI0, rdI, dCB, dCall, rd1, dCons, dNil, dgName, dgSub, dgTup, dgLst, dSortSet, dgCons, dgNil, rdSetL, dRet, dLst, dLstF, dTup, dDrop, dNext, dPar, dBM, dBM0, dSl, dPart, dNoPart, dstart, dwipe, List.map_cons, List.map_nil, List.length_cons, List.length_nil, List.replicate_succ, List.replicate_zero, List.cons_append, List.nil_append, List.set_cons_zero, List.set_cons_succ, List.getElem?_cons_zero, List.getElem?_cons_succ, Nat.reduceAdd, Nat.reduceSub, Option.some.injEq, D.int.injEq, D.bl.injEq, D.str.injEq, D.ref.injEq, D.ty.injEq, D.tup.injEq, D.lst.injEq, D.rls.injEq, RO.lst.injEq, List.cons.injEq, exists_and_left, exists_eq_left', exists_eq_left, and_true, true_and, put_same, put_put, at0, at1, at2, ix30, ix31, ix32, and_assoc, dLcF, dLc, dLcT, dIRng1, dIRng2, dIStr, dITup, dILst, dYes, if_true, Bool.false_eq_true, if_false, eqS_ii, neS_ii, eqS_ss, neS_ss, decide_eq_true_eq, sq_tup, sq_lst, sq_rls, lo_lst, lo_rls, tr_lst, isi_tt, isi_st, isi_nt, isi_bt, isi_it, isi_lt, isi_ts, isi_ss, isi_ns, isi_bs, isi_is, isi_ls, List.append_nil, sz0, sz1, sz2, sz3, sz4, sz5, sz6, sl0, sl1, sl2, ty_put, ty_str, lo_put, sq_put, tr_put, reduceCtorEq, false_and, and_false, exists_false, or_false, false_or, Bool.not_false, Bool.not_true, List.isEmpty_nil, List.isEmpty_cons, app1_empty]
                exact q
              | leaf wd =>
                simp only [td_leaf, dSeq, dCallL, dLam, dJoin, dJs, dFmtS, dRepl, dRaise, dCallX, dDelTail, dAugL, dXF, dAsg, dIf, dIfS, dB, dAnd, dOr, dNot, dAndV, dOrV, dNotV, dChain, dOp, dUn, dVar, dC, rdI0, rdI, dCB, dCall, rd1, dCons, dNil, dgName, dgSub, dgTup, dgLst, dSortSet, dgCons, dgNil, rdSetL, dRet, dLst, dLstF, dTup, dDrop, dNext, dPar, dBM, dBM0, dSl, dPart, dNoPart, dstart, dwipe, List.map_cons, List.map_nil, List.length_cons, List.length_nil, List.replicate_succ, List.replicate_zero, List.cons_append, List.nil_append, List.set_cons_zero, List.set_cons_succ, List.getElem?_cons_zero, List.getElem?_cons_succ, Nat.reduceAdd, Nat.reduceSub, Option.some.injEq, D.int.injEq, D.bl.injEq, D.str.injEq, D.ref.injEq, D.ty.injEq, D.tup.injEq, D.lst.injEq, D.rls.injEq, RO.lst.injEq, List.cons.injEq, exists_and_left, exists_eq_left', exists_eq_left, and_true, true_and, put_same, put_put, at0, at1, at2, ix30, ix31, ix32, and_assoc, dLcF, dLc, dLcT, dIRng1, dIRng2, dIStr, dITup, dILst, dYes, if_true, Bool.false_eq_true, if_false, eqS_ii, neS_ii, eqS_ss, neS_ss, decide_eq_true_eq, sq_tup, sq_lst, sq_rls, lo_lst, lo_rls, tr_lst, isi_tt, isi_st, isi_nt, isi_bt, isi_it, isi_lt, isi_ts, isi_ss, isi_ns, isi_bs, isi_is, isi_ls, List.append_nil, sz0, sz1, sz2, sz3, sz4, sz5, sz6, sl0, sl1, sl2, ty_put, ty_str, lo_put, sq_put, tr_put, reduceCtorEq, false_and, and_false, exists_false, or_false, false_or, Bool.not_false, Bool.not_true, List.isEmpty_nil, List.isEmpty_cons, app1_empty]
                refine ⟨_, atL1 _ _, wd, rfl, [lpS, spS], rfl, ?_⟩
                rw [show pushB c (leaf wd :: rest) = decide (wd ∈ [lpS, spS]) from by
                  simp only [pushB, decide_eq_false hs, Bool.false_or, isMark]
                  by_cases h1 : wd = lpS
                  · simp [h1]
                  · by_cases h2 : wd = spS <;> simp [h1, h2]] at q
                exact q
        · by_cases hp1 : pushB c ps = true
          · rw [if_pos hp1]
            simp only [dSeq, dCallL, dLam, dJoin, dJs, dFmtS, dRepl, dRaise, dCallX, dDelTail, dAugL, dXF, dAsg, dIf, dIfS, dB, dAnd, dOr, dNot, dAndV, dOrV, dNotV, dChain, dOp, dUn, dVar, dC, rdI0, rdI, dCB, dCall, rd1, dCons, dNil, dgName, dgSub, dgTup, dgLst, dSortSet, dgCons, dgNil, rdSetL, dRet, dLst, dLstF, dTup, dDrop, dNext, dPar, dBM, dBM0, dSl, dPart, dNoPart, dstart, dwipe, List.map_cons, List.map_nil, List.length_cons, List.length_nil, List.replicate_succ, List.replicate_zero, List.cons_append, List.nil_append, List.set_cons_zero, List.set_cons_succ, List.getElem?_cons_zero, List.getElem?_cons_succ, Nat.reduceAdd, Nat.reduceSub, Option.some.injEq, D.int.injEq, D.bl.injEq, D.str.injEq, D.ref.injEq, D.ty.injEq, D.tup.injEq, D.lst.injEq, D.rls.injEq, RO.lst.injEq, List.cons.injEq, exists_and_left, exists_eq_left', exists_eq_left, and_true, true_and, put_same, put_put, at0, at1, at2, ix30, ix31, ix32, and_assoc, dLcF, dLc, dLcT, dIRng1, dIRng2, dIStr, dITup, dILst, dYes, if_true, Bool.false_eq_true, if_false, eqS_ii, neS_ii, eqS_ss, neS_ss, decide_eq_true_eq, sq_tup, sq_lst, sq_rls, lo_lst, lo_rls, tr_lst, isi_tt, isi_st, isi_nt, isi_bt, isi_it, isi_lt, isi_ts, isi_ss, isi_ns, isi_bs, isi_is, isi_ls, List.append_nil, sz0, sz1, sz2, sz3, sz4, sz5, sz6, sl0, sl1, sl2, ty_put, ty_str, lo_put, sq_put, tr_put, reduceCtorEq, false_and, and_false, exists_false, or_false, false_or, Bool.not_false, Bool.not_true, List.isEmpty_nil, List.isEmpty_cons, app1_empty]
            refine ⟨by simp only [List.length_map, List.length_reverse, sizeLine_eq]; omega, hstep _ ?_ _ _⟩
            rw [hr0, if_pos hp1]
            simp [td, lstr]
          · rw [if_neg hp1]
            obtain ⟨wd, rest, rfl, _⟩ := pushB_no (by simpa using hp1)
            simp only [dSeq, dCallL, dLam, dJoin, dJs, dFmtS, dRepl, dRaise, dCallX, dDelTail, dAugL, dXF, dAsg, dIf, dIfS, dB, dAnd, dOr, dNot, dAndV, dOrV, dNotV, dChain, dOp, dUn, dVar, dC, rdI0, rdI, dCB, dCall, rd1, dCons, dNil, dgName, dgSub, dgTup, dgLst, dSortSet, dgCons, dgNil, rdSetL, dRet, dLst, dLstF, dTup, dDrop, dNext, dPar, dBM, dBM0, dSl, dPart, dNoPart, dstart, dwipe, List.map_cons, List.map_nil, List.length_cons, List.length_nil, List.replicate_succ, List.replicate_zero, List.cons_append, List.nil_append, List.set_cons_zero, List.set_cons_succ, List.getElem?_cons_zero, List.getElem?_cons_succ, Nat.reduceAdd, Nat.reduceSub, Option.some.injEq, D.int.injEq, D.bl.injEq, D.str.injEq, D.ref.injEq, D.ty.injEq, D.tup.injEq, D.lst.injEq, D.rls.injEq, RO.lst.injEq, List.cons.injEq, exists_and_left, exists_eq_left', exists_eq_left, and_true, true_and, put_same, put_put, at0, at1, at2, ix30, ix31, ix32, and_assoc, dLcF, dLc, dLcT, dIRng1, dIRng2, dIStr, dITup, dILst, dYes, if_true, Bool.false_eq_true, if_false, eqS_ii, neS_ii, eqS_ss, neS_ss, decide_eq_true_eq, sq_tup, sq_lst, sq_rls, lo_lst, lo_rls, tr_lst, isi_tt, isi_st, isi_nt, isi_bt, isi_it, isi_lt, isi_ts, isi_ss, isi_ns, isi_bs, isi_is, isi_ls, List.append_nil, sz0, sz1, sz2, sz3, sz4, sz5, sz6, sl0, sl1, sl2, ty_put, ty_str, lo_put, sq_put, tr_put, reduceCtorEq, false_and, and_false, exists_false, or_false, false_or, Bool.not_false, Bool.not_true, List.isEmpty_nil, List.isEmpty_cons, app1_empty]
            have hwl := (hok (leaf wd) (by simp) wd (by simp [leaves])).2
            rw [rev1]
            refine ⟨wd, atL1 _ _, ?_, _, ixNeg (k := 1) (by decide) (by simp), hstep _ ?_ _ _⟩
            · show wd.length + 1 ≤ sizeLine
              rw [sizeLine_eq]; omega
            · rw [hr0, if_neg hp1, growTop]
              simp only [List.length_append, List.length_singleton, Nat.add_sub_cancel]
              rw [List.set_append_right _ _ (Nat.le_refl _), Nat.sub_self, List.set_cons_zero, rev1]
              rfl
  · rintro s' R1 ⟨j2, j3, rfl, rfl⟩
    rw [List.length_map, show x.cps.toList.length = (tl x).length from rfl, List.take_length]
    generalize hps : rdRun (tl x) = ps
    have hfl : flat ps = tl x := by rw [← hps]; exact rdRun_flat _
    have hsz : szl ps ≤ (tl x).length := by rw [← hps]; exact rdRun_szl _
    have hq : readT x = readOf ps := by unfold readT; rw [hps]
    clear hps
    have bad : readT x = none → FinX Ed (.ref C) [("position", .int 0)] (put R' p (.lst (ps.reverse.map td))) := fun e => by
      rw [e] at q
      exact finXS (sub_put hp) q
    simp only [dSeq, dCallL, dLam, dJoin, dJs, dFmtS, dRepl, dRaise, dCallX, dDelTail, dAugL, dXF, dAsg, dIf, dIfS, dB, dAnd, dOr, dNot, dAndV, dOrV, dNotV, dChain, dOp, dUn, dVar, dC, rdI0, rdI, dCB, dCall, rd1, dCons, dNil, dgName, dgSub, dgTup, dgLst, dSortSet, dgCons, dgNil, rdSetL, dRet, dLst, dLstF, dTup, dDrop, dNext, dPar, dBM, dBM0, dSl, dPart, dNoPart, dstart, dwipe, List.map_cons, List.map_nil, List.length_cons, List.length_nil, List.replicate_succ, List.replicate_zero, List.cons_append, List.nil_append, List.set_cons_zero, List.set_cons_succ, List.getElem?_cons_zero, List.getElem?_cons_succ, Nat.reduceAdd, Nat.reduceSub, Option.some.injEq, D.int.injEq, D.bl.injEq, D.str.injEq, D.ref.injEq, D.ty.injEq, D.tup.injEq, D.lst.injEq, D.rls.injEq, RO.lst.injEq, List.cons.injEq, exists_and_left, exists_eq_left', exists_eq_left, and_true, true_and, put_same, put_put, at0, at1, at2, ix30, ix31, ix32, and_assoc, dLcF, dLc, dLcT, dIRng1, dIRng2, dIStr, dITup, dILst, dYes, if_true, Bool.false_eq_true, if_false, eqS_ii, neS_ii, eqS_ss, neS_ss, decide_eq_true_eq, sq_tup, sq_lst, sq_rls, lo_lst, lo_rls, tr_lst, isi_tt, isi_st, isi_nt, isi_bt, isi_it, isi_lt, isi_ts, isi_ss, isi_ns, isi_bs, isi_is, isi_ls, List.append_nil, sz0, sz1, sz2, sz3, sz4, sz5, sz6, sl0, sl1, sl2, ty_put, ty_str, lo_put, sq_put, tr_put, reduceCtorEq, false_and, and_false, exists_false, or_false, false_or, Bool.not_false, Bool.not_true, List.isEmpty_nil, List.isEmpty_cons, app1_empty]
    match ps, hfl, hsz, hq, bad with
    | [], hfl, hsz, hq, bad => rw [if_pos (by rfl)]; exact bad hq
    | [t], hfl, hsz, hq, bad =>
      rw [if_neg (by simp)]
      have htx : txt t = tl x := by simpa [flat] using hfl
      have es : szl [t] = size t := by simp [szl]
      have hs : size t ≤ 2000 := by omega
      have hlv : ∀ z ∈ leaves t, z.length ≤ 2000 := fun z hz => by have := txtLeaves hz; rw [htx] at this; omega
      refine ⟨_, at0, td t, rfl, vdB_td hlv, by have := vsz_td t; omega, _, rfl, ?_⟩
      cases hd : isTD none (td t) with
      | false =>
        rw [if_pos (by decide)]
        exact bad (by rw [hq]; simp [readOf, hd])
      | true =>
        rw [if_neg (by decide)]
        have e1 : readT x = some t := by rw [hq]; simp [readOf, hd]
        rw [e1] at q
        exact ⟨_, sq_put, _, at0, finS (sub_put hp) q⟩
    | a :: b :: r, hfl, hsz, hq, bad => rw [if_pos (by simp; omega)]; exact bad hq
end

end Law
end
section
set_option Elab.async false
set_option maxRecDepth 100000
set_option maxHeartbeats 4000000
set_option linter.all false
set_option autoImplicit false
namespace Law
open PySem PySem.Spec PyProof.Rows L2 DL TL TrA TrA.Tr
section
variable [TabCtx] {P : Program} {w : World} {K : KB} {mg : Str → Option Value} {base : Heap} {f : Addr} {fd : FuncData}
/-! ### the law's own reading -/
def wordS (cs : List Nat) : Str := ⟨cs.toArray⟩
theorem tl_word (cs : List Nat) : tl (wordS cs) = cs := by show cs.toArray.toList = cs; simp
theorem word_tl (x : Str) : wordS (tl x) = x := tl_inj (tl_word _)
def prsW (cs : List Nat) : Option (T × List Nat) := if nmB (wordS (cs.takeWhile letB)) = true then some (leaf (wordS (cs.takeWhile letB)), cs.drop (cs.takeWhile letB).length) else none
def thenC (c : Nat) : Option (T × List Nat) → Option (T × List Nat)
  | some (t, d :: rest) => if d = c then some (t, rest) else none
  | _ => none
theorem thenC_of {c : Nat} {r : Option (T × List Nat)} {t : T} {rest : List Nat} (h : thenC c r = some (t, rest)) : r = some (t, c :: rest) := by
  unfold thenC at h
  split at h
  · split at h
    · rename_i e; cases h; rw [e]
    · cases h
  · cases h
theorem thenC_mk {c : Nat} {t : T} {rest : List Nat} : thenC c (some (t, c :: rest)) = some (t, rest) := by simp [thenC]
def prs : Nat → List Nat → Option (T × List Nat)
  | 0, _ => none
  | n + 1, cs => if cs.head? = some 40 then (thenC 32 (prs n cs.tail)).bind fun a => (thenC 41 (prs n a.2)).map fun b => (node a.1 b.1, b.2) else prsW cs
theorem prs_succ (n : Nat) (cs : List Nat) : prs (n + 1) cs = if cs.head? = some 40 then (thenC 32 (prs n cs.tail)).bind fun a => (thenC 41 (prs n a.2)).map fun b => (node a.1 b.1, b.2) else prsW cs := rfl
theorem drop_tw (p : Nat → Bool) : ∀ cs : List Nat, cs = cs.takeWhile p ++ cs.drop (cs.takeWhile p).length
  | [] => rfl
  | c :: cs => by
    by_cases h : p c = true
    · rw [List.takeWhile_cons_of_pos h, List.length_cons, List.drop_succ_cons, List.cons_append, ← drop_tw p cs]
    · rw [List.takeWhile_cons_of_neg h]; rfl
theorem prs_sound : ∀ (n : Nat) (cs : List Nat) (t : T) (rest : List Nat), prs n cs = some (t, rest) → cs = txt t ++ rest ∧ isTD none (td t) = true := by
  intro n
  induction n with
  | zero => intro cs t rest h; cases h
  | succ n ih =>
    intro cs t rest h
    rw [prs_succ] at h
    split at h
    · rename_i h40
      obtain ⟨a, e1, h⟩ := Option.bind_eq_some_iff.mp h
      obtain ⟨b, e2, h⟩ := Option.map_eq_some_iff.mp h
      obtain ⟨l, cs2⟩ := a
      obtain ⟨r, cs3⟩ := b
      cases h
      obtain ⟨h1, h2⟩ := ih _ _ _ (thenC_of e1)
      obtain ⟨h3, h4⟩ := ih _ _ _ (thenC_of e2)
      refine ⟨?_, by simp [td, isTD, h2, h4]⟩
      cases cs with
      | nil => cases h40
      | cons c cs =>
        simp only [List.head?_cons, Option.some.injEq] at h40
        simp only [List.tail_cons] at h1
        rw [h40, h1]
        simp only at h3
        rw [h3]
        simp [txt]
    · unfold prsW at h
      split at h
      · rename_i g
        cases h
        refine ⟨?_, by simp [td, isTD, okC, g]⟩
        rw [txt, tl_word]
        exact drop_tw letB cs
      · cases h
def stopR : List Nat → Prop
  | [] => True
  | c :: _ => letB c = false
theorem takeW {w rest : List Nat} (h : w.all letB = true) (hr : stopR rest) : (w ++ rest).takeWhile letB = w := by
  induction w with
  | nil =>
    cases rest with
    | nil => rfl
    | cons c r => simp only [List.nil_append]; rw [List.takeWhile_cons_of_neg]; rw [show letB c = false from hr]; simp
  | cons a w ih =>
    rw [List.all_cons, Bool.and_eq_true] at h
    rw [List.cons_append, List.takeWhile_cons_of_pos h.1, ih h.2]
theorem nmB_all {x : Str} (h : nmB x = true) : (tl x).all letB = true ∧ tl x ≠ [] := by
  unfold nmB at h
  simp only [Bool.and_eq_true, decide_eq_true_eq] at h
  refine ⟨h.2, fun e => ?_⟩
  have := h.1.1.1
  rw [DL.len_tl, e] at this
  simp at this
theorem let40 {c : Nat} (h : letB c = true) : c ≠ 40 ∧ c ≠ 32 ∧ c ≠ 41 := by
  have := letB_iff.mp h
  unfold Let at this
  omega
theorem prs_comp : ∀ (n : Nat) (t : T) (rest : List Nat), isTD none (td t) = true → stopR rest → (txt t ++ rest).length < n → prs n (txt t ++ rest) = some (t, rest) := by
  intro n
  induction n with
  | zero => intro t rest _ _ h; omega
  | succ n ih =>
    intro t rest hg hr hl
    cases t with
    | leaf x =>
      have hn : nmB x = true := by simpa [td, isTD, okC] using hg
      obtain ⟨ha, hne⟩ := nmB_all hn
      have e1 : ((tl x) ++ rest).takeWhile letB = tl x := takeW ha hr
      rw [txt, prs_succ, if_neg ?_]
      · unfold prsW
        rw [e1, word_tl, if_pos hn, List.drop_left]
      · cases hx : tl x with
        | nil => exact absurd hx hne
        | cons a r =>
          rw [hx, List.all_cons, Bool.and_eq_true] at ha
          intro e
          exact (let40 ha.1).1 (by simpa using e)
    | node l r =>
      have hg2 : isTD none (td l) = true ∧ isTD none (td r) = true := by simpa [td, isTD] using hg
      have el : txt (node l r) ++ rest = 40 :: (txt l ++ 32 :: (txt r ++ 41 :: rest)) := by simp [txt]
      rw [el] at hl ⊢
      simp only [List.length_cons, List.length_append] at hl
      rw [prs_succ, if_pos (by rfl)]
      have i1 := ih l (32 :: (txt r ++ 41 :: rest)) hg2.1 (by show letB 32 = false; decide +kernel) (by simp only [List.length_cons, List.length_append]; omega)
      have i2 := ih r (41 :: rest) hg2.2 (by show letB 41 = false; decide +kernel) (by simp only [List.length_cons, List.length_append]; omega)
      rw [List.tail_cons, i1, thenC_mk]
      simp only [Option.bind_some]
      rw [i2, thenC_mk]
      rfl
/-- read, from a stack whose top does not take letters -/
def takes (ps : List T) : Prop := match ps with
  | [] => True
  | t :: _ => isMark t = true
theorem run_word (w : List Nat) (hw : w.all letB = true) : ∀ (v : Str) (ps : List T), isMark (leaf v) = false → (w.foldl rdStep (leaf v :: ps)) = leaf (wordS (tl v ++ w)) :: ps := by
  induction w with
  | nil => intro v ps _; simp [word_tl]
  | cons c w ih =>
    intro v ps hv
    rw [List.all_cons, Bool.and_eq_true] at hw
    obtain ⟨h40, h32, h41⟩ := let40 hw.1
    have e1 : rdStep (leaf v :: ps) c = leaf (v ++ lstr c) :: ps := by
      unfold rdStep
      have c1 : closes c (leaf v :: ps) = false := by unfold closes; split <;> simp [h41]
      have c2 : pushB c (leaf v :: ps) = false := by simp [pushB, h40, h32, hv]
      simp [c1, c2, growTop]
    rw [List.foldl_cons, e1, ih hw.2]
    · rw [tl_app, tl_lstr, List.append_assoc]; rfl
    · unfold isMark
      rw [Bool.or_eq_false_iff, decide_eq_false_iff_not, decide_eq_false_iff_not]
      constructor
      · intro h
        have : tl (v ++ lstr c) = [40] := by rw [h]; exact tl_lp
        rw [tl_app, tl_lstr] at this
        have h2 := congrArg List.getLast? this
        simp at h2; omega
      · intro h
        have : tl (v ++ lstr c) = [32] := by rw [h]; exact tl_sp
        rw [tl_app, tl_lstr] at this
        have h2 := congrArg List.getLast? this
        simp at h2; omega
theorem run_tree : ∀ (t : T) (ps : List T), isTD none (td t) = true → takes ps → (txt t).foldl rdStep ps = t :: ps := by
  intro t
  induction t with
  | leaf x =>
    intro ps hg hp
    have hn : nmB x = true := by simpa [td, isTD, okC] using hg
    obtain ⟨ha, hne⟩ := nmB_all hn
    rw [txt]
    cases hx : tl x with
    | nil => exact absurd hx hne
    | cons c w =>
      rw [hx, List.all_cons, Bool.and_eq_true] at ha
      obtain ⟨h40, h32, h41⟩ := let40 ha.1
      have e1 : rdStep ps c = leaf (lstr c) :: ps := by
        unfold rdStep
        have c1 : closes c ps = false := by unfold closes; split <;> simp [h41]
        have c2 : pushB c ps = true := by
          unfold pushB
          split
          · rename_i w2 r2; unfold takes at hp; simp at hp; simp [hp]
          · rfl
        simp [c1, c2]
      rw [List.foldl_cons, e1, run_word w ha.2]
      · rw [tl_lstr, List.singleton_append, ← hx, word_tl]
      · unfold isMark
        rw [Bool.or_eq_false_iff, decide_eq_false_iff_not, decide_eq_false_iff_not]
        constructor
        · intro h; have : tl (lstr c) = [40] := by rw [h]; exact tl_lp
          rw [tl_lstr] at this; simp at this; omega
        · intro h; have : tl (lstr c) = [32] := by rw [h]; exact tl_sp
          rw [tl_lstr] at this; simp at this; omega
  | node l r il ir =>
    intro ps hg hp
    have hg2 : isTD none (td l) = true ∧ isTD none (td r) = true := by simpa [td, isTD] using hg
    have e40 : rdStep ps 40 = leaf lpS :: ps := by
      unfold rdStep
      have c1 : closes 40 ps = false := by unfold closes; split <;> simp
      have c2 : pushB 40 ps = true := by unfold pushB; split <;> simp
      simp only [c1, c2, Bool.false_eq_true, if_false, if_true]
      rw [show lstr 40 = lpS from by decide +kernel]
    have e32 : rdStep (l :: leaf lpS :: ps) 32 = leaf spS :: l :: leaf lpS :: ps := by
      unfold rdStep
      have c1 : closes 32 (l :: leaf lpS :: ps) = false := by unfold closes; split <;> simp
      have c2 : pushB 32 (l :: leaf lpS :: ps) = true := by unfold pushB; split <;> simp
      simp only [c1, c2, Bool.false_eq_true, if_false, if_true]
      rw [show lstr 32 = spS from by decide +kernel]
    have e41 : rdStep (r :: leaf spS :: l :: leaf lpS :: ps) 41 = node l r :: ps := by
      unfold rdStep
      have c1 : closes 41 (r :: leaf spS :: l :: leaf lpS :: ps) = true := by simp [closes]
      simp [c1, closeTop]
    rw [txt, List.foldl_cons, e40, List.foldl_append, il _ hg2.1 (by simp [takes, isMark]), List.foldl_cons, e32, List.foldl_append, ir _ hg2.2 (by simp [takes, isMark])]
    exact e41
theorem readT_comp {x : Str} {t : T} (h : tl x = txt t) (hg : isTD none (td t) = true) : readT x = some t := by
  unfold readT rdRun
  rw [h, run_tree t [] hg trivial]
  simp [readOf, hg]
def dueT (x : Str) (n : Nat) : Option T := match prs n (tl x) with
  | some (t, []) => some t
  | _ => none
theorem due_read {x : Str} {n : Nat} (hn : (tl x).length < n) : dueT x n = readT x := by
  cases h : readT x with
  | some t =>
    obtain ⟨h1, h2⟩ := readT_txt h
    have := prs_comp n t [] h2 trivial (by rw [List.append_nil, h1]; exact hn)
    rw [List.append_nil, h1] at this
    unfold dueT
    rw [this]
  | none =>
    unfold dueT
    split
    · rename_i t e
      obtain ⟨h1, h2⟩ := prs_sound _ _ _ _ e
      rw [List.append_nil] at h1
      rw [readT_comp h1 h2] at h
      cases h
    · rfl
end

end Law
end
section
set_option Elab.async false
set_option maxRecDepth 100000
set_option maxHeartbeats 4000000
set_option linter.all false
set_option autoImplicit false
namespace Law
open PySem PySem.Spec PyProof.Rows L2 DL TL TrA TrA.Tr
section
variable [TabCtx] {P : Program} {w : World} {K : KB} {mg : Str → Option Value} {base : Heap} {f : Addr} {fd : FuncData}
theorem tl_cut {x : Str} {i j : Nat} : tl (cutS x (some (i : Int)) (some (j : Int))) = ((tl x).drop i).take (j - i) := by
  show (Array.toList (List.toArray _)) = _
  rw [HT.sIx_nat, HT.sIx_nat]
  have hl : x.length = (tl x).length := DL.len_tl x
  rw [hl]
  show ((tl x).drop _).take _ = _
  rcases Nat.lt_or_ge i (tl x).length with h | h
  · rw [Nat.min_eq_left (Nat.le_of_lt h)]
    rcases Nat.lt_or_ge j (tl x).length with h2 | h2
    · rw [Nat.min_eq_left (Nat.le_of_lt h2)]
    · rw [Nat.min_eq_right h2, List.take_of_length_le (by rw [List.length_drop]; omega), List.take_of_length_le (by rw [List.length_drop]; omega)]
  · rw [Nat.min_eq_right h, List.drop_length, List.drop_of_length_le h]; simp
theorem cut_one {x : Str} {i : Nat} {y : Str} {c : Nat} (hy : tl y = [c]) : cutS x (some (i : Int)) (some ((i : Int) + 1)) = y ↔ ((tl x).drop i).head? = some c := by
  have e : cutS x (some (i : Int)) (some ((i : Int) + 1)) = cutS x (some (i : Int)) (some ((i + 1 : Nat) : Int)) := by rfl
  rw [e]
  constructor
  · intro h
    have := tl_cut (x := x) (i := i) (j := i + 1)
    rw [h, hy, show i + 1 - i = 1 by omega] at this
    cases hd : (tl x).drop i with
    | nil => rw [hd] at this; simp at this
    | cons a r => rw [hd] at this; simp at this; simp [this]
  · intro h
    apply tl_inj
    rw [tl_cut, hy, show i + 1 - i = 1 by omega]
    cases hd : (tl x).drop i with
    | nil => rw [hd] at h; cases h
    | cons a r => rw [hd] at h; simp at h; simp [h]
abbrev s_law_text : Stmt := top 19
abbrev n_law_text : List Str := ["_law_tree_here"]
theorem sc_law_text : FnScope n_law_text ["_law_tree_here"] (defScope s_law_text) := ⟨rfl, rfl, rfl, by decide +kernel, rfl, by decide +kernel, by decide +kernel⟩
def spLawText (n : Nat) : DSp := fun ds R Q _ => ∃ t : T, ds = [td t] ∧ size t ≤ n ∧ (txt t).length ≤ 100000 ∧ Q (.str (wordS (txt t))) R
theorem word_app (a b : List Nat) : wordS a ++ wordS b = wordS (a ++ b) := tl_inj (by rw [tl_app, tl_word, tl_word, tl_word])
theorem word_len (a : List Nat) : (wordS a).length = a.length := by rw [DL.len_tl, tl_word]
theorem w40 : (Str.ofString "(") = wordS [40] := by decide +kernel
theorem w32 : (Str.ofString " ") = wordS [32] := by decide +kernel
theorem w41 : (Str.ofString ")") = wordS [41] := by decide +kernel
theorem step_law_text {n : Nat} (F : Fun K "_law_text" "_law_text" s_law_text f fd) (Z : Blt mg bl) (c_law_text : Cal P w K mg base n "_law_text" (spLawText n)) : FnG P w K mg base CX0 (n + 1) f fd ["_law_tree_here"] (spOf K (spLawText (n + 1))) := by
  refine okD F sc_law_text (fun ds R Q E h => by obtain ⟨t, rfl, _⟩ := h; rfl) fun cdv A outer s H E gd hr => ?_
  refine ⟨_, (dss_one (ds_ret (de_if (dt_val (de_callB cd_isi (by rfl) (Z _ (by decide)) bt_isi (da_cons (dv 0) (da_cons (de_ty (by rfl) (Z _ (by decide)) bt_tuple) da_nil)))) (de_op od_adds (de_op od_adds (de_op od_adds (de_op od_adds de_str (de_c c_law_text gd hr (by omega) (by rfl) (da_cons (de_ix xd_seq (dv 0) de_int (fun _ _ => rfl)) da_nil))) de_str) (de_c c_law_text gd hr (by omega) (by rfl) (da_cons (de_ix xd_seq (dv 0) de_int (fun _ _ => rfl)) da_nil))) de_str) (dv 0)))), fun ds R Qd Ed h => ?_⟩
  obtain ⟨t, rfl, h1, h2, q⟩ := h
  cases t with
  | leaf x =>
    simp only [td_leaf, dSeq, dCallL, dLam, dJoin, dJs, dFmtS, dRepl, dRaise, dCallX, dDelTail, dAugL, dXF, dAsg, dIf, dIfS, dB, dAnd, dOr, dNot, dAndV, dOrV, dNotV, dChain, dOp, dUn, dVar, dC, rdI0, rdI, dCB, dCall, rd1, dCons, dNil, dgName, dgSub, dgTup, dgLst, dSortSet, dgCons, dgNil, rdSetL, dRet, dLst, dLstF, dTup, dDrop, dNext, dPar, dBM, dBM0, dSl, dPart, dNoPart, dstart, dwipe, List.map_cons, List.map_nil, List.length_cons, List.length_nil, List.replicate_succ, List.replicate_zero, List.cons_append, List.nil_append, List.set_cons_zero, List.set_cons_succ, List.getElem?_cons_zero, List.getElem?_cons_succ, Nat.reduceAdd, Nat.reduceSub, Option.some.injEq, D.int.injEq, D.bl.injEq, D.str.injEq, D.ref.injEq, D.ty.injEq, D.tup.injEq, D.lst.injEq, D.rls.injEq, RO.lst.injEq, List.cons.injEq, exists_and_left, exists_eq_left', exists_eq_left, and_true, true_and, put_same, put_put, at0, at1, at2, ix30, ix31, ix32, and_assoc, dLcF, dLc, dLcT, dIRng1, dIRng2, dIStr, dITup, dILst, dYes, if_true, Bool.false_eq_true, if_false, eqS_ii, neS_ii, eqS_ss, neS_ss, decide_eq_true_eq, sq_tup, sq_lst, sq_rls, lo_lst, lo_rls, tr_lst, isi_tt, isi_st, isi_nt, isi_bt, isi_it, isi_lt, isi_ts, isi_ss, isi_ns, isi_bs, isi_is, isi_ls, List.append_nil, sz0, sz1, sz2, sz3, sz4, sz5, sz6, sl0, sl1, sl2, ty_put, ty_str, lo_put, sq_put, tr_put, reduceCtorEq, false_and, and_false, exists_false, or_false, false_or, Bool.not_false, Bool.not_true, List.isEmpty_nil, List.isEmpty_cons, app1_empty]
    rw [txt, word_tl] at q
    exact fin q
  | node l r =>
    have sl := size_pos l
    have sr := size_pos r
    have su : size (node l r) = size l + size r := rfl
    simp only [txt, List.length_cons, List.length_append, List.length_nil] at h2
    simp only [td_node, dSeq, dCallL, dLam, dJoin, dJs, dFmtS, dRepl, dRaise, dCallX, dDelTail, dAugL, dXF, dAsg, dIf, dIfS, dB, dAnd, dOr, dNot, dAndV, dOrV, dNotV, dChain, dOp, dUn, dVar, dC, rdI0, rdI, dCB, dCall, rd1, dCons, dNil, dgName, dgSub, dgTup, dgLst, dSortSet, dgCons, dgNil, rdSetL, dRet, dLst, dLstF, dTup, dDrop, dNext, dPar, dBM, dBM0, dSl, dPart, dNoPart, dstart, dwipe, List.map_cons, List.map_nil, List.length_cons, List.length_nil, List.replicate_succ, List.replicate_zero, List.cons_append, List.nil_append, List.set_cons_zero, List.set_cons_succ, List.getElem?_cons_zero, List.getElem?_cons_succ, Nat.reduceAdd, Nat.reduceSub, Option.some.injEq, D.int.injEq, D.bl.injEq, D.str.injEq, D.ref.injEq, D.ty.injEq, D.tup.injEq, D.lst.injEq, D.rls.injEq, RO.lst.injEq, List.cons.injEq, exists_and_left, exists_eq_left', exists_eq_left, and_true, true_and, put_same, put_put, at0, at1, at2, ix30, ix31, ix32, and_assoc, dLcF, dLc, dLcT, dIRng1, dIRng2, dIStr, dITup, dILst, dYes, if_true, Bool.false_eq_true, if_false, eqS_ii, neS_ii, eqS_ss, neS_ss, decide_eq_true_eq, sq_tup, sq_lst, sq_rls, lo_lst, lo_rls, tr_lst, isi_tt, isi_st, isi_nt, isi_bt, isi_it, isi_lt, isi_ts, isi_ss, isi_ns, isi_bs, isi_is, isi_ls, List.append_nil, sz0, sz1, sz2, sz3, sz4, sz5, sz6, sl0, sl1, sl2, ty_put, ty_str, lo_put, sq_put, tr_put, reduceCtorEq, false_and, and_false, exists_false, or_false, false_or, Bool.not_false, Bool.not_true, List.isEmpty_nil, List.isEmpty_cons, app1_empty]
    refine ⟨l, rfl, by omega, by omega, _, rfl, ?_, ?_, r, rfl, by omega, by omega, _, rfl, ?_, ?_, fin ?_⟩
    all_goals simp only [w40, w32, w41, word_app, word_len, List.length_append, List.length_cons, List.length_nil, sizeLine_eq]
    · omega
    · omega
    · omega
    · omega
    · have e : [40] ++ txt l ++ [32] ++ txt r ++ [41] = txt (node l r) := by simp [txt]
      rw [e]; exact q
theorem ok_law_text (F : Fun K "_law_text" "_law_text" s_law_text f fd) (Z : Blt mg bl) (hm : mg "_law_text" = some (.ref f)) (bd : Binds K fd ["_law_tree_here"] []) : ∀ n : Nat, FnG P w K mg base CX0 n f fd ["_law_tree_here"] (spOf K (spLawText n))
  | 0 => fnG_none fun ds R Q E ⟨t, _, h0, _⟩ => by have := size_pos t; omega
  | n + 1 => step_law_text F Z ⟨_, _, _, ok_law_text F Z hm bd n, hm, F.kp, bd⟩
end

end Law
end
section
set_option Elab.async false
set_option maxRecDepth 100000
set_option maxHeartbeats 4000000
set_option linter.all false
set_option autoImplicit false
namespace Law
open PySem PySem.Spec PyProof.Rows L2 DL TL TrA TrA.Tr
section
variable [TabCtx] {P : Program} {w : World} {K : KB} {mg : Str → Option Value} {base : Heap} {f : Addr} {fd : FuncData}
theorem height_txt : ∀ t : T, 3 * height t ≤ (txt t).length
  | leaf _ => by simp [height]
  | node l r => by
    have := height_txt l; have := height_txt r
    simp only [height, txt, List.length_cons, List.length_append, List.length_nil]; omega
theorem okR_small {x : Str} (h : x.length ≤ 190) (hc : ∀ c ∈ tl x, c < 128) : OkR x := by
  have hl : x.length = (tl x).length := DL.len_tl x
  refine ⟨by omega, fun c m => by have := hc c m; omega, fun i hi => ?_⟩
  have key : ∀ t ∈ rdRun ((tl x).take i), height t ≤ 64 := fun t ht => by
    have h1 := flat_mem ht
    rw [rdRun_flat, List.length_take] at h1
    have := height_txt t
    omega
  exact ⟨fun t e => key t (List.mem_of_getElem? e), fun t e => key t (List.mem_of_getElem? e)⟩
def Asc (x : Str) : Prop := ∀ c ∈ tl x, c < 128
theorem asc_app {a b : Str} (h1 : Asc a) (h2 : Asc b) : Asc (a ++ b) := fun c hc => by
  rw [tl_app] at hc
  rcases List.mem_append.mp hc with z | z
  · exact h1 c z
  · exact h2 c z
theorem app_len (a b : Str) : (a ++ b).length = a.length + b.length := by rw [DL.len_tl, tl_app, List.length_append, ← DL.len_tl, ← DL.len_tl]
theorem tl_cutL {x : Str} {k : Nat} : tl (cutS x none (some (k : Int))) = (tl x).take k := by
  show (Array.toList (List.toArray _)) = _
  rw [HT.sIx_nat, HT.sIx_none, show x.length = (tl x).length from DL.len_tl x]
  show ((tl x).drop 0).take (min k (tl x).length - 0) = _
  rw [List.drop_zero, Nat.sub_zero]
  rcases Nat.le_total k (tl x).length with h | h
  · rw [Nat.min_eq_left h]
  · rw [Nat.min_eq_right h, List.take_length, List.take_of_length_le h]
theorem tl_cutR {x : Str} {k : Nat} : tl (cutS x (some (k : Int)) none) = (tl x).drop k := by
  show (Array.toList (List.toArray _)) = _
  rw [HT.sIx_nat, HT.sIx_none, show x.length = (tl x).length from DL.len_tl x]
  show ((tl x).drop _).take _ = _
  rw [List.take_of_length_le (by rw [List.length_drop]; omega)]
  rcases Nat.le_total k (tl x).length with h | h
  · rw [Nat.min_eq_left h]
  · rw [Nat.min_eq_right h, List.drop_length, List.drop_of_length_le h]
theorem cutL {x : Str} {k : Nat} (h : Asc x) : Asc (cutS x none (some (k : Int))) ∧ (cutS x none (some (k : Int))).length = min k x.length := by
  refine ⟨fun c hc => h c (by rw [tl_cutL] at hc; exact List.mem_of_mem_take hc), ?_⟩
  rw [DL.len_tl, tl_cutL, List.length_take, ← DL.len_tl]
theorem cutR {x : Str} {k : Nat} (h : Asc x) : Asc (cutS x (some (k : Int)) none) ∧ (cutS x (some (k : Int)) none).length = x.length - k := by
  refine ⟨fun c hc => h c (by rw [tl_cutR] at hc; exact List.mem_of_mem_drop hc), ?_⟩
  rw [DL.len_tl, tl_cutR, List.length_drop, ← DL.len_tl]
theorem sm0 : Sm 0 0 (.int 0) := ⟨rfl, rfl, by decide +kernel, by simp [D.py, PyData.depth], by simp [D.py, PyData.weight]⟩
theorem sm_tdG {t : T} (h : ∀ x ∈ leaves t, PyData.strOk x = true ∧ x.length ≤ 6) : Sm (height t) (8 * size t - 2) (td t) := by
  induction t with
  | leaf x => exact Sm.str (h x (by simp [leaves])).1 (by have := (h x (by simp [leaves])).2; simp only [size]; omega)
  | node l r il ir =>
    have a := il fun x hx => h x (by simp [leaves, hx])
    have b := ir fun x hx => h x (by simp [leaves, hx])
    exact (Sm.tup (Sms.cons (a.mono (h' := max (height l) (height r)) (by omega) (Nat.le_refl _)) (Sms.cons (b.mono (h' := max (height l) (height r)) (by omega) (Nat.le_refl _)) Sms.nil (w' := 0)))).mono (by simp only [height]; omega) (by have := size_pos l; have := size_pos r; simp only [size]; omega)
theorem isTD_leaves {t : T} (h : isTD none (td t) = true) : ∀ x ∈ leaves t, nmB x = true := by
  induction t with
  | leaf x => intro y hy; have e : y = x := by simpa [leaves] using hy
              rw [e]; simpa [td, isTD, okC] using h
  | node l r il ir =>
    have h2 : isTD none (td l) = true ∧ isTD none (td r) = true := by simpa [td, isTD] using h
    intro y hy
    rcases List.mem_append.mp hy with z | z
    · exact il h2.1 y z
    · exact ir h2.2 y z
theorem size_txt {t : T} (h : isTD none (td t) = true) : size t ≤ (txt t).length := by
  induction t with
  | leaf x =>
    have hn : nmB x = true := by simpa [td, isTD, okC] using h
    obtain ⟨_, hne⟩ := nmB_all hn
    have := List.length_pos_iff.mpr hne
    simp only [size, txt]; omega
  | node l r il ir =>
    have h2 : isTD none (td l) = true ∧ isTD none (td r) = true := by simpa [td, isTD] using h
    have := il h2.1; have := ir h2.2
    simp only [size, txt, List.length_cons, List.length_append]; omega
theorem txt_lenN {t : T} (h : NT t) : (txt t).length + 3 ≤ 9 * size t := by
  induction t with
  | leaf x => have := (h x (by simp [leaves])).len; simp only [txt, size, ← DL.len_tl]; omega
  | node l r il ir =>
    have := il h.l; have := ir h.r
    simp only [txt, size, List.length_cons, List.length_append, List.length_nil]; omega
theorem txt_asc {t : T} (h : NT t) : ∀ c ∈ txt t, c < 128 := by
  induction t with
  | leaf x => intro c hc; have := (h x (by simp [leaves])).all c hc; unfold Let at this; omega
  | node l r il ir =>
    intro c hc
    simp only [txt, List.mem_cons, List.mem_append, List.not_mem_nil, or_false] at hc
    rcases hc with rfl | z | rfl | z | rfl
    · decide
    · exact il h.l c z
    · decide
    · exact ir h.r c z
    · decide
theorem asc_cut {x : Str} (h : Asc x) (lo hi : Option Int) : Asc (cutS x lo hi) ∧ (cutS x lo hi).length ≤ x.length := by
  refine ⟨fun c hc => h c ?_, cutS_length x lo hi⟩
  have e : tl (cutS x lo hi) = ((tl x).drop (HT.sIx x.length 0 lo)).take (HT.sIx x.length x.length hi - HT.sIx x.length 0 lo) := by show (Array.toList (List.toArray _)) = _; simp [tl]
  rw [e] at hc
  exact List.mem_of_mem_drop (List.mem_of_mem_take hc)
end

end Law
end
section
set_option Elab.async false
set_option maxRecDepth 100000
set_option maxHeartbeats 4000000
set_option linter.all false
set_option autoImplicit false
namespace Law
open PySem PySem.Spec PyProof.Rows L2 DL TL TrA TrA.Tr
section
variable [TabCtx] {P : Program} {w : World} {K : KB} {mg : Str → Option Value} {base : Heap} {f : Addr} {fd : FuncData}
/-! ### folded -/
theorem put_flip {R : Rs} {a b : Addr} {x y z : RO} (h : b ≠ a) : put (put (put R a x) b y) a z = put (put R a z) b y := by
  funext c; unfold put
  by_cases h1 : c = a
  · subst h1; simp [Ne.symm h]
  · by_cases h2 : c = b
    · subst h2; simp [h1]
    · simp [h1, h2]
theorem put_in {R : Rs} {a b : Addr} {x y : RO} (h : b ≠ a) : put (put R a x) b y a = some x := by rw [put_ne (Ne.symm h), put_same]
/-- a fold: what a leaf gives, what a pair gives, when they may be asked -/
structure Fo where
  gl : Str → D
  gp : D → D → D
  okl : Str → Prop
  okp : D → D → Prop
def Fo.v (o : Fo) : T → D
  | leaf x => o.gl x
  | node l r => o.gp (o.v l) (o.v r)
def Fo.ok (o : Fo) : T → Prop
  | leaf x => o.okl x
  | node l r => o.ok l ∧ o.ok r ∧ o.okp (o.v l) (o.v r)
def stps : T → Nat
  | leaf _ => 1
  | node l r => 2 + stps l + stps r
theorem stps_le (t : T) : stps t + 2 ≤ 3 * size t := by
  induction t with
  | leaf _ => simp [stps, size]
  | node l r il ir => simp only [stps, size]; omega
theorem stps_pos (t : T) : 0 < stps t := by cases t <;> simp [stps] <;> omega
def wt : T × Bool → Nat
  | (t, false) => stps t
  | (_, true) => 1
def wts (p : List (T × Bool)) : Nat := (p.map wt).sum
def Fo.Ex (o : Fo) (g : D) : List (T × Bool) → List D → Prop
  | [], vs => vs = [g]
  | (t, false) :: p, vs => o.ok t ∧ o.Ex g p (o.v t :: vs)
  | (_, true) :: p, r :: l :: vs => o.okp l r ∧ o.Ex g p (o.gp l r :: vs)
  | (_, true) :: _, _ => False
def itD (e : T × Bool) : D := .tup [td e.1, .bl e.2]
def spLeaf (o : Fo) : DSp := fun ds R Q _ => ∃ x, ds = [.str x] ∧ o.okl x ∧ Q (o.gl x) R
def spPair (o : Fo) : DSp := fun ds R Q _ => ∃ a b, ds = [a, b] ∧ o.okp a b ∧ Q (o.gp a b) R
def spFolded (o : Fo) (L1 L2 : Lam) : DSp := fun ds R Q _ => ∃ t, ds = [td t, .lam L1, .lam L2] ∧ size t ≤ 2000 ∧ o.ok t ∧ Q (o.v t) R
abbrev s_folded : Stmt := top 10
abbrev n_folded : List Str := ["tree", "of_leaf", "of_pair", "values", "waiting", "part", "is_ready", "right", "left"]
theorem sc_folded : FnScope n_folded ["tree", "of_leaf", "of_pair"] (defScope s_folded) := ⟨rfl, rfl, rfl, by decide +kernel, rfl, by decide +kernel, by decide +kernel⟩
def M1F (t : T) (L1 L2 : Lam) (R : Rs) (s' : DSt) (R' : Rs) : Prop := ∃ p1 p2, R p1 = none ∧ R p2 = none ∧ p2 ≠ p1 ∧ ∃ j5 j6 j7 j8 : Option D, s' = [some (td t), some (.lam L1), some (.lam L2), some (.ref p1), some (.ref p2), j5, j6, j7, j8] ∧ R' = put (put R p1 (.lst [])) p2 (.lst [itD (t, false)])
def WF (o : Fo) (t : T) (L1 L2 : Lam) (R : Rs) (p1 p2 : Addr) (m : Nat) (s' : DSt) (R' : Rs) : Prop := ∃ (pend : List (T × Bool)) (vs : List D), ∃ j5 j6 j7 j8 : Option D,
  s' = [some (td t), some (.lam L1), some (.lam L2), some (.ref p1), some (.ref p2), j5, j6, j7, j8] ∧ R' = put (put R p1 (.lst vs.reverse)) p2 (.lst (pend.map itD).reverse) ∧ o.Ex (o.v t) pend vs ∧ m = wts pend ∧ vs.length + m ≤ 6000
theorem ok_folded {o : Fo} {L1 L2 : Lam} {k : Nat} (F : Fun K "folded" "folded" s_folded f fd) (Z : Blt mg bl) (l_of_leaf : LamP P w K mg base k L1 (spLeaf o)) (l_of_pair : LamP P w K mg base k L2 (spPair o)) : FnG P w K mg base CX0 (k + 1) f fd ["tree", "of_leaf", "of_pair"] (spOf K (spFolded o L1 L2)) := by
  refine okD F sc_folded (fun ds R Q E h => by obtain ⟨t, rfl, _⟩ := h; rfl) fun cdv A outer s H E gd hr => ?_
  refine ⟨_, (dss_cut (ds_par (i := 3) (j := 4) rfl sc_folded.nd rfl rfl (by decide) rfl rfl (da_cons (de_lst da_nil) (da_cons (de_lst (da_cons (de_tup (da_cons (dv 0) (da_cons de_bl da_nil))) da_nil)) da_nil)) rfl)
    (dss_cons (ds_while PassesOwn.never (dt_cmp (od_neNil (DL.Room.cl hr)) (dv 4) (de_lstF da_nil) (nomark _)) (dss_cons (ds_asg (de_bm0 PySem.F.plainAttrs_list PySem.F.slot_list_pop PySem.F.type_list_pop md_pop (dv 4)) (dg_tup (n := 2) rfl (dgs_cons (dg_name (i := 5) sc_folded.nd rfl (.inl rfl)) (dgs_cons (dg_name (i := 6) sc_folded.nd rfl (.inl rfl)) dgs_nil))))
      (dss_one (ds_if (dt_val (dv 6)) (dss_cons (ds_par (i := 7) (j := 8) rfl sc_folded.nd rfl rfl (by decide) rfl rfl (da_cons (de_bm0 PySem.F.plainAttrs_list PySem.F.slot_list_pop PySem.F.type_list_pop md_pop (dv 3)) (da_cons (de_bm0 PySem.F.plainAttrs_list PySem.F.slot_list_pop PySem.F.type_list_pop md_pop (dv 3)) da_nil)) rfl)
        (dss_one (ds_expr (de_bm PySem.F.plainAttrs_list PySem.F.slot_list_append PySem.F.type_list_append md_append (dv 3) (da_cons (de_callL 2 l_of_pair gd hr (by omega) (da_cons (dv 8) (da_cons (dv 7) da_nil))) da_nil))))) (dss_one (ds_if (dt_val (de_callB cd_isi (by rfl) (Z _ (by decide)) bt_isi (da_cons (dv 5) (da_cons (de_ty (by rfl) (Z _ (by decide)) bt_tuple) da_nil)))) (dss_one (ds_expr (de_bm PySem.F.plainAttrs_list PySem.F.slot_list_extend PySem.F.type_list_extend md_extend (dv 4) (da_cons (de_lstF (da_cons (de_tup (da_cons (dv 5) (da_cons de_bl da_nil))) (da_cons (de_tup (da_cons (de_ix xd_seq (dv 5) de_int (fun _ _ => rfl)) (da_cons de_bl da_nil))) (da_cons (de_tup (da_cons (de_ix xd_seq (dv 5) de_int (fun _ _ => rfl)) (da_cons de_bl da_nil))) da_nil)))) da_nil)))) (dss_one (ds_expr (de_bm PySem.F.plainAttrs_list PySem.F.slot_list_append PySem.F.type_list_append md_append (dv 3) (da_cons (de_callL 1 l_of_leaf gd hr (by omega) (da_cons (dv 5) da_nil)) da_nil))))))))))
    (dss_one (ds_ret (de_ix xd_seq (dv 3) de_int (fun _ _ => rfl)))))), fun ds R Qd Ed h => ?_⟩
  obtain ⟨t, rfl, hs, ho, q⟩ := h
  refine (show dCut _ _ _ _ _ from ?_)
  refine ⟨M1F t L1 L2 R, ?_, ?_⟩
  · simp only [dSeq, dCallL, dLam, dJoin, dJs, dFmtS, dRepl, dRaise, dCallX, dDelTail, dAugL, dXF, dAsg, dIf, dIfS, dB, dAnd, dOr, dNot, dAndV, dOrV, dNotV, dChain, dOp, dUn, dVar, dC, rdI0, rdI, dCB, dCall, rd1, dCons, dNil, dgName, dgSub, dgTup, dgLst, dSortSet, dgCons, dgNil, rdSetL, dRet, dLst, dLstF, dTup, dDrop, dNext, dPar, dBM, dBM0, dSl, dPart, dNoPart, dstart, dwipe, List.map_cons, List.map_nil, List.length_cons, List.length_nil, List.replicate_succ, List.replicate_zero, List.cons_append, List.nil_append, List.set_cons_zero, List.set_cons_succ, List.getElem?_cons_zero, List.getElem?_cons_succ, Nat.reduceAdd, Nat.reduceSub, Option.some.injEq, D.int.injEq, D.bl.injEq, D.str.injEq, D.ref.injEq, D.ty.injEq, D.tup.injEq, D.lst.injEq, D.rls.injEq, RO.lst.injEq, List.cons.injEq, exists_and_left, exists_eq_left', exists_eq_left, and_true, true_and, put_same, put_put, at0, at1, at2, ix30, ix31, ix32, and_assoc, dLcF, dLc, dLcT, dIRng1, dIRng2, dIStr, dITup, dILst, dYes, if_true, Bool.false_eq_true, if_false, eqS_ii, neS_ii, eqS_ss, neS_ss, decide_eq_true_eq, sq_tup, sq_lst, sq_rls, lo_lst, lo_rls, tr_lst, isi_tt, isi_st, isi_nt, isi_bt, isi_it, isi_lt, isi_ts, isi_ss, isi_ns, isi_bs, isi_is, isi_ls, List.append_nil, sz0, sz1, sz2, sz3, sz4, sz5, sz6, sl0, sl1, sl2, ty_put, ty_str, lo_put, sq_put, tr_put, reduceCtorEq, false_and, and_false, exists_false, or_false, false_or, Bool.not_false, Bool.not_true, List.isEmpty_nil, List.isEmpty_cons, app1_empty]
    intro p1 h1 p2 h2
    have hne : p2 ≠ p1 := by intro z; subst z; rw [put_same] at h2; cases h2
    rw [put_ne hne] at h2
    exact ⟨p1, p2, h1, h2, hne, _, _, _, _, rfl, rfl⟩
  rintro s1 R1 ⟨p1, p2, h1, h2, hne, j5, j6, j7, j8, rfl, rfl⟩
  simp only [dSeq, dCallL, dLam, dJoin, dJs, dFmtS, dRepl, dRaise, dCallX, dDelTail, dAugL, dXF, dAsg, dIf, dIfS, dB, dAnd, dOr, dNot, dAndV, dOrV, dNotV, dChain, dOp, dUn, dVar, dC, rdI0, rdI, dCB, dCall, rd1, dCons, dNil, dgName, dgSub, dgTup, dgLst, dSortSet, dgCons, dgNil, rdSetL, dRet, dLst, dLstF, dTup, dDrop, dNext, dPar, dBM, dBM0, dSl, dPart, dNoPart, dstart, dwipe, List.map_cons, List.map_nil, List.length_cons, List.length_nil, List.replicate_succ, List.replicate_zero, List.cons_append, List.nil_append, List.set_cons_zero, List.set_cons_succ, List.getElem?_cons_zero, List.getElem?_cons_succ, Nat.reduceAdd, Nat.reduceSub, Option.some.injEq, D.int.injEq, D.bl.injEq, D.str.injEq, D.ref.injEq, D.ty.injEq, D.tup.injEq, D.lst.injEq, D.rls.injEq, RO.lst.injEq, List.cons.injEq, exists_and_left, exists_eq_left', exists_eq_left, and_true, true_and, put_same, put_put, at0, at1, at2, ix30, ix31, ix32, and_assoc, dLcF, dLc, dLcT, dIRng1, dIRng2, dIStr, dITup, dILst, dYes, if_true, Bool.false_eq_true, if_false, eqS_ii, neS_ii, eqS_ss, neS_ss, decide_eq_true_eq, sq_tup, sq_lst, sq_rls, lo_lst, lo_rls, tr_lst, isi_tt, isi_st, isi_nt, isi_bt, isi_it, isi_lt, isi_ts, isi_ss, isi_ns, isi_bs, isi_is, isi_ls, List.append_nil, sz0, sz1, sz2, sz3, sz4, sz5, sz6, sl0, sl1, sl2, ty_put, ty_str, lo_put, sq_put, tr_put, reduceCtorEq, false_and, and_false, exists_false, or_false, false_or, Bool.not_false, Bool.not_true, List.isEmpty_nil, List.isEmpty_cons, app1_empty]
  have hst := stps_le t
  refine ⟨WF o t L1 L2 R p1 p2, ⟨_, [(t, false)], [], _, _, _, _, rfl, rfl, ⟨ho, rfl⟩, rfl, by simp only [wts, wt, List.map_cons, List.map_nil, List.sum_cons, List.sum_nil, List.length_nil]; omega⟩, ?_⟩
  rintro m s' R' ⟨pend, vs, j5, j6, j7, j8, rfl, rfl, ex, rfl, hm⟩
  have ty1 : ∀ {a b : List D}, TyD "list" (D.ref p1) (put (put R p1 (RO.lst a)) p2 (RO.lst b)) := .inl ⟨rfl, _, put_in hne⟩
  cases pend with
  | nil =>
    cases (show vs = [o.v t] from ex)
    simp only [rdNil, List.reverse_nil, dSeq, dCallL, dLam, dJoin, dJs, dFmtS, dRepl, dRaise, dCallX, dDelTail, dAugL, dXF, dAsg, dIf, dIfS, dB, dAnd, dOr, dNot, dAndV, dOrV, dNotV, dChain, dOp, dUn, dVar, dC, rdI0, rdI, dCB, dCall, rd1, dCons, dNil, dgName, dgSub, dgTup, dgLst, dSortSet, dgCons, dgNil, rdSetL, dRet, dLst, dLstF, dTup, dDrop, dNext, dPar, dBM, dBM0, dSl, dPart, dNoPart, dstart, dwipe, List.map_cons, List.map_nil, List.length_cons, List.length_nil, List.replicate_succ, List.replicate_zero, List.cons_append, List.nil_append, List.set_cons_zero, List.set_cons_succ, List.getElem?_cons_zero, List.getElem?_cons_succ, Nat.reduceAdd, Nat.reduceSub, Option.some.injEq, D.int.injEq, D.bl.injEq, D.str.injEq, D.ref.injEq, D.ty.injEq, D.tup.injEq, D.lst.injEq, D.rls.injEq, RO.lst.injEq, List.cons.injEq, exists_and_left, exists_eq_left', exists_eq_left, and_true, true_and, put_same, put_put, at0, at1, at2, ix30, ix31, ix32, and_assoc, dLcF, dLc, dLcT, dIRng1, dIRng2, dIStr, dITup, dILst, dYes, if_true, Bool.false_eq_true, if_false, eqS_ii, neS_ii, eqS_ss, neS_ss, decide_eq_true_eq, sq_tup, sq_lst, sq_rls, lo_lst, lo_rls, tr_lst, isi_tt, isi_st, isi_nt, isi_bt, isi_it, isi_lt, isi_ts, isi_ss, isi_ns, isi_bs, isi_is, isi_ls, List.append_nil, sz0, sz1, sz2, sz3, sz4, sz5, sz6, sl0, sl1, sl2, ty_put, ty_str, lo_put, sq_put, tr_put, reduceCtorEq, false_and, and_false, exists_false, or_false, false_or, Bool.not_false, Bool.not_true, List.isEmpty_nil, List.isEmpty_cons, app1_empty]
    refine ⟨[o.v t], seqOf_lst (put_in hne), _, rfl, finS (fun a ro e => ?_) q⟩
    have e1 : a ≠ p1 := by intro z; subst z; rw [h1] at e; cases e
    have e2 : a ≠ p2 := by intro z; subst z; rw [h2] at e; cases e
    rw [put_ne e2, put_ne e1]; exact e
  | cons e pend =>
    obtain ⟨u, b⟩ := e
    have hp : pend.length ≤ wts pend := by
      clear ex hm
      induction pend with
      | nil => simp [wts]
      | cons e p ih => obtain ⟨x, c⟩ := e; have := stps_pos x; cases c <;> simp only [wts, wt, List.map_cons, List.sum_cons, List.length_cons] at * <;> omega
    have hw : wts ((u, b) :: pend) = wt (u, b) + wts pend := by simp [wts]
    simp only [rdNil, List.reverse_cons, dSeq, dCallL, dLam, dJoin, dJs, dFmtS, dRepl, dRaise, dCallX, dDelTail, dAugL, dXF, dAsg, dIf, dIfS, dB, dAnd, dOr, dNot, dAndV, dOrV, dNotV, dChain, dOp, dUn, dVar, dC, rdI0, rdI, dCB, dCall, rd1, dCons, dNil, dgName, dgSub, dgTup, dgLst, dSortSet, dgCons, dgNil, rdSetL, dRet, dLst, dLstF, dTup, dDrop, dNext, dPar, dBM, dBM0, dSl, dPart, dNoPart, dstart, dwipe, List.map_cons, List.map_nil, List.length_cons, List.length_nil, List.replicate_succ, List.replicate_zero, List.cons_append, List.nil_append, List.set_cons_zero, List.set_cons_succ, List.getElem?_cons_zero, List.getElem?_cons_succ, Nat.reduceAdd, Nat.reduceSub, Option.some.injEq, D.int.injEq, D.bl.injEq, D.str.injEq, D.ref.injEq, D.ty.injEq, D.tup.injEq, D.lst.injEq, D.rls.injEq, RO.lst.injEq, List.cons.injEq, exists_and_left, exists_eq_left', exists_eq_left, and_true, true_and, put_same, put_put, at0, at1, at2, ix30, ix31, ix32, and_assoc, dLcF, dLc, dLcT, dIRng1, dIRng2, dIStr, dITup, dILst, dYes, if_true, Bool.false_eq_true, if_false, eqS_ii, neS_ii, eqS_ss, neS_ss, decide_eq_true_eq, sq_tup, sq_lst, sq_rls, lo_lst, lo_rls, tr_lst, isi_tt, isi_st, isi_nt, isi_bt, isi_it, isi_lt, isi_ts, isi_ss, isi_ns, isi_bs, isi_is, isi_ls, List.append_nil, sz0, sz1, sz2, sz3, sz4, sz5, sz6, sl0, sl1, sl2, ty_put, ty_str, lo_put, sq_put, tr_put, reduceCtorEq, false_and, and_false, exists_false, or_false, false_or, Bool.not_false, Bool.not_true, List.isEmpty_nil, List.isEmpty_cons, app1_empty]
    refine ⟨_, _, rfl, _, rfl, rfl, _, _, rfl, _, _, rfl, rfl, b, rfl, ?_⟩
    cases b with
    | true =>
      rw [if_pos rfl]
      match vs, ex with
      | r :: l :: vs, ⟨hok, ex⟩ =>
        refine ⟨ty1, vs.reverse ++ [l], r, by rw [put_in hne]; simp, vs.reverse, l, rfl, ?_⟩
        have hl : (r :: l :: vs).length = vs.length + 2 := rfl
        have h1w : wt (u, true) = 1 := rfl
        refine ⟨l, r, rfl, hok, vs.reverse, put_same, by rw [List.length_reverse, sizeLine_eq]; omega, wts pend, by omega, pend, o.gp l r :: vs, _, _, _, _, rfl, by rw [put_put, put_flip hne, List.reverse_cons], ex, rfl, by rw [List.length_cons]; omega⟩
    | false =>
      rw [if_neg (by decide)]
      obtain ⟨hu, ex⟩ := ex
      cases u with
      | leaf x =>
        simp only [td_leaf, dSeq, dCallL, dLam, dJoin, dJs, dFmtS, dRepl, dRaise, dCallX, dDelTail, dAugL, dXF, dAsg, dIf, dIfS, dB, dAnd, dOr, dNot, dAndV, dOrV, dNotV, dChain, dOp, dUn, dVar, dC, rdI0, rdI, dCB, dCall, rd1, dCons, dNil, dgName, dgSub, dgTup, dgLst, dSortSet, dgCons, dgNil, rdSetL, dRet, dLst, dLstF, dTup, dDrop, dNext, dPar, dBM, dBM0, dSl, dPart, dNoPart, dstart, dwipe, List.map_cons, List.map_nil, List.length_cons, List.length_nil, List.replicate_succ, List.replicate_zero, List.cons_append, List.nil_append, List.set_cons_zero, List.set_cons_succ, List.getElem?_cons_zero, List.getElem?_cons_succ, Nat.reduceAdd, Nat.reduceSub, Option.some.injEq, D.int.injEq, D.bl.injEq, D.str.injEq, D.ref.injEq, D.ty.injEq, D.tup.injEq, D.lst.injEq, D.rls.injEq, RO.lst.injEq, List.cons.injEq, exists_and_left, exists_eq_left', exists_eq_left, and_true, true_and, put_same, put_put, at0, at1, at2, ix30, ix31, ix32, and_assoc, dLcF, dLc, dLcT, dIRng1, dIRng2, dIStr, dITup, dILst, dYes, if_true, Bool.false_eq_true, if_false, eqS_ii, neS_ii, eqS_ss, neS_ss, decide_eq_true_eq, sq_tup, sq_lst, sq_rls, lo_lst, lo_rls, tr_lst, isi_tt, isi_st, isi_nt, isi_bt, isi_it, isi_lt, isi_ts, isi_ss, isi_ns, isi_bs, isi_is, isi_ls, List.append_nil, sz0, sz1, sz2, sz3, sz4, sz5, sz6, sl0, sl1, sl2, ty_put, ty_str, lo_put, sq_put, tr_put, reduceCtorEq, false_and, and_false, exists_false, or_false, false_or, Bool.not_false, Bool.not_true, List.isEmpty_nil, List.isEmpty_cons, app1_empty]
        have h1w : wt (leaf x, false) = 1 := rfl
        exact ⟨ty1, x, rfl, hu, vs.reverse, put_in hne, by rw [List.length_reverse, sizeLine_eq]; omega, wts pend, by omega, pend, o.gl x :: vs, _, _, _, _, rfl, by rw [put_flip hne, List.reverse_cons], ex, rfl, by rw [List.length_cons]; omega⟩
      | node l r =>
        simp only [td_node, dSeq, dCallL, dLam, dJoin, dJs, dFmtS, dRepl, dRaise, dCallX, dDelTail, dAugL, dXF, dAsg, dIf, dIfS, dB, dAnd, dOr, dNot, dAndV, dOrV, dNotV, dChain, dOp, dUn, dVar, dC, rdI0, rdI, dCB, dCall, rd1, dCons, dNil, dgName, dgSub, dgTup, dgLst, dSortSet, dgCons, dgNil, rdSetL, dRet, dLst, dLstF, dTup, dDrop, dNext, dPar, dBM, dBM0, dSl, dPart, dNoPart, dstart, dwipe, List.map_cons, List.map_nil, List.length_cons, List.length_nil, List.replicate_succ, List.replicate_zero, List.cons_append, List.nil_append, List.set_cons_zero, List.set_cons_succ, List.getElem?_cons_zero, List.getElem?_cons_succ, Nat.reduceAdd, Nat.reduceSub, Option.some.injEq, D.int.injEq, D.bl.injEq, D.str.injEq, D.ref.injEq, D.ty.injEq, D.tup.injEq, D.lst.injEq, D.rls.injEq, RO.lst.injEq, List.cons.injEq, exists_and_left, exists_eq_left', exists_eq_left, and_true, true_and, put_same, put_put, at0, at1, at2, ix30, ix31, ix32, and_assoc, dLcF, dLc, dLcT, dIRng1, dIRng2, dIStr, dITup, dILst, dYes, if_true, Bool.false_eq_true, if_false, eqS_ii, neS_ii, eqS_ss, neS_ss, decide_eq_true_eq, sq_tup, sq_lst, sq_rls, lo_lst, lo_rls, tr_lst, isi_tt, isi_st, isi_nt, isi_bt, isi_it, isi_lt, isi_ts, isi_ss, isi_ns, isi_bs, isi_is, isi_ls, List.append_nil, sz0, sz1, sz2, sz3, sz4, sz5, sz6, sl0, sl1, sl2, ty_put, ty_str, lo_put, sq_put, tr_put, reduceCtorEq, false_and, and_false, exists_false, or_false, false_or, Bool.not_false, Bool.not_true, List.isEmpty_nil, List.isEmpty_cons, app1_empty]
        have h1w : wt (node l r, false) = 2 + stps l + stps r := rfl
        exact ⟨by rw [List.length_reverse, List.length_map, sizeLine_eq]; omega, stps l + (stps r + (1 + wts pend)), by omega, (l, false) :: (r, false) :: (node l r, true) :: pend, vs, _, _, _, _, rfl, by simp [itD, td_node], ⟨hu.1, hu.2.1, hu.2.2, ex⟩, by simp [wts, wt], by omega⟩
/-! ### show_tree -/
def shF : Fo where
  gl x := .str x
  gp a b := match a, b with
    | .str x, .str y => .str (wordS ([40] ++ tl x ++ [32] ++ tl y ++ [41]))
    | _, _ => .non
  okl _ := True
  okp a b := ∃ x y : Str, a = .str x ∧ b = .str y ∧ x.length + y.length ≤ 100000
theorem shF_v (t : T) : shF.v t = .str (wordS (txt t)) := by
  induction t with
  | leaf x => show D.str x = _; rw [txt, word_tl]
  | node l r il ir =>
    show shF.gp (shF.v l) (shF.v r) = _
    rw [il, ir]
    show D.str _ = _
    rw [tl_word, tl_word, txt]; simp
theorem shF_ok (t : T) (h : (txt t).length ≤ 100000) : shF.ok t := by
  induction t with
  | leaf x => exact trivial
  | node l r il ir =>
    simp only [txt, List.length_cons, List.length_append, List.length_nil] at h
    exact ⟨il (by omega), ir (by omega), _, _, shF_v l, shF_v r, by rw [word_len, word_len]; omega⟩
abbrev s_show_tree : Stmt := top 11
abbrev n_show_tree : List Str := ["tree"]
theorem sc_show_tree : FnScope n_show_tree ["tree"] (defScope s_show_tree) := ⟨rfl, rfl, rfl, by decide +kernel, rfl, by decide +kernel, by decide +kernel⟩
abbrev qSh : Str := "show_tree.<locals>.<lambda>"
abbrev L1s : Lam := lamOf qSh (argE 1 (retE (defBody s_show_tree)))
abbrev L2s : Lam := lamOf qSh (argE 2 (retE (defBody s_show_tree)))
theorem lam_1s : LamP P w K mg base 1 L1s (spLeaf shF) :=
  DL.okL (N := ["name"]) (ps := ["name"]) rfl (NdefX.nscope_by (by decide +kernel)) (fun pm cv ctv us hl => match us, hl with | [_], _ => rfl) (fun ds R Q E h => by obtain ⟨x, rfl, _⟩ := h; rfl) fun A outer s H f c E gd hr => ⟨_, dv 0, fun ds R Qd Ed h => by
    obtain ⟨x, rfl, _, q⟩ := h
    exact ⟨_, rfl, fin q⟩⟩
theorem lam_2s : LamP P w K mg base 1 L2s (spPair shF) :=
  DL.okL (N := ["left", "right"]) (ps := ["left", "right"]) rfl (NdefX.nscope_by (by decide +kernel)) (fun pm cv ctv us hl => match us, hl with | [_, _], _ => rfl) (fun ds R Q E h => by obtain ⟨x, y, rfl, _⟩ := h; rfl) fun A outer s H f c E gd hr => ⟨_, de_joined (.cons de_str (.cons (de_fmtS (dv 0)) (.cons de_str (.cons (de_fmtS (dv 1)) (.cons de_str .nil))))), fun ds R Qd Ed h => by
    obtain ⟨a, b, rfl, ⟨x, y, rfl, rfl, hl⟩, q⟩ := h
    simp only [dSeq, dCallL, dLam, dJoin, dJs, dFmtS, dRepl, dRaise, dCallX, dDelTail, dAugL, dXF, dAsg, dIf, dIfS, dB, dAnd, dOr, dNot, dAndV, dOrV, dNotV, dChain, dOp, dUn, dVar, dC, rdI0, rdI, dCB, dCall, rd1, dCons, dNil, dgName, dgSub, dgTup, dgLst, dSortSet, dgCons, dgNil, rdSetL, dRet, dLst, dLstF, dTup, dDrop, dNext, dPar, dBM, dBM0, dSl, dPart, dNoPart, dstart, dwipe, List.map_cons, List.map_nil, List.length_cons, List.length_nil, List.replicate_succ, List.replicate_zero, List.cons_append, List.nil_append, List.set_cons_zero, List.set_cons_succ, List.getElem?_cons_zero, List.getElem?_cons_succ, Nat.reduceAdd, Nat.reduceSub, Option.some.injEq, D.int.injEq, D.bl.injEq, D.str.injEq, D.ref.injEq, D.ty.injEq, D.tup.injEq, D.lst.injEq, D.rls.injEq, RO.lst.injEq, List.cons.injEq, exists_and_left, exists_eq_left', exists_eq_left, and_true, true_and, put_same, put_put, at0, at1, at2, ix30, ix31, ix32, and_assoc, dLcF, dLc, dLcT, dIRng1, dIRng2, dIStr, dITup, dILst, dYes, if_true, Bool.false_eq_true, if_false, eqS_ii, neS_ii, eqS_ss, neS_ss, decide_eq_true_eq, sq_tup, sq_lst, sq_rls, lo_lst, lo_rls, tr_lst, isi_tt, isi_st, isi_nt, isi_bt, isi_it, isi_lt, isi_ts, isi_ss, isi_ns, isi_bs, isi_is, isi_ls, List.append_nil, sz0, sz1, sz2, sz3, sz4, sz5, sz6, sl0, sl1, sl2, ty_put, ty_str, lo_put, sq_put, tr_put, reduceCtorEq, false_and, and_false, exists_false, or_false, false_or, Bool.not_false, Bool.not_true, List.isEmpty_nil, List.isEmpty_cons, app1_empty]
    have e0 : Str.empty ++ Str.ofString "(" = wordS [40] := by decide +kernel
    have hx : x.length = (tl x).length := DL.len_tl x
    have hy : y.length = (tl y).length := DL.len_tl y
    have e1 : wordS [40] ++ x = wordS ([40] ++ tl x) := by rw [← word_app, word_tl]
    have e2 : wordS ([40] ++ tl x) ++ wordS [32] ++ y = wordS ([40] ++ tl x ++ [32] ++ tl y) := by rw [word_app, ← word_app _ (tl y), word_tl]
    rw [e0, e1, w32, e2, w41]
    simp only [word_app, word_len, List.length_append, List.length_cons, List.length_nil, sizeLine_eq]
    exact ⟨by omega, by omega, by omega, by omega, by omega, by omega, by omega, fin q⟩⟩
def spShow : DSp := fun ds R Q _ => ∃ t : T, ds = [td t] ∧ size t ≤ 2000 ∧ (txt t).length ≤ 100000 ∧ Q (.str (wordS (txt t))) R
theorem ok_show_tree {c PP : Addr} (F : FunC K "show_tree" "show_tree" s_show_tree f fd c) (Z : Blt mg bl) (t_show_tree : TabOk K mg base c PP fun _ _ => qSh) (c_folded : Cal P w K mg base 2 "folded" (spFolded shF L1s L2s)) : FnG P w K mg base CX0 3 f fd ["tree"] (spOf K spShow) := by
  refine okDC F sc_show_tree (fun ds R Q E h => by obtain ⟨t, rfl, _⟩ := h; rfl) fun A outer s H E gd hr => ?_
  refine ⟨_, (dss_one (ds_ret (de_c c_folded gd hr (by omega) (by rfl) (da_cons (dv 0) (da_cons (de_lam ⟨⟨_, t_show_tree.tb, rfl⟩, t_show_tree.on, t_show_tree.tc⟩ (by first | rfl | decide +kernel)) (da_cons (de_lam ⟨⟨_, t_show_tree.tb, rfl⟩, t_show_tree.on, t_show_tree.tc⟩ (by first | rfl | decide +kernel)) da_nil)))))), fun ds R Qd Ed h => ?_⟩
  obtain ⟨t, rfl, hs, hl, q⟩ := h
  simp only [dSeq, dCallL, dLam, dJoin, dJs, dFmtS, dRepl, dRaise, dCallX, dDelTail, dAugL, dXF, dAsg, dIf, dIfS, dB, dAnd, dOr, dNot, dAndV, dOrV, dNotV, dChain, dOp, dUn, dVar, dC, rdI0, rdI, dCB, dCall, rd1, dCons, dNil, dgName, dgSub, dgTup, dgLst, dSortSet, dgCons, dgNil, rdSetL, dRet, dLst, dLstF, dTup, dDrop, dNext, dPar, dBM, dBM0, dSl, dPart, dNoPart, dstart, dwipe, List.map_cons, List.map_nil, List.length_cons, List.length_nil, List.replicate_succ, List.replicate_zero, List.cons_append, List.nil_append, List.set_cons_zero, List.set_cons_succ, List.getElem?_cons_zero, List.getElem?_cons_succ, Nat.reduceAdd, Nat.reduceSub, Option.some.injEq, D.int.injEq, D.bl.injEq, D.str.injEq, D.ref.injEq, D.ty.injEq, D.tup.injEq, D.lst.injEq, D.rls.injEq, RO.lst.injEq, List.cons.injEq, exists_and_left, exists_eq_left', exists_eq_left, and_true, true_and, put_same, put_put, at0, at1, at2, ix30, ix31, ix32, and_assoc, dLcF, dLc, dLcT, dIRng1, dIRng2, dIStr, dITup, dILst, dYes, if_true, Bool.false_eq_true, if_false, eqS_ii, neS_ii, eqS_ss, neS_ss, decide_eq_true_eq, sq_tup, sq_lst, sq_rls, lo_lst, lo_rls, tr_lst, isi_tt, isi_st, isi_nt, isi_bt, isi_it, isi_lt, isi_ts, isi_ss, isi_ns, isi_bs, isi_is, isi_ls, List.append_nil, sz0, sz1, sz2, sz3, sz4, sz5, sz6, sl0, sl1, sl2, ty_put, ty_str, lo_put, sq_put, tr_put, reduceCtorEq, false_and, and_false, exists_false, or_false, false_or, Bool.not_false, Bool.not_true, List.isEmpty_nil, List.isEmpty_cons, app1_empty]
  refine ⟨t, ?_, hs, shF_ok t hl, by rw [shF_v]; exact fin q⟩
  rfl
end

end Law
end
section
set_option Elab.async false
set_option maxRecDepth 100000
set_option maxHeartbeats 4000000
set_option linter.all false
set_option autoImplicit false
namespace Law
open PySem PySem.Spec PyProof.Rows L2 DL TL TrA TrA.Tr
section
variable [TabCtx] {P : Program} {w : World} {K : KB} {mg : Str → Option Value} {base : Heap} {f : Addr} {fd : FuncData}
abbrev s_law_tree : Stmt := top 18
abbrev n_law_tree : List Str := ["_law_bag_here", "_law_row_here", "_law_size"]
theorem sc_law_tree : FnScope n_law_tree ["_law_bag_here", "_law_row_here"] (defScope s_law_tree) := ⟨rfl, rfl, rfl, by decide +kernel, rfl, by decide +kernel, by decide +kernel⟩
def spLawTree (n : Nat) : DSp := fun ds R Q _ => ∃ (b : Addr) (row : List Str), ds = [.ref b, .tup (row.map D.str)] ∧ Bag R b ∧ 0 < row.length ∧ row.length ≤ n ∧ row.length ≤ 60 ∧ ∀ (t : T) (o : RO), leaves t = row → Bag (put R b o) b → Q (td t) (put R b o)
theorem step_law_tree {n : Nat} (F : Fun K "_law_tree" "_law_tree" s_law_tree f fd) (Z : Blt mg bl) (c_law_take : Cal P w K mg base 1 "_law_take" spTake) (c_law_tree : Cal P w K mg base (n + 1) "_law_tree" (spLawTree n)) : FnG P w K mg base CX0 (n + 2) f fd ["_law_bag_here", "_law_row_here"] (spOf K (spLawTree (n + 1))) := by
  refine okD F sc_law_tree (fun ds R Q E h => by obtain ⟨b, row, rfl, _⟩ := h; rfl) fun cdv A outer s H E gd hr => ?_
  refine ⟨_, (dss_cons (ds_if (dt_cmp od_eqS (de_callB cd_len (by rfl) (Z _ (by decide)) bt_len (da_cons (dv 1) da_nil)) de_int (nomark _)) (dss_one (ds_ret (de_ix xd_seq (dv 1) de_int (fun _ _ => rfl)))) dss_nil)
    (dss_cons (ds_asg (de_op od_add de_int (de_c c_law_take gd hr (by omega) (by rfl) (da_cons (dv 0) (da_cons (de_op od_sub (de_callB cd_len (by rfl) (Z _ (by decide)) bt_len (da_cons (dv 1) da_nil)) de_int) da_nil)))) (dg_name (i := 2) sc_law_tree.nd rfl (.inl rfl)))
    (dss_one (ds_ret (de_tup (da_cons (de_c c_law_tree gd hr (by omega) (by rfl) (da_cons (dv 0) (da_cons (de_slice sd_tup (dv 1) do_none (do_some (dv 2))) da_nil))) (da_cons (de_c c_law_tree gd hr (by omega) (by rfl) (da_cons (dv 0) (da_cons (de_slice sd_tup (dv 1) (do_some (dv 2)) do_none) da_nil))) da_nil))))))), fun ds R Qd Ed h => ?_⟩
  obtain ⟨b, row, rfl, hb, h0, hn, h60, q⟩ := h
  simp only [dSeq, dCallL, dLam, dJoin, dJs, dFmtS, dRepl, dRaise, dCallX, dDelTail, dAugL, dXF, dAsg, dIf, dIfS, dB, dAnd, dOr, dNot, dAndV, dOrV, dNotV, dChain, dOp, dUn, dVar, dC, rdI0, rdI, dCB, dCall, rd1, dCons, dNil, dgName, dgSub, dgTup, dgLst, dSortSet, dgCons, dgNil, rdSetL, dRet, dLst, dLstF, dTup, dDrop, dNext, dPar, dBM, dBM0, dSl, dPart, dNoPart, dstart, dwipe, List.map_cons, List.map_nil, List.length_cons, List.length_nil, List.replicate_succ, List.replicate_zero, List.cons_append, List.nil_append, List.set_cons_zero, List.set_cons_succ, List.getElem?_cons_zero, List.getElem?_cons_succ, Nat.reduceAdd, Nat.reduceSub, Option.some.injEq, D.int.injEq, D.bl.injEq, D.str.injEq, D.ref.injEq, D.ty.injEq, D.tup.injEq, D.lst.injEq, D.rls.injEq, RO.lst.injEq, List.cons.injEq, exists_and_left, exists_eq_left', exists_eq_left, and_true, true_and, put_same, put_put, at0, at1, at2, ix30, ix31, ix32, and_assoc, dLcF, dLc, dLcT, dIRng1, dIRng2, dIStr, dITup, dILst, dYes, if_true, Bool.false_eq_true, if_false, eqS_ii, neS_ii, eqS_ss, neS_ss, decide_eq_true_eq, sq_tup, sq_lst, sq_rls, lo_lst, lo_rls, tr_lst, isi_tt, isi_st, isi_nt, isi_bt, isi_it, isi_lt, isi_ts, isi_ss, isi_ns, isi_bs, isi_is, isi_ls, List.append_nil, sz0, sz1, sz2, sz3, sz4, sz5, sz6, sl0, sl1, sl2, ty_put, ty_str, lo_put, sq_put, tr_put, reduceCtorEq, false_and, and_false, exists_false, or_false, false_or, Bool.not_false, Bool.not_true, List.isEmpty_nil, List.isEmpty_cons, app1_empty]
  rw [List.length_map]
  split
  · rename_i h1
    match row, h1, q with
    | [x], _, q =>
      obtain ⟨o, ho⟩ := hb.self
      have := q (leaf x) o rfl (by rw [ho]; exact hb)
      rw [ho] at this
      exact ⟨_, at0, fin this⟩
  · refine take_ok hb (by omega) (by omega) fun v o hv0 hv1 hb1 => ⟨v, rfl, ?_⟩
    have hl : (row.map D.str).length = row.length := List.length_map _
    rw [cut_take (by omega) (by omega), cut_drop (by omega) (by omega), ← List.map_take, ← List.map_drop]
    refine ⟨b, _, rfl, hb1, ?_, ?_, ?_, fun l o2 hl2 hb2 => ⟨b, _, rfl, hb2, ?_, ?_, ?_, fun r o3 hr3 hb3 => fin ?_⟩⟩
    all_goals first
      | (simp only [List.length_take, List.length_drop]; omega)
      | skip
    rw [put_put, put_put] at hb3 ⊢
    exact q (node l r) o3 (by rw [leaves, hl2, hr3, List.take_append_drop]) hb3
theorem ok_law_tree (F : Fun K "_law_tree" "_law_tree" s_law_tree f fd) (Z : Blt mg bl) (c_law_take : Cal P w K mg base 1 "_law_take" spTake) (hm : mg "_law_tree" = some (.ref f)) (bd : Binds K fd ["_law_bag_here", "_law_row_here"] []) : ∀ n : Nat, FnG P w K mg base CX0 (n + 1) f fd ["_law_bag_here", "_law_row_here"] (spOf K (spLawTree n))
  | 0 => fnG_none fun ds R Q E ⟨b, row, _, _, h0, h1, _⟩ => by omega
  | n + 1 => step_law_tree F Z c_law_take ⟨_, _, _, ok_law_tree F Z c_law_take hm bd n, hm, F.kp, bd⟩
end

end Law
end
section
set_option Elab.async false
set_option maxRecDepth 100000
set_option maxHeartbeats 4000000
set_option linter.all false
set_option autoImplicit false
namespace Law
open PySem PySem.Spec PyProof.Rows L2 DL TL TrA TrA.Tr
section
variable [TabCtx] {P : Program} {w : World} {K : KB} {mg : Str → Option Value} {base : Heap} {f : Addr} {fd : FuncData}
abbrev s_law_row : Stmt := top 17
abbrev n_law_row : List Str := ["_law_bag_here", "_law_names_here", "_law_most", "_law_turn"]
theorem sc_law_row : FnScope n_law_row ["_law_bag_here", "_law_names_here", "_law_most"] (defScope s_law_row) := ⟨rfl, rfl, rfl, by decide +kernel, rfl, by decide +kernel, by decide +kernel⟩
def spLawRow : DSp := fun ds R Q _ => ∃ (b : Addr) (xs : List Str) (m : Nat), ds = [.ref b, .lst (xs.map D.str), .int m] ∧ Bag R b ∧ 0 < xs.length ∧ xs.length ≤ 60 ∧ 0 < m ∧ m ≤ 60 ∧ ∀ (ys : List Str) (o : RO), 0 < ys.length → ys.length ≤ m → (∀ y ∈ ys, y ∈ xs) → Bag (put R b o) b → Q (.tup (ys.map D.str)) (put R b o)
theorem ok_law_row (F : Fun K "_law_row" "_law_row" s_law_row f fd) (Z : Blt mg bl) (c_law_take : Cal P w K mg base 1 "_law_take" spTake) : FnG P w K mg base CX0 2 f fd ["_law_bag_here", "_law_names_here", "_law_most"] (spOf K spLawRow) := by
  refine okD F sc_law_row (fun ds R Q E h => by obtain ⟨b, xs, m, rfl, _⟩ := h; rfl) fun cdv A outer s H E gd hr => ?_
  refine ⟨_, (dss_one (ds_ret (de_callTy cd_tuple (by rfl) (Z _ (by decide)) bt_tuple (da_cons (de_lcF (own := [("_law_turn", 3)]) rfl sc_law_row.nd (lcd (di_range1 (by rfl) (Z _ (by decide)) (de_op od_add de_int (de_c c_law_take gd hr (by omega) (by rfl) (da_cons (dv 0) (da_cons (dv 2) da_nil))))) (blkOk_by (N := n_law_row) (sc := defScope s_law_row) (by decide +kernel)) (fun _ _ _ _ _ => (dgw_name (i := 3) sc_law_row.nd rfl (.inl rfl))) (fun _ _ _ _ _ => dts_nil) (fun _ _ _ _ _ => (de_ix xd_seq (dv 1) (de_c c_law_take gd hr (by omega) (by rfl) (da_cons (dv 0) (da_cons (de_callB cd_len (by rfl) (Z _ (by decide)) bt_len (da_cons (dv 1) da_nil)) da_nil))) (fun _ _ => rfl))))) da_nil)))), fun ds R Qd Ed h => ?_⟩
  obtain ⟨b, xs, m, rfl, hB, hx0, hx1, hm0, hm1, q⟩ := h
  simp only [dSeq, dCallL, dLam, dJoin, dJs, dFmtS, dRepl, dRaise, dCallX, dDelTail, dAugL, dXF, dAsg, dIf, dIfS, dB, dAnd, dOr, dNot, dAndV, dOrV, dNotV, dChain, dOp, dUn, dVar, dC, rdI0, rdI, dCB, dCall, rd1, dCons, dNil, dgName, dgSub, dgTup, dgLst, dSortSet, dgCons, dgNil, rdSetL, dRet, dLst, dLstF, dTup, dDrop, dNext, dPar, dBM, dBM0, dSl, dPart, dNoPart, dstart, dwipe, List.map_cons, List.map_nil, List.length_cons, List.length_nil, List.replicate_succ, List.replicate_zero, List.cons_append, List.nil_append, List.set_cons_zero, List.set_cons_succ, List.getElem?_cons_zero, List.getElem?_cons_succ, Nat.reduceAdd, Nat.reduceSub, Option.some.injEq, D.int.injEq, D.bl.injEq, D.str.injEq, D.ref.injEq, D.ty.injEq, D.tup.injEq, D.lst.injEq, D.rls.injEq, RO.lst.injEq, List.cons.injEq, exists_and_left, exists_eq_left', exists_eq_left, and_true, true_and, put_same, put_put, at0, at1, at2, ix30, ix31, ix32, and_assoc, dLcF, dLc, dLcT, dIRng1, dIRng2, dIStr, dITup, dILst, dYes, if_true, Bool.false_eq_true, if_false, eqS_ii, neS_ii, eqS_ss, neS_ss, decide_eq_true_eq, sq_tup, sq_lst, sq_rls, lo_lst, lo_rls, tr_lst, isi_tt, isi_st, isi_nt, isi_bt, isi_it, isi_lt, isi_ts, isi_ss, isi_ns, isi_bs, isi_is, isi_ls, List.append_nil, sz0, sz1, sz2, sz3, sz4, sz5, sz6, sl0, sl1, sl2, ty_put, ty_str, lo_put, sq_put, tr_put, reduceCtorEq, false_and, and_false, exists_false, or_false, false_or, Bool.not_false, Bool.not_true, List.isEmpty_nil, List.isEmpty_cons, app1_empty]
  refine take_ok hB (by omega) (by omega) fun v o v0 v1 hB2 => ?_
  obtain ⟨n, rfl⟩ : ∃ n : Nat, v = n := ⟨v.toNat, by omega⟩
  refine ⟨n, rfl, 1 + n, by omega, by omega, by simp [sizeLine]; omega, fun i acc R1 => ∃ (o : RO) (ys : List Str), R1 = put R b o ∧ Bag R1 b ∧ acc = ys.map D.str ∧ ys.length = i ∧ ∀ y ∈ ys, y ∈ xs, ⟨o, [], rfl, hB2, rfl, rfl, by simp⟩, fun _ _ _ _ _ => trivial, ?_, ?_⟩
  · rintro i x acc R1 hx hl ⟨o1, ys, rfl, hB3, rfl, rfl, hy⟩
    rw [List.length_map]
    refine take_ok hB3 (by omega) (by omega) fun v o2 v0 v1 hB4 => ?_
    obtain ⟨a, ea, ma, ga⟩ := at_lt (l := xs) (i := v) v0 (by omega)
    refine ⟨v, rfl, _, at_map D.str ea, o2, ys ++ [a], by rw [put_put], hB4, by simp, by simp, fun y hy2 => ?_⟩
    rcases List.mem_append.mp hy2 with z | z
    · exact hy y z
    · have e : y = a := by simpa using z
      subst e
      exact ma
  · rintro acc R1 hl2 ⟨o1, ys, rfl, hB3, rfl, hyl, hy⟩
    rw [List.length_map, List.length_range] at hyl
    exact fin (q ys o1 (by omega) (by omega) hy hB3)
end

end Law
end
section
set_option Elab.async false
set_option maxRecDepth 100000
set_option maxHeartbeats 4000000
set_option linter.all false
set_option autoImplicit false
namespace Law
open PySem PySem.Spec PyProof.Rows L2 DL TL TrA TrA.Tr
section
variable [TabCtx] {P : Program} {w : World} {K : KB} {mg : Str → Option Value} {base : Heap} {f : Addr} {fd : FuncData}
/-! ### texts of trees are read, however deep -/
theorem hOk_in : ∀ (t : T) (ps : List T), isTD none (td t) = true → takes ps → ∀ i, (txt t)[i]? = some 41 → hOk (((txt t).take i).foldl rdStep ps) := by
  intro t
  induction t with
  | leaf x =>
    intro ps hg _ i hi
    have hx : nmB x = true := by simpa [td, isTD, okC] using hg
    rw [txt] at hi
    have := List.all_eq_true.mp (nmB_all hx).1 41 (List.mem_of_getElem? hi)
    rw [show letB 41 = false from by decide +kernel] at this
    cases this
  | node l r il ir =>
    intro ps hg hp i hi
    have hg2 : isTD none (td l) = true ∧ isTD none (td r) = true := by simpa [td, isTD] using hg
    have e40 : rdStep ps 40 = leaf lpS :: ps := by
      unfold rdStep
      have c1 : closes 40 ps = false := by unfold closes; split <;> simp
      have c2 : pushB 40 ps = true := by unfold pushB; split <;> simp
      simp only [c1, c2, Bool.false_eq_true, if_false, if_true]
      rw [show lstr 40 = lpS from by decide +kernel]
    have e32 : rdStep (l :: leaf lpS :: ps) 32 = leaf spS :: l :: leaf lpS :: ps := by
      unfold rdStep
      have c1 : closes 32 (l :: leaf lpS :: ps) = false := by unfold closes; split <;> simp
      have c2 : pushB 32 (l :: leaf lpS :: ps) = true := by unfold pushB; split <;> simp
      simp only [c1, c2, Bool.false_eq_true, if_false, if_true]
      rw [show lstr 32 = spS from by decide +kernel]
    have tk1 : takes (leaf lpS :: ps) := by simp [takes, isMark]
    have tk2 : takes (leaf spS :: l :: leaf lpS :: ps) := by simp [takes, isMark]
    have r1 := run_tree l (leaf lpS :: ps) hg2.1 tk1
    have r2 := run_tree r (leaf spS :: l :: leaf lpS :: ps) hg2.2 tk2
    rw [txt] at hi ⊢
    cases i with
    | zero => simp at hi
    | succ i =>
      rw [List.getElem?_cons_succ] at hi
      rw [List.take_succ_cons, List.foldl_cons, e40]
      by_cases h1 : i < (txt l).length
      · rw [List.getElem?_append_left h1] at hi
        rw [List.take_append_of_le_length (by omega)]
        exact il _ hg2.1 tk1 i hi
      · obtain ⟨j, rfl⟩ : ∃ j, i = (txt l).length + j := ⟨i - (txt l).length, by omega⟩
        rw [List.getElem?_append_right (by omega), Nat.add_sub_cancel_left] at hi
        rw [List.take_length_add_append, List.foldl_append, r1]
        cases j with
        | zero => simp at hi
        | succ j =>
          rw [List.getElem?_cons_succ] at hi
          rw [List.take_succ_cons, List.foldl_cons, e32]
          by_cases h2 : j < (txt r).length
          · rw [List.getElem?_append_left h2] at hi
            rw [List.take_append_of_le_length (by omega)]
            exact ir _ hg2.2 tk2 j hi
          · have ej : j = (txt r).length := by
              have := (List.getElem?_eq_some_iff.mp hi).1
              simp at this; omega
            subst ej
            rw [List.take_left' rfl, r2]
            exact ⟨fun t e => by cases e; simp [height], fun t e => by cases e; simp [height]⟩
theorem okR_tree {t : T} (h : NT t) (hl : (txt t).length ≤ 2000) : OkR (wordS (txt t)) := by
  refine ⟨by rw [word_len]; exact hl, fun c hc => by rw [tl_word] at hc; have := txt_asc h c hc; omega, fun i hi => ?_⟩
  rw [tl_word] at hi ⊢
  exact hOk_in t [] (isTD_td (nmB_NT h)) trivial i hi
theorem read_tree_txt {t : T} (h : NT t) : readT (wordS (txt t)) = some t := readT_comp (tl_word _) (isTD_td (nmB_NT h))
theorem show_ok {t : T} (h : size t ≤ 2000) (hl : (txt t).length ≤ 100000) {R : Rs} {Q : DK} {E : DXK} (q : Q (.str (wordS (txt t))) R) : spShow [td t] R Q E := ⟨t, rfl, h, hl, q⟩
theorem read_ok {t : T} (h : NT t) (hl : (txt t).length ≤ 2000) {C : Addr} {R : Rs} {Q : DK} {E : DXK} (q : Q (td t) R) : spRead C [.str (wordS (txt t))] R Q E := ⟨_, rfl, .inl ⟨_, rfl, okR_tree h hl, by rw [read_tree_txt h]; exact q⟩⟩
theorem sm_nt {t : T} (h : NT t) (hs : size t ≤ 12) : Sm 12 100 (td t) := by
  have hh := height_lt t
  exact (sm_tdG fun x hx => ⟨strOk_of fun c hc => by have := (h x hx).all c hc; unfold Let at this; omega, (h x hx).len.2⟩).mono (by omega) (by omega)
abbrev s_law : Stmt := top 20
abbrev n_law : List Str := ["_law_script", "_law_at", "_law_bag_here", "_law_names_here", "_law_turn", "_law_tree_here", "_law_text_here", "_law_size", "_law_left", "_law_right", "_law_last"]
theorem sc_law : FnScope n_law ["_law_script"] (defScope s_law) := ⟨rfl, rfl, rfl, by decide +kernel, rfl, by decide +kernel, by decide +kernel⟩
def spLaw : DSp := fun ds R Q _ => ∃ ns : List Int, ds = [.rls (ns.map D.int)] ∧ ns.length ≤ 63 ∧ ∀ R', Q (.bl true) R'
theorem mul_lp (n : Nat) : Txt.mul (Str.ofString "(") (n : Int) = wordS (List.replicate n 40) := by
  have e : (Str.ofString "(") = (⟨#[40]⟩ : Str) := by decide +kernel
  have fold : ∀ (k : Nat) (a : Array Nat), (List.replicate k (#[40] : Array Nat)).foldl (· ++ ·) a = a ++ (List.replicate k 40).toArray := by
    intro k
    induction k with
    | zero => intro a; simp
    | succ k ih => intro a; rw [List.replicate_succ, List.foldl_cons, ih, List.replicate_succ]; apply Array.ext'; simp
  unfold Txt.mul
  rw [e]
  split
  · have : n = 0 := by omega
    subst this; rfl
  · split
    · rename_i h
      have hn : (n : Int) = 1 := by simpa [Str.length] using h
      have : n = 1 := by omega
      subst this; rfl
    · show (⟨_⟩ : Str) = ⟨_⟩
      rw [Int.toNat_natCast, fold]; simp
theorem mulOk_lp {n : Nat} (h : n ≤ 1000) : MulOk (Str.ofString "(") (n : Int) := by
  have e : (Str.ofString "(").length = 1 := by decide +kernel
  unfold MulOk
  rw [e]
  refine ⟨by simp; omega, fun h1 _ => ?_, fun _ _ => ?_⟩
  · have : (1 : Int) ≤ (2 ^ 63 - 1) / n := Int.le_ediv_of_mul_le (by omega) (by omega)
    omega
  · show decide _ = false
    rw [decide_eq_false_iff_not]
    simp only [Int.toNat_natCast, Nat.one_mul, Nat.not_lt, sizeLine_eq]
    omega
abbrev scr (ns : List Int) : Option D := some (.rls (ns.map D.int))
abbrev nms (xs : List Str) : Option D := some (.lst (xs.map D.str))
def cl (y : Str) : Nat → List Nat
  | 0 => []
  | n + 1 => cl y n ++ (32 :: (tl y ++ [41]))
def lt (x y : Str) : Nat → T
  | 0 => leaf x
  | n + 1 => node (lt x y n) (leaf y)
def rt (x y : Str) : Nat → T
  | 0 => leaf x
  | n + 1 => node (leaf y) (rt x y n)
theorem txt_lt (x y : Str) (n : Nat) : txt (lt x y n) = List.replicate n 40 ++ tl x ++ cl y n := by
  induction n with
  | zero => simp [lt, txt, cl]
  | succ n ih => simp [lt, txt, cl, ih, List.replicate_succ]
theorem lt_ok {x y : Str} (hx : Nm x) (hy : Nm y) (n : Nat) : NT (lt x y n) ∧ size (lt x y n) = n + 1 := by
  induction n with
  | zero => exact ⟨fun v h => by simp [lt, leaves] at h; subst h; exact hx, rfl⟩
  | succ n ih =>
    refine ⟨fun v h => ?_, by simp [lt, size, ih.2]⟩
    simp only [lt, leaves, List.mem_append, List.mem_singleton] at h
    rcases h with h | rfl
    · exact ih.1 v h
    · exact hy
theorem rt_ok {x y : Str} (hx : Nm x) (hy : Nm y) (n : Nat) : NT (rt x y n) ∧ size (rt x y n) = n + 1 := by
  induction n with
  | zero => exact ⟨fun v h => by simp [rt, leaves] at h; subst h; exact hx, rfl⟩
  | succ n ih =>
    refine ⟨fun v h => ?_, by simp [rt, size, ih.2]; omega⟩
    simp only [rt, leaves, List.mem_append, List.mem_singleton] at h
    rcases h with rfl | h
    · exact hy
    · exact ih.1 v h
def W1 (ns : List Int) (i : Nat) (s' : DSt) (R' : Rs) : Prop := ∃ j1 j2 j3 j4 j5 j6 j7 j8 j9 j10 : Option D, s' = [scr ns, j1, j2, j3, j4, j5, j6, j7, j8, j9, j10]
def W2 (ns : List Int) (xs : List Str) (b : Addr) (i : Nat) (s' : DSt) (R' : Rs) : Prop := Bag R' b ∧ ∃ j1 j4 j5 j6 j7 j8 j9 j10 : Option D, s' = [scr ns, j1, some (.ref b), nms xs, j4, j5, j6, j7, j8, j9, j10]
def M3 (ns : List Int) (s' : DSt) (R' : Rs) : Prop := ∃ (xs : List Str) (b : Addr), 0 < xs.length ∧ xs.length ≤ 5 ∧ (∀ x ∈ xs, Nm x) ∧ W2 ns xs b 0 s' R'
def M5 (ns : List Int) (xs : List Str) (b : Addr) (s' : DSt) (R' : Rs) : Prop := ∃ t : T, NT t ∧ size t ≤ 12 ∧ Bag R' b ∧ ∃ j1 j4 j6 j7 j8 j9 j10 : Option D, s' = [scr ns, j1, some (.ref b), nms xs, j4, some (td t), j6, j7, j8, j9, j10]
def M6 (ns : List Int) (xs : List Str) (b : Addr) (t : T) (s' : DSt) (R' : Rs) : Prop := Bag R' b ∧ ∃ j1 j4 j7 j8 j9 j10 : Option D, s' = [scr ns, j1, some (.ref b), nms xs, j4, some (td t), some (.str (wordS (txt t))), j7, j8, j9, j10]
def M9 (ns : List Int) (xs : List Str) (s' : DSt) (R' : Rs) : Prop := ∃ n : Nat, n ≤ 149 ∧ ∃ j1 j2 j4 j5 j6 j8 j9 j10 : Option D, s' = [scr ns, j1, j2, nms xs, j4, j5, j6, some (.int (n + 1)), j8, j9, j10]
def M10 (ns : List Int) (xs : List Str) (n : Nat) (x : Str) (s' : DSt) (R' : Rs) : Prop := ∃ j1 j2 j4 j5 j6 j10 : Option D, s' = [scr ns, j1, j2, nms xs, j4, j5, j6, some (.int (n + 1)), some (.str (wordS (List.replicate n 40 ++ tl x))), some (.str x), j10]
def W12 (ns : List Int) (n : Nat) (x y : Str) (i : Nat) (s' : DSt) (R' : Rs) : Prop := ∃ j1 j2 j3 j4 j6 : Option D, s' = [scr ns, j1, j2, j3, j4, some (td (lt x y i)), j6, some (.int (n + 1)), some (.str (wordS (List.replicate n 40 ++ tl x ++ cl y i))), some (.str (wordS (txt (rt x y i)))), some (.str y)]
theorem ok_law {C : Addr} (F : Fun K "law" "law" s_law f fd) (Z : Blt mg bl) (c_law_bag : Cal P w K mg base 1 "_law_bag" spBag) (c_law_take : Cal P w K mg base 1 "_law_take" spTake) (c_law_names : Cal P w K mg base 2 "_law_names" spNames) (c_law_row : Cal P w K mg base 2 "_law_row" spLawRow)
    (c_law_tree : Cal P w K mg base 13 "_law_tree" (spLawTree 12)) (c_law_text : Cal P w K mg base 12 "_law_text" (spLawText 12)) (c_show_tree : Cal P w K mg base 3 "show_tree" spShow) (c_read_tree : CalX P w K mg base 4 "read_tree" (spRead C)) : FnG P w K mg base CX0 14 f fd ["_law_script"] (spOf K spLaw) := by
  refine okD F sc_law (fun ds R Q E h => by obtain ⟨ns, rfl, _⟩ := h; rfl) fun cdv A outer s H E gd hr => ?_
  refine ⟨_, (dss_cons (ds_for PassesOwn.never rfl (di_range1 (by rfl) (Z _ (by decide)) (de_callB (cd_max2 rfl) (by rfl) (Z _ (by decide)) bt_max (da_cons de_int (da_cons (de_callB (cd_min2 rfl) (by rfl) (Z _ (by decide)) bt_min (da_cons de_int (da_cons (de_callB cd_len (by rfl) (Z _ (by decide)) bt_len (da_cons (dv 0) da_nil)) da_nil))) da_nil)))) (dg_name (i := 1) sc_law.nd rfl (.inl rfl)) (dss_cons (ds_asg (de_c c_law_bag gd hr (by omega) (by rfl) (da_cons (dv 0) (da_cons (dv 1) da_nil))) (dg_name (i := 2) sc_law.nd rfl (.inl rfl)))
      (dss_cut (ds_asg (de_c c_law_names gd hr (by omega) (by rfl) (da_cons (dv 2) (da_cons (de_op od_add de_int (de_c c_law_take gd hr (by omega) (by rfl) (da_cons (dv 2) (da_cons de_int da_nil)))) da_nil))) (dg_name (i := 3) sc_law.nd rfl (.inl rfl)))
      (dss_cons (ds_for PassesOwn.never rfl (di_range1 (by rfl) (Z _ (by decide)) de_int) (dg_name (i := 4) sc_law.nd rfl (.inl rfl)) (dss_cut (ds_asg (de_c c_law_tree gd hr (by omega) (by rfl) (da_cons (dv 2) (da_cons (de_c c_law_row gd hr (by omega) (by rfl) (da_cons (dv 2) (da_cons (dv 3) (da_cons de_int da_nil)))) da_nil))) (dg_name (i := 5) sc_law.nd rfl (.inl rfl)))
        (dss_cut (ds_asg (de_c c_law_text gd hr (by omega) (by rfl) (da_cons (dv 5) da_nil)) (dg_name (i := 6) sc_law.nd rfl (.inl rfl)))
        (dss_one (ds_if (dw_or (dt_cmp od_neS (de_c c_show_tree gd hr (by omega) (by rfl) (da_cons (dv 5) da_nil)) (dv 6) (nomark _)) (dw_or (dt_cmp od_neS (de_callB (cd_repr gd hr) (by rfl) (Z _ (by decide)) bt_repr (da_cons (de_cX c_read_tree gd hr (by omega) takesNo (by rfl) (da_cons (dv 6) da_nil)) da_nil)) (de_callB (cd_repr gd hr) (by rfl) (Z _ (by decide)) bt_repr (da_cons (dv 5) da_nil)) (nomark _)) (dw_or1 (dt_cmp (od_neD hr.units) (de_cX c_read_tree gd hr (by omega) takesNo (by rfl) (da_cons (de_c c_show_tree gd hr (by omega) (by rfl) (da_cons (dv 5) da_nil)) da_nil)) (dv 5) (nomark _))))).dt (dss_one (ds_ret de_bl)) dss_nil)))))
      (dss_cut (ds_asg (de_op od_add de_int (de_c c_law_take gd hr (by omega) (by rfl) (da_cons (dv 2) (da_cons de_int da_nil)))) (dg_name (i := 7) sc_law.nd rfl (.inl rfl)))
      (dss_cut (ds_par (i := 8) (j := 9) rfl sc_law.nd rfl rfl (by decide) rfl rfl (da_cons (de_op od_adds (de_op od_mulS de_str (de_op od_sub (dv 7) de_int)) (de_ix xd_seq (dv 3) de_int (fun _ _ => rfl))) (da_cons (de_ix xd_seq (dv 3) de_int (fun _ _ => rfl)) da_nil)) rfl)
      (dss_cut (ds_par (i := 5) (j := 10) rfl sc_law.nd rfl rfl (by decide) rfl rfl (da_cons (de_ix xd_seq (dv 3) de_int (fun _ _ => rfl)) (da_cons (de_ix xd_seq (dv 3) (de_un un_negD de_int) (fun _ _ => rfl)) da_nil)) rfl)
      (dss_cut (ds_for PassesOwn.never rfl (di_range1 (by rfl) (Z _ (by decide)) (de_op od_sub (dv 7) de_int)) (dg_name (i := 4) sc_law.nd rfl (.inl rfl)) (dss_cons (ds_asg (de_op od_adds (de_op od_adds (de_op od_adds (dv 8) de_str) (dv 10)) de_str) (dg_name (i := 8) sc_law.nd rfl (.inl rfl)))
        (dss_cons (ds_asg (de_op od_adds (de_op od_adds (de_op od_adds (de_op od_adds de_str (dv 10)) de_str) (dv 9)) de_str) (dg_name (i := 9) sc_law.nd rfl (.inl rfl)))
        (dss_one (ds_asg (de_tup (da_cons (dv 5) (da_cons (dv 10) da_nil))) (dg_name (i := 5) sc_law.nd rfl (.inl rfl)))))))
      (dss_one (ds_if (dw_or (dt_cmp od_neS (de_c c_show_tree gd hr (by omega) (by rfl) (da_cons (dv 5) da_nil)) (dv 8) (nomark _)) (dw_or (dt_cmp od_neS (de_c c_show_tree gd hr (by omega) (by rfl) (da_cons (de_cX c_read_tree gd hr (by omega) takesNo (by rfl) (da_cons (dv 9) da_nil)) da_nil)) (dv 9) (nomark _)) (dw_or1 (dt_cmp od_neS (de_c c_show_tree gd hr (by omega) (by rfl) (da_cons (de_cX c_read_tree gd hr (by omega) takesNo (by rfl) (da_cons (dv 8) da_nil)) da_nil)) (dv 8) (nomark _))))).dt (dss_one (ds_ret de_bl)) dss_nil))))))))))
    (dss_one (ds_ret (de_and (de_cmp od_eqS (de_c c_show_tree gd hr (by omega) (by rfl) (da_cons de_str da_nil)) de_str (nomark _)) (de_and (de_cmp (od_eqD hr.units) (de_cX c_read_tree gd hr (by omega) takesNo (by rfl) (da_cons de_str da_nil)) de_str (nomark _)) (de_one (de_cmp (od_eqD hr.units) (de_cX c_read_tree gd hr (by omega) takesNo (by rfl) (da_cons de_str da_nil)) (de_tup (da_cons de_str (da_cons de_str da_nil))) (nomark _)))))))), fun ds R Qd Ed h => ?_⟩
  obtain ⟨ns, rfl, hn, q⟩ := h
  simp only [dFor, dSeq, dCallL, dLam, dJoin, dJs, dFmtS, dRepl, dRaise, dCallX, dDelTail, dAugL, dXF, dAsg, dIf, dIfS, dB, dAnd, dOr, dNot, dAndV, dOrV, dNotV, dChain, dOp, dUn, dVar, dC, rdI0, rdI, dCB, dCall, rd1, dCons, dNil, dgName, dgSub, dgTup, dgLst, dSortSet, dgCons, dgNil, rdSetL, dRet, dLst, dLstF, dTup, dDrop, dNext, dPar, dBM, dBM0, dSl, dPart, dNoPart, dstart, dwipe, List.map_cons, List.map_nil, List.length_cons, List.length_nil, List.replicate_succ, List.replicate_zero, List.cons_append, List.nil_append, List.set_cons_zero, List.set_cons_succ, List.getElem?_cons_zero, List.getElem?_cons_succ, Nat.reduceAdd, Nat.reduceSub, Option.some.injEq, D.int.injEq, D.bl.injEq, D.str.injEq, D.ref.injEq, D.ty.injEq, D.tup.injEq, D.lst.injEq, D.rls.injEq, RO.lst.injEq, List.cons.injEq, exists_and_left, exists_eq_left', exists_eq_left, and_true, true_and, put_same, put_put, at0, at1, at2, ix30, ix31, ix32, and_assoc, dLcF, dLc, dLcT, dIRng1, dIRng2, dIStr, dITup, dILst, dYes, if_true, Bool.false_eq_true, if_false, eqS_ii, neS_ii, eqS_ss, neS_ss, decide_eq_true_eq, sq_tup, sq_lst, sq_rls, lo_lst, lo_rls, tr_lst, isi_tt, isi_st, isi_nt, isi_bt, isi_it, isi_lt, isi_ts, isi_ss, isi_ns, isi_bs, isi_is, isi_ls, List.append_nil, sz0, sz1, sz2, sz3, sz4, sz5, sz6, sl0, sl1, sl2, ty_put, ty_str, lo_put, sq_put, tr_put, reduceCtorEq, false_and, and_false, exists_false, or_false, false_or, Bool.not_false, Bool.not_true, List.isEmpty_nil, List.isEmpty_cons, app1_empty]
  rw [List.length_map]
  refine ⟨(max 1 (min 2 ns.length)), by omega, by omega, W1 ns, ⟨_, _, _, _, _, _, _, _, _, _, rfl⟩, fun _ _ _ _ _ => trivial, ?_, ?_⟩
  rotate_left
  · rintro s' R' ⟨j1, j2, j3, j4, j5, j6, j7, j8, j9, j10, rfl⟩
    have e1 : Str.ofString "a" = wordS (txt (leaf (Str.ofString "a"))) := by decide +kernel
    have k1 : ∀ z ∈ leaves (leaf (Str.ofString "abcdef")), PyData.strOk z = true := by decide +kernel
    have k2 : ∀ z ∈ leaves (node (leaf (Str.ofString "a")) (leaf (Str.ofString "b"))), PyData.strOk z = true := by decide +kernel
    refine ⟨leaf (Str.ofString "a"), rfl, by decide, by decide +kernel, ?_⟩
    rw [← e1]
    have r1 : ∀ {R : Rs} {Q : DK} {E : DXK}, Q (.str (Str.ofString "abcdef")) R → spRead C [.str (Str.ofString "abcdef")] R Q E := fun {R Q E} h => by
      refine ⟨_, rfl, .inl ⟨_, rfl, okR_small (by decide +kernel) (by decide +kernel), ?_⟩⟩
      rw [show readT (Str.ofString "abcdef") = some (leaf (Str.ofString "abcdef")) from by decide +kernel]
      exact h
    have r2 : ∀ {R : Rs} {Q : DK} {E : DXK}, Q (.tup [.str (Str.ofString "a"), .str (Str.ofString "b")]) R → spRead C [.str (Str.ofString "(a b)")] R Q E := fun {R Q E} h => by
      refine ⟨_, rfl, .inl ⟨_, rfl, okR_small (by decide +kernel) (by decide +kernel), ?_⟩⟩
      rw [show readT (Str.ofString "(a b)") = some (node (leaf (Str.ofString "a")) (leaf (Str.ofString "b"))) from by decide +kernel]
      exact h
    simp only [dSeq, dCallL, dLam, dJoin, dJs, dFmtS, dRepl, dRaise, dCallX, dDelTail, dAugL, dXF, dAsg, dIf, dIfS, dB, dAnd, dOr, dNot, dAndV, dOrV, dNotV, dChain, dOp, dUn, dVar, dC, rdI0, rdI, dCB, dCall, rd1, dCons, dNil, dgName, dgSub, dgTup, dgLst, dSortSet, dgCons, dgNil, rdSetL, dRet, dLst, dLstF, dTup, dDrop, dNext, dPar, dBM, dBM0, dSl, dPart, dNoPart, dstart, dwipe, List.map_cons, List.map_nil, List.length_cons, List.length_nil, List.replicate_succ, List.replicate_zero, List.cons_append, List.nil_append, List.set_cons_zero, List.set_cons_succ, List.getElem?_cons_zero, List.getElem?_cons_succ, Nat.reduceAdd, Nat.reduceSub, Option.some.injEq, D.int.injEq, D.bl.injEq, D.str.injEq, D.ref.injEq, D.ty.injEq, D.tup.injEq, D.lst.injEq, D.rls.injEq, RO.lst.injEq, List.cons.injEq, exists_and_left, exists_eq_left', exists_eq_left, and_true, true_and, put_same, put_put, at0, at1, at2, ix30, ix31, ix32, and_assoc, dLcF, dLc, dLcT, dIRng1, dIRng2, dIStr, dITup, dILst, dYes, if_true, Bool.false_eq_true, if_false, eqS_ii, neS_ii, eqS_ss, neS_ss, decide_eq_true_eq, sq_tup, sq_lst, sq_rls, lo_lst, lo_rls, tr_lst, isi_tt, isi_st, isi_nt, isi_bt, isi_it, isi_lt, isi_ts, isi_ss, isi_ns, isi_bs, isi_is, isi_ls, List.append_nil, sz0, sz1, sz2, sz3, sz4, sz5, sz6, sl0, sl1, sl2, ty_put, ty_str, lo_put, sq_put, tr_put, reduceCtorEq, false_and, and_false, exists_false, or_false, false_or, Bool.not_false, Bool.not_true, List.isEmpty_nil, List.isEmpty_cons, app1_empty]
    refine r1 (eqTS (t := leaf (Str.ofString "abcdef")) (u := leaf (Str.ofString "abcdef")) k1 k1 (by decide) (by decide) ⟨_, rfl, ?_⟩)
    rw [if_pos (by simp)]
    refine r2 (eqTS (t := node (leaf (Str.ofString "a")) (leaf (Str.ofString "b"))) (u := node (leaf (Str.ofString "a")) (leaf (Str.ofString "b"))) k2 k2 (by decide) (by decide) ?_)
    rw [decide_eq_true rfl]
    exact fin (q _)
  rintro i x s' R' hx ⟨j1, j2, j3, j4, j5, j6, j7, j8, j9, j10, rfl⟩
  obtain ⟨rfl, hi⟩ := range_step hx
  simp only [dSeq, dCallL, dLam, dJoin, dJs, dFmtS, dRepl, dRaise, dCallX, dDelTail, dAugL, dXF, dAsg, dIf, dIfS, dB, dAnd, dOr, dNot, dAndV, dOrV, dNotV, dChain, dOp, dUn, dVar, dC, rdI0, rdI, dCB, dCall, rd1, dCons, dNil, dgName, dgSub, dgTup, dgLst, dSortSet, dgCons, dgNil, rdSetL, dRet, dLst, dLstF, dTup, dDrop, dNext, dPar, dBM, dBM0, dSl, dPart, dNoPart, dstart, dwipe, List.map_cons, List.map_nil, List.length_cons, List.length_nil, List.replicate_succ, List.replicate_zero, List.cons_append, List.nil_append, List.set_cons_zero, List.set_cons_succ, List.getElem?_cons_zero, List.getElem?_cons_succ, Nat.reduceAdd, Nat.reduceSub, Option.some.injEq, D.int.injEq, D.bl.injEq, D.str.injEq, D.ref.injEq, D.ty.injEq, D.tup.injEq, D.lst.injEq, D.rls.injEq, RO.lst.injEq, List.cons.injEq, exists_and_left, exists_eq_left', exists_eq_left, and_true, true_and, put_same, put_put, at0, at1, at2, ix30, ix31, ix32, and_assoc, dLcF, dLc, dLcT, dIRng1, dIRng2, dIStr, dITup, dILst, dYes, if_true, Bool.false_eq_true, if_false, eqS_ii, neS_ii, eqS_ss, neS_ss, decide_eq_true_eq, sq_tup, sq_lst, sq_rls, lo_lst, lo_rls, tr_lst, isi_tt, isi_st, isi_nt, isi_bt, isi_it, isi_lt, isi_ts, isi_ss, isi_ns, isi_bs, isi_is, isi_ls, List.append_nil, sz0, sz1, sz2, sz3, sz4, sz5, sz6, sl0, sl1, sl2, ty_put, ty_str, lo_put, sq_put, tr_put, reduceCtorEq, false_and, and_false, exists_false, or_false, false_or, Bool.not_false, Bool.not_true, List.isEmpty_nil, List.isEmpty_cons, app1_empty]
  refine ⟨ns, _, rfl, by omega, by omega, fun b o hb hB => ?_⟩
  refine ⟨M3 ns, ?_, ?_⟩
  · simp only [dSeq, dCallL, dLam, dJoin, dJs, dFmtS, dRepl, dRaise, dCallX, dDelTail, dAugL, dXF, dAsg, dIf, dIfS, dB, dAnd, dOr, dNot, dAndV, dOrV, dNotV, dChain, dOp, dUn, dVar, dC, rdI0, rdI, dCB, dCall, rd1, dCons, dNil, dgName, dgSub, dgTup, dgLst, dSortSet, dgCons, dgNil, rdSetL, dRet, dLst, dLstF, dTup, dDrop, dNext, dPar, dBM, dBM0, dSl, dPart, dNoPart, dstart, dwipe, List.map_cons, List.map_nil, List.length_cons, List.length_nil, List.replicate_succ, List.replicate_zero, List.cons_append, List.nil_append, List.set_cons_zero, List.set_cons_succ, List.getElem?_cons_zero, List.getElem?_cons_succ, Nat.reduceAdd, Nat.reduceSub, Option.some.injEq, D.int.injEq, D.bl.injEq, D.str.injEq, D.ref.injEq, D.ty.injEq, D.tup.injEq, D.lst.injEq, D.rls.injEq, RO.lst.injEq, List.cons.injEq, exists_and_left, exists_eq_left', exists_eq_left, and_true, true_and, put_same, put_put, at0, at1, at2, ix30, ix31, ix32, and_assoc, dLcF, dLc, dLcT, dIRng1, dIRng2, dIStr, dITup, dILst, dYes, if_true, Bool.false_eq_true, if_false, eqS_ii, neS_ii, eqS_ss, neS_ss, decide_eq_true_eq, sq_tup, sq_lst, sq_rls, lo_lst, lo_rls, tr_lst, isi_tt, isi_st, isi_nt, isi_bt, isi_it, isi_lt, isi_ts, isi_ss, isi_ns, isi_bs, isi_is, isi_ls, List.append_nil, sz0, sz1, sz2, sz3, sz4, sz5, sz6, sl0, sl1, sl2, ty_put, ty_str, lo_put, sq_put, tr_put, reduceCtorEq, false_and, and_false, exists_false, or_false, false_or, Bool.not_false, Bool.not_true, List.isEmpty_nil, List.isEmpty_cons, app1_empty]
    refine take_ok hB (by decide) (by decide) fun v o2 v0 v1 hB2 => ⟨v, rfl, b, (1 + v).toNat, by rw [Int.toNat_of_nonneg (by omega)], hB2, by omega, fun xs o2 hx hB3 => ?_⟩
    exact ⟨xs, b, by rw [hx.1]; omega, by rw [hx.1]; omega, hx.2.2, hB3, _, _, _, _, _, _, _, _, rfl⟩
  rintro s1 R1 ⟨xs, b, hx0, hx3, hxs, hB, j1, j4, j5, j6, j7, j8, j9, j10, rfl⟩
  clear hx hi
  simp only [dFor, dSeq, dCallL, dLam, dJoin, dJs, dFmtS, dRepl, dRaise, dCallX, dDelTail, dAugL, dXF, dAsg, dIf, dIfS, dB, dAnd, dOr, dNot, dAndV, dOrV, dNotV, dChain, dOp, dUn, dVar, dC, rdI0, rdI, dCB, dCall, rd1, dCons, dNil, dgName, dgSub, dgTup, dgLst, dSortSet, dgCons, dgNil, rdSetL, dRet, dLst, dLstF, dTup, dDrop, dNext, dPar, dBM, dBM0, dSl, dPart, dNoPart, dstart, dwipe, List.map_cons, List.map_nil, List.length_cons, List.length_nil, List.replicate_succ, List.replicate_zero, List.cons_append, List.nil_append, List.set_cons_zero, List.set_cons_succ, List.getElem?_cons_zero, List.getElem?_cons_succ, Nat.reduceAdd, Nat.reduceSub, Option.some.injEq, D.int.injEq, D.bl.injEq, D.str.injEq, D.ref.injEq, D.ty.injEq, D.tup.injEq, D.lst.injEq, D.rls.injEq, RO.lst.injEq, List.cons.injEq, exists_and_left, exists_eq_left', exists_eq_left, and_true, true_and, put_same, put_put, at0, at1, at2, ix30, ix31, ix32, and_assoc, dLcF, dLc, dLcT, dIRng1, dIRng2, dIStr, dITup, dILst, dYes, if_true, Bool.false_eq_true, if_false, eqS_ii, neS_ii, eqS_ss, neS_ss, decide_eq_true_eq, sq_tup, sq_lst, sq_rls, lo_lst, lo_rls, tr_lst, isi_tt, isi_st, isi_nt, isi_bt, isi_it, isi_lt, isi_ts, isi_ss, isi_ns, isi_bs, isi_is, isi_ls, List.append_nil, sz0, sz1, sz2, sz3, sz4, sz5, sz6, sl0, sl1, sl2, ty_put, ty_str, lo_put, sq_put, tr_put, reduceCtorEq, false_and, and_false, exists_false, or_false, false_or, Bool.not_false, Bool.not_true, List.isEmpty_nil, List.isEmpty_cons, app1_empty]
  refine ⟨8, rfl, by omega, W2 ns xs b, ⟨hB, _, _, _, _, _, _, _, _, rfl⟩, fun _ _ _ _ _ => trivial, ?_, ?_⟩
  · clear hB
    rintro i x s' R' hx ⟨hB, j1, j4, j5, j6, j7, j8, j9, j10, rfl⟩
    simp only [dSeq, dCallL, dLam, dJoin, dJs, dFmtS, dRepl, dRaise, dCallX, dDelTail, dAugL, dXF, dAsg, dIf, dIfS, dB, dAnd, dOr, dNot, dAndV, dOrV, dNotV, dChain, dOp, dUn, dVar, dC, rdI0, rdI, dCB, dCall, rd1, dCons, dNil, dgName, dgSub, dgTup, dgLst, dSortSet, dgCons, dgNil, rdSetL, dRet, dLst, dLstF, dTup, dDrop, dNext, dPar, dBM, dBM0, dSl, dPart, dNoPart, dstart, dwipe, List.map_cons, List.map_nil, List.length_cons, List.length_nil, List.replicate_succ, List.replicate_zero, List.cons_append, List.nil_append, List.set_cons_zero, List.set_cons_succ, List.getElem?_cons_zero, List.getElem?_cons_succ, Nat.reduceAdd, Nat.reduceSub, Option.some.injEq, D.int.injEq, D.bl.injEq, D.str.injEq, D.ref.injEq, D.ty.injEq, D.tup.injEq, D.lst.injEq, D.rls.injEq, RO.lst.injEq, List.cons.injEq, exists_and_left, exists_eq_left', exists_eq_left, and_true, true_and, put_same, put_put, at0, at1, at2, ix30, ix31, ix32, and_assoc, dLcF, dLc, dLcT, dIRng1, dIRng2, dIStr, dITup, dILst, dYes, if_true, Bool.false_eq_true, if_false, eqS_ii, neS_ii, eqS_ss, neS_ss, decide_eq_true_eq, sq_tup, sq_lst, sq_rls, lo_lst, lo_rls, tr_lst, isi_tt, isi_st, isi_nt, isi_bt, isi_it, isi_lt, isi_ts, isi_ss, isi_ns, isi_bs, isi_is, isi_ls, List.append_nil, sz0, sz1, sz2, sz3, sz4, sz5, sz6, sl0, sl1, sl2, ty_put, ty_str, lo_put, sq_put, tr_put, reduceCtorEq, false_and, and_false, exists_false, or_false, false_or, Bool.not_false, Bool.not_true, List.isEmpty_nil, List.isEmpty_cons, app1_empty]
    refine ⟨M5 ns xs b, ?_, ?_⟩
    · simp only [dSeq, dCallL, dLam, dJoin, dJs, dFmtS, dRepl, dRaise, dCallX, dDelTail, dAugL, dXF, dAsg, dIf, dIfS, dB, dAnd, dOr, dNot, dAndV, dOrV, dNotV, dChain, dOp, dUn, dVar, dC, rdI0, rdI, dCB, dCall, rd1, dCons, dNil, dgName, dgSub, dgTup, dgLst, dSortSet, dgCons, dgNil, rdSetL, dRet, dLst, dLstF, dTup, dDrop, dNext, dPar, dBM, dBM0, dSl, dPart, dNoPart, dstart, dwipe, List.map_cons, List.map_nil, List.length_cons, List.length_nil, List.replicate_succ, List.replicate_zero, List.cons_append, List.nil_append, List.set_cons_zero, List.set_cons_succ, List.getElem?_cons_zero, List.getElem?_cons_succ, Nat.reduceAdd, Nat.reduceSub, Option.some.injEq, D.int.injEq, D.bl.injEq, D.str.injEq, D.ref.injEq, D.ty.injEq, D.tup.injEq, D.lst.injEq, D.rls.injEq, RO.lst.injEq, List.cons.injEq, exists_and_left, exists_eq_left', exists_eq_left, and_true, true_and, put_same, put_put, at0, at1, at2, ix30, ix31, ix32, and_assoc, dLcF, dLc, dLcT, dIRng1, dIRng2, dIStr, dITup, dILst, dYes, if_true, Bool.false_eq_true, if_false, eqS_ii, neS_ii, eqS_ss, neS_ss, decide_eq_true_eq, sq_tup, sq_lst, sq_rls, lo_lst, lo_rls, tr_lst, isi_tt, isi_st, isi_nt, isi_bt, isi_it, isi_lt, isi_ts, isi_ss, isi_ns, isi_bs, isi_is, isi_ls, List.append_nil, sz0, sz1, sz2, sz3, sz4, sz5, sz6, sl0, sl1, sl2, ty_put, ty_str, lo_put, sq_put, tr_put, reduceCtorEq, false_and, and_false, exists_false, or_false, false_or, Bool.not_false, Bool.not_true, List.isEmpty_nil, List.isEmpty_cons, app1_empty]
      refine ⟨b, xs, 12, rfl, hB, hx0, by omega, by omega, by omega, fun row o1 r0 r1 r2 hB2 => ⟨b, row, rfl, hB2, r0, by omega, by omega, fun t o3 lt hB3 => ?_⟩⟩
      have nt : NT t := fun y hy => hxs y (r2 y (by rw [← lt]; exact hy))
      have st : size t ≤ 12 := by rw [← leaves_len, lt]; omega
      exact ⟨t, nt, st, hB3, _, _, _, _, _, _, _, rfl⟩
    clear hB hx
    rintro s1 R1 ⟨t, nt, st, hB, j1, j4, j6, j7, j8, j9, j10, rfl⟩
    have tn := txt_lenN nt
    refine ⟨M6 ns xs b t, ?_, ?_⟩
    · simp only [dSeq, dCallL, dLam, dJoin, dJs, dFmtS, dRepl, dRaise, dCallX, dDelTail, dAugL, dXF, dAsg, dIf, dIfS, dB, dAnd, dOr, dNot, dAndV, dOrV, dNotV, dChain, dOp, dUn, dVar, dC, rdI0, rdI, dCB, dCall, rd1, dCons, dNil, dgName, dgSub, dgTup, dgLst, dSortSet, dgCons, dgNil, rdSetL, dRet, dLst, dLstF, dTup, dDrop, dNext, dPar, dBM, dBM0, dSl, dPart, dNoPart, dstart, dwipe, List.map_cons, List.map_nil, List.length_cons, List.length_nil, List.replicate_succ, List.replicate_zero, List.cons_append, List.nil_append, List.set_cons_zero, List.set_cons_succ, List.getElem?_cons_zero, List.getElem?_cons_succ, Nat.reduceAdd, Nat.reduceSub, Option.some.injEq, D.int.injEq, D.bl.injEq, D.str.injEq, D.ref.injEq, D.ty.injEq, D.tup.injEq, D.lst.injEq, D.rls.injEq, RO.lst.injEq, List.cons.injEq, exists_and_left, exists_eq_left', exists_eq_left, and_true, true_and, put_same, put_put, at0, at1, at2, ix30, ix31, ix32, and_assoc, dLcF, dLc, dLcT, dIRng1, dIRng2, dIStr, dITup, dILst, dYes, if_true, Bool.false_eq_true, if_false, eqS_ii, neS_ii, eqS_ss, neS_ss, decide_eq_true_eq, sq_tup, sq_lst, sq_rls, lo_lst, lo_rls, tr_lst, isi_tt, isi_st, isi_nt, isi_bt, isi_it, isi_lt, isi_ts, isi_ss, isi_ns, isi_bs, isi_is, isi_ls, List.append_nil, sz0, sz1, sz2, sz3, sz4, sz5, sz6, sl0, sl1, sl2, ty_put, ty_str, lo_put, sq_put, tr_put, reduceCtorEq, false_and, and_false, exists_false, or_false, false_or, Bool.not_false, Bool.not_true, List.isEmpty_nil, List.isEmpty_cons, app1_empty]
      exact ⟨t, rfl, by omega, by omega, hB, _, _, _, _, _, _, rfl⟩
    clear hB
    rintro s1 R1 ⟨hB, j1, j4, j7, j8, j9, j10, rfl⟩
    simp only [dSeq, dCallL, dLam, dJoin, dJs, dFmtS, dRepl, dRaise, dCallX, dDelTail, dAugL, dXF, dAsg, dIf, dIfS, dB, dAnd, dOr, dNot, dAndV, dOrV, dNotV, dChain, dOp, dUn, dVar, dC, rdI0, rdI, dCB, dCall, rd1, dCons, dNil, dgName, dgSub, dgTup, dgLst, dSortSet, dgCons, dgNil, rdSetL, dRet, dLst, dLstF, dTup, dDrop, dNext, dPar, dBM, dBM0, dSl, dPart, dNoPart, dstart, dwipe, List.map_cons, List.map_nil, List.length_cons, List.length_nil, List.replicate_succ, List.replicate_zero, List.cons_append, List.nil_append, List.set_cons_zero, List.set_cons_succ, List.getElem?_cons_zero, List.getElem?_cons_succ, Nat.reduceAdd, Nat.reduceSub, Option.some.injEq, D.int.injEq, D.bl.injEq, D.str.injEq, D.ref.injEq, D.ty.injEq, D.tup.injEq, D.lst.injEq, D.rls.injEq, RO.lst.injEq, List.cons.injEq, exists_and_left, exists_eq_left', exists_eq_left, and_true, true_and, put_same, put_put, at0, at1, at2, ix30, ix31, ix32, and_assoc, dLcF, dLc, dLcT, dIRng1, dIRng2, dIStr, dITup, dILst, dYes, if_true, Bool.false_eq_true, if_false, eqS_ii, neS_ii, eqS_ss, neS_ss, decide_eq_true_eq, sq_tup, sq_lst, sq_rls, lo_lst, lo_rls, tr_lst, isi_tt, isi_st, isi_nt, isi_bt, isi_it, isi_lt, isi_ts, isi_ss, isi_ns, isi_bs, isi_is, isi_ls, List.append_nil, sz0, sz1, sz2, sz3, sz4, sz5, sz6, sl0, sl1, sl2, ty_put, ty_str, lo_put, sq_put, tr_put, reduceCtorEq, false_and, and_false, exists_false, or_false, false_or, Bool.not_false, Bool.not_true, List.isEmpty_nil, List.isEmpty_cons, app1_empty]
    have sm := sm_nt nt st
    refine show_ok (by omega) (by omega) ?_
    simp only [dSeq, dCallL, dLam, dJoin, dJs, dFmtS, dRepl, dRaise, dCallX, dDelTail, dAugL, dXF, dAsg, dIf, dIfS, dB, dAnd, dOr, dNot, dAndV, dOrV, dNotV, dChain, dOp, dUn, dVar, dC, rdI0, rdI, dCB, dCall, rd1, dCons, dNil, dgName, dgSub, dgTup, dgLst, dSortSet, dgCons, dgNil, rdSetL, dRet, dLst, dLstF, dTup, dDrop, dNext, dPar, dBM, dBM0, dSl, dPart, dNoPart, dstart, dwipe, List.map_cons, List.map_nil, List.length_cons, List.length_nil, List.replicate_succ, List.replicate_zero, List.cons_append, List.nil_append, List.set_cons_zero, List.set_cons_succ, List.getElem?_cons_zero, List.getElem?_cons_succ, Nat.reduceAdd, Nat.reduceSub, Option.some.injEq, D.int.injEq, D.bl.injEq, D.str.injEq, D.ref.injEq, D.ty.injEq, D.tup.injEq, D.lst.injEq, D.rls.injEq, RO.lst.injEq, List.cons.injEq, exists_and_left, exists_eq_left', exists_eq_left, and_true, true_and, put_same, put_put, at0, at1, at2, ix30, ix31, ix32, and_assoc, dLcF, dLc, dLcT, dIRng1, dIRng2, dIStr, dITup, dILst, dYes, if_true, Bool.false_eq_true, if_false, eqS_ii, neS_ii, eqS_ss, neS_ss, decide_eq_true_eq, sq_tup, sq_lst, sq_rls, lo_lst, lo_rls, tr_lst, isi_tt, isi_st, isi_nt, isi_bt, isi_it, isi_lt, isi_ts, isi_ss, isi_ns, isi_bs, isi_is, isi_ls, List.append_nil, sz0, sz1, sz2, sz3, sz4, sz5, sz6, sl0, sl1, sl2, ty_put, ty_str, lo_put, sq_put, tr_put, reduceCtorEq, false_and, and_false, exists_false, or_false, false_or, Bool.not_false, Bool.not_true, List.isEmpty_nil, List.isEmpty_cons, app1_empty]
    rw [if_neg (by simp)]
    refine read_ok nt (by omega) ⟨_, sm.asPy, sm.r1, sm.r2, sm.r3, _, sm.asPy, sm.r1, sm.r2, sm.r3, ?_⟩
    rw [if_neg (by simp)]
    refine show_ok (by omega) (by omega) (read_ok nt (by omega) (neT nt nt (by have := height_lt t; omega) (by have := height_lt t; omega) ⟨_, rfl, ?_⟩))
    rw [if_neg (by simp)]
    exact ⟨hB, _, _, _, _, _, _, _, _, rfl⟩
  · clear hB
    rintro s' R' ⟨hB, j1, j4, j5, j6, j7, j8, j9, j10, rfl⟩
    refine ⟨M9 ns xs, ?_, ?_⟩
    · simp only [dSeq, dCallL, dLam, dJoin, dJs, dFmtS, dRepl, dRaise, dCallX, dDelTail, dAugL, dXF, dAsg, dIf, dIfS, dB, dAnd, dOr, dNot, dAndV, dOrV, dNotV, dChain, dOp, dUn, dVar, dC, rdI0, rdI, dCB, dCall, rd1, dCons, dNil, dgName, dgSub, dgTup, dgLst, dSortSet, dgCons, dgNil, rdSetL, dRet, dLst, dLstF, dTup, dDrop, dNext, dPar, dBM, dBM0, dSl, dPart, dNoPart, dstart, dwipe, List.map_cons, List.map_nil, List.length_cons, List.length_nil, List.replicate_succ, List.replicate_zero, List.cons_append, List.nil_append, List.set_cons_zero, List.set_cons_succ, List.getElem?_cons_zero, List.getElem?_cons_succ, Nat.reduceAdd, Nat.reduceSub, Option.some.injEq, D.int.injEq, D.bl.injEq, D.str.injEq, D.ref.injEq, D.ty.injEq, D.tup.injEq, D.lst.injEq, D.rls.injEq, RO.lst.injEq, List.cons.injEq, exists_and_left, exists_eq_left', exists_eq_left, and_true, true_and, put_same, put_put, at0, at1, at2, ix30, ix31, ix32, and_assoc, dLcF, dLc, dLcT, dIRng1, dIRng2, dIStr, dITup, dILst, dYes, if_true, Bool.false_eq_true, if_false, eqS_ii, neS_ii, eqS_ss, neS_ss, decide_eq_true_eq, sq_tup, sq_lst, sq_rls, lo_lst, lo_rls, tr_lst, isi_tt, isi_st, isi_nt, isi_bt, isi_it, isi_lt, isi_ts, isi_ss, isi_ns, isi_bs, isi_is, isi_ls, List.append_nil, sz0, sz1, sz2, sz3, sz4, sz5, sz6, sl0, sl1, sl2, ty_put, ty_str, lo_put, sq_put, tr_put, reduceCtorEq, false_and, and_false, exists_false, or_false, false_or, Bool.not_false, Bool.not_true, List.isEmpty_nil, List.isEmpty_cons, app1_empty]
      refine take_ok hB (by decide) (by decide) fun v o1 v0 v1 hB2 => ?_
      obtain ⟨m, rfl⟩ : ∃ m : Nat, v = m := ⟨v.toNat, by omega⟩
      refine ⟨m, rfl, ?_⟩
      rw [show (2 + (m : Int)) = ((m + 1 : Nat) : Int) + 1 by omega]
      exact ⟨m + 1, by omega, _, _, _, _, _, _, _, _, rfl⟩
    rintro s1 R2 ⟨n, hn1, j1, j2, j4, j5, j6, j8, j9, j10, rfl⟩
    obtain ⟨x, mx, ex⟩ : ∃ x ∈ xs, atI (xs.map D.str) 0 = some (.str x) := by
      match xs, hx0 with
      | x :: r, _ => exact ⟨x, by simp, by simp only [List.map_cons, at0]⟩
    obtain ⟨y, my, ey⟩ : ∃ y ∈ xs, atI (xs.map D.str) (-1) = some (.str y) := by
      rcases List.eq_nil_or_concat xs with rfl | ⟨r, y, rfl⟩
      · simp at hx0
      · refine ⟨y, by simp, ?_⟩
        rw [List.concat_eq_append, List.map_append]
        exact atL1 _ _
    have nx := hxs x mx
    have ny := hxs y my
    have lx := nx.len
    have ly := ny.len
    have hlx : x.length = (tl x).length := DL.len_tl x
    have hly : y.length = (tl y).length := DL.len_tl y
    refine ⟨M10 ns xs n x, ?_, ?_⟩
    · simp only [ex, dSeq, dCallL, dLam, dJoin, dJs, dFmtS, dRepl, dRaise, dCallX, dDelTail, dAugL, dXF, dAsg, dIf, dIfS, dB, dAnd, dOr, dNot, dAndV, dOrV, dNotV, dChain, dOp, dUn, dVar, dC, rdI0, rdI, dCB, dCall, rd1, dCons, dNil, dgName, dgSub, dgTup, dgLst, dSortSet, dgCons, dgNil, rdSetL, dRet, dLst, dLstF, dTup, dDrop, dNext, dPar, dBM, dBM0, dSl, dPart, dNoPart, dstart, dwipe, List.map_cons, List.map_nil, List.length_cons, List.length_nil, List.replicate_succ, List.replicate_zero, List.cons_append, List.nil_append, List.set_cons_zero, List.set_cons_succ, List.getElem?_cons_zero, List.getElem?_cons_succ, Nat.reduceAdd, Nat.reduceSub, Option.some.injEq, D.int.injEq, D.bl.injEq, D.str.injEq, D.ref.injEq, D.ty.injEq, D.tup.injEq, D.lst.injEq, D.rls.injEq, RO.lst.injEq, List.cons.injEq, exists_and_left, exists_eq_left', exists_eq_left, and_true, true_and, put_same, put_put, at0, at1, at2, ix30, ix31, ix32, and_assoc, dLcF, dLc, dLcT, dIRng1, dIRng2, dIStr, dITup, dILst, dYes, if_true, Bool.false_eq_true, if_false, eqS_ii, neS_ii, eqS_ss, neS_ss, decide_eq_true_eq, sq_tup, sq_lst, sq_rls, lo_lst, lo_rls, tr_lst, isi_tt, isi_st, isi_nt, isi_bt, isi_it, isi_lt, isi_ts, isi_ss, isi_ns, isi_bs, isi_is, isi_ls, List.append_nil, sz0, sz1, sz2, sz3, sz4, sz5, sz6, sl0, sl1, sl2, ty_put, ty_str, lo_put, sq_put, tr_put, reduceCtorEq, false_and, and_false, exists_false, or_false, false_or, Bool.not_false, Bool.not_true, List.isEmpty_nil, List.isEmpty_cons, app1_empty]
      rw [show (n : Int) + 1 - 1 = n by omega, mul_lp]
      refine ⟨mulOk_lp (by omega), by rw [word_len, List.length_replicate, sizeLine_eq]; omega, j1, j2, j4, j5, j6, j10, ?_⟩
      rw [show wordS (List.replicate n 40) ++ x = wordS (List.replicate n 40 ++ tl x) by rw [← word_app, word_tl]]
    rintro s1 R3 ⟨j1, j2, j4, j5, j6, j10, rfl⟩
    refine ⟨W12 ns n x y 0, ?_, ?_⟩
    · simp only [ex, ey, dSeq, dCallL, dLam, dJoin, dJs, dFmtS, dRepl, dRaise, dCallX, dDelTail, dAugL, dXF, dAsg, dIf, dIfS, dB, dAnd, dOr, dNot, dAndV, dOrV, dNotV, dChain, dOp, dUn, dVar, dC, rdI0, rdI, dCB, dCall, rd1, dCons, dNil, dgName, dgSub, dgTup, dgLst, dSortSet, dgCons, dgNil, rdSetL, dRet, dLst, dLstF, dTup, dDrop, dNext, dPar, dBM, dBM0, dSl, dPart, dNoPart, dstart, dwipe, List.map_cons, List.map_nil, List.length_cons, List.length_nil, List.replicate_succ, List.replicate_zero, List.cons_append, List.nil_append, List.set_cons_zero, List.set_cons_succ, List.getElem?_cons_zero, List.getElem?_cons_succ, Nat.reduceAdd, Nat.reduceSub, Option.some.injEq, D.int.injEq, D.bl.injEq, D.str.injEq, D.ref.injEq, D.ty.injEq, D.tup.injEq, D.lst.injEq, D.rls.injEq, RO.lst.injEq, List.cons.injEq, exists_and_left, exists_eq_left', exists_eq_left, and_true, true_and, put_same, put_put, at0, at1, at2, ix30, ix31, ix32, and_assoc, dLcF, dLc, dLcT, dIRng1, dIRng2, dIStr, dITup, dILst, dYes, if_true, Bool.false_eq_true, if_false, eqS_ii, neS_ii, eqS_ss, neS_ss, decide_eq_true_eq, sq_tup, sq_lst, sq_rls, lo_lst, lo_rls, tr_lst, isi_tt, isi_st, isi_nt, isi_bt, isi_it, isi_lt, isi_ts, isi_ss, isi_ns, isi_bs, isi_is, isi_ls, List.append_nil, sz0, sz1, sz2, sz3, sz4, sz5, sz6, sl0, sl1, sl2, ty_put, ty_str, lo_put, sq_put, tr_put, reduceCtorEq, false_and, and_false, exists_false, or_false, false_or, Bool.not_false, Bool.not_true, List.isEmpty_nil, List.isEmpty_cons, app1_empty]
      exact ⟨j1, j2, nms xs, j4, j6, by simp [cl, rt, txt, lt, td, word_tl]⟩
    rintro s1 R4 ⟨j1, j2, j3, j4, j6, rfl⟩
    refine ⟨W12 ns n x y n, ?_, ?_⟩
    · simp only [dFor, dSeq, dCallL, dLam, dJoin, dJs, dFmtS, dRepl, dRaise, dCallX, dDelTail, dAugL, dXF, dAsg, dIf, dIfS, dB, dAnd, dOr, dNot, dAndV, dOrV, dNotV, dChain, dOp, dUn, dVar, dC, rdI0, rdI, dCB, dCall, rd1, dCons, dNil, dgName, dgSub, dgTup, dgLst, dSortSet, dgCons, dgNil, rdSetL, dRet, dLst, dLstF, dTup, dDrop, dNext, dPar, dBM, dBM0, dSl, dPart, dNoPart, dstart, dwipe, List.map_cons, List.map_nil, List.length_cons, List.length_nil, List.replicate_succ, List.replicate_zero, List.cons_append, List.nil_append, List.set_cons_zero, List.set_cons_succ, List.getElem?_cons_zero, List.getElem?_cons_succ, Nat.reduceAdd, Nat.reduceSub, Option.some.injEq, D.int.injEq, D.bl.injEq, D.str.injEq, D.ref.injEq, D.ty.injEq, D.tup.injEq, D.lst.injEq, D.rls.injEq, RO.lst.injEq, List.cons.injEq, exists_and_left, exists_eq_left', exists_eq_left, and_true, true_and, put_same, put_put, at0, at1, at2, ix30, ix31, ix32, and_assoc, dLcF, dLc, dLcT, dIRng1, dIRng2, dIStr, dITup, dILst, dYes, if_true, Bool.false_eq_true, if_false, eqS_ii, neS_ii, eqS_ss, neS_ss, decide_eq_true_eq, sq_tup, sq_lst, sq_rls, lo_lst, lo_rls, tr_lst, isi_tt, isi_st, isi_nt, isi_bt, isi_it, isi_lt, isi_ts, isi_ss, isi_ns, isi_bs, isi_is, isi_ls, List.append_nil, sz0, sz1, sz2, sz3, sz4, sz5, sz6, sl0, sl1, sl2, ty_put, ty_str, lo_put, sq_put, tr_put, reduceCtorEq, false_and, and_false, exists_false, or_false, false_or, Bool.not_false, Bool.not_true, List.isEmpty_nil, List.isEmpty_cons, app1_empty]
      refine ⟨n, by omega, by omega, W12 ns n x y, ⟨_, _, _, _, _, rfl⟩, fun _ _ _ _ _ => trivial, ?_, ?_⟩
      · rintro i z s' R' hz ⟨j1, j2, j3, j4, j6, rfl⟩
        obtain ⟨rfl, hi⟩ := range_step hz
        have l1 := txt_lenN (lt_ok nx ny i).1
        have l2 := txt_lenN (rt_ok nx ny i).1
        rw [(lt_ok nx ny i).2, txt_lt] at l1
        rw [(rt_ok nx ny i).2] at l2
        simp only [List.length_append, List.length_replicate] at l1
        simp only [w40, w32, w41, dSeq, dCallL, dLam, dJoin, dJs, dFmtS, dRepl, dRaise, dCallX, dDelTail, dAugL, dXF, dAsg, dIf, dIfS, dB, dAnd, dOr, dNot, dAndV, dOrV, dNotV, dChain, dOp, dUn, dVar, dC, rdI0, rdI, dCB, dCall, rd1, dCons, dNil, dgName, dgSub, dgTup, dgLst, dSortSet, dgCons, dgNil, rdSetL, dRet, dLst, dLstF, dTup, dDrop, dNext, dPar, dBM, dBM0, dSl, dPart, dNoPart, dstart, dwipe, List.map_cons, List.map_nil, List.length_cons, List.length_nil, List.replicate_succ, List.replicate_zero, List.cons_append, List.nil_append, List.set_cons_zero, List.set_cons_succ, List.getElem?_cons_zero, List.getElem?_cons_succ, Nat.reduceAdd, Nat.reduceSub, Option.some.injEq, D.int.injEq, D.bl.injEq, D.str.injEq, D.ref.injEq, D.ty.injEq, D.tup.injEq, D.lst.injEq, D.rls.injEq, RO.lst.injEq, List.cons.injEq, exists_and_left, exists_eq_left', exists_eq_left, and_true, true_and, put_same, put_put, at0, at1, at2, ix30, ix31, ix32, and_assoc, dLcF, dLc, dLcT, dIRng1, dIRng2, dIStr, dITup, dILst, dYes, if_true, Bool.false_eq_true, if_false, eqS_ii, neS_ii, eqS_ss, neS_ss, decide_eq_true_eq, sq_tup, sq_lst, sq_rls, lo_lst, lo_rls, tr_lst, isi_tt, isi_st, isi_nt, isi_bt, isi_it, isi_lt, isi_ts, isi_ss, isi_ns, isi_bs, isi_is, isi_ls, List.append_nil, sz0, sz1, sz2, sz3, sz4, sz5, sz6, sl0, sl1, sl2, ty_put, ty_str, lo_put, sq_put, tr_put, reduceCtorEq, false_and, and_false, exists_false, or_false, false_or, Bool.not_false, Bool.not_true, List.isEmpty_nil, List.isEmpty_cons, app1_empty]
        have hA : ∀ a : List Nat, wordS a ++ wordS [32] ++ y ++ wordS [41] = wordS (a ++ [32] ++ tl y ++ [41]) := fun a => by rw [← word_app, ← word_app, ← word_app, word_tl]
        have hB : ∀ a : List Nat, wordS [40] ++ y ++ wordS [32] ++ wordS a ++ wordS [41] = wordS ([40] ++ tl y ++ [32] ++ a ++ [41]) := fun a => by rw [← word_app, ← word_app, ← word_app, ← word_app, word_tl]
        rw [hA, hB]
        simp only [app_len, word_len, List.length_append, List.length_replicate, List.length_cons, List.length_nil, sizeLine_eq]
        exact ⟨by omega, by omega, by omega, by omega, by omega, by omega, by omega, j1, j2, j3, some (.int i), j6, by simp [cl, rt, txt, lt, td]⟩
      · rintro s' R' ⟨j1, j2, j3, j4, j6, rfl⟩
        rw [List.length_map, List.length_range]
        exact ⟨_, _, _, _, _, rfl⟩
    rintro s1 R5 ⟨j1, j2, j3, j4, j6, rfl⟩
    simp only [dSeq, dCallL, dLam, dJoin, dJs, dFmtS, dRepl, dRaise, dCallX, dDelTail, dAugL, dXF, dAsg, dIf, dIfS, dB, dAnd, dOr, dNot, dAndV, dOrV, dNotV, dChain, dOp, dUn, dVar, dC, rdI0, rdI, dCB, dCall, rd1, dCons, dNil, dgName, dgSub, dgTup, dgLst, dSortSet, dgCons, dgNil, rdSetL, dRet, dLst, dLstF, dTup, dDrop, dNext, dPar, dBM, dBM0, dSl, dPart, dNoPart, dstart, dwipe, List.map_cons, List.map_nil, List.length_cons, List.length_nil, List.replicate_succ, List.replicate_zero, List.cons_append, List.nil_append, List.set_cons_zero, List.set_cons_succ, List.getElem?_cons_zero, List.getElem?_cons_succ, Nat.reduceAdd, Nat.reduceSub, Option.some.injEq, D.int.injEq, D.bl.injEq, D.str.injEq, D.ref.injEq, D.ty.injEq, D.tup.injEq, D.lst.injEq, D.rls.injEq, RO.lst.injEq, List.cons.injEq, exists_and_left, exists_eq_left', exists_eq_left, and_true, true_and, put_same, put_put, at0, at1, at2, ix30, ix31, ix32, and_assoc, dLcF, dLc, dLcT, dIRng1, dIRng2, dIStr, dITup, dILst, dYes, if_true, Bool.false_eq_true, if_false, eqS_ii, neS_ii, eqS_ss, neS_ss, decide_eq_true_eq, sq_tup, sq_lst, sq_rls, lo_lst, lo_rls, tr_lst, isi_tt, isi_st, isi_nt, isi_bt, isi_it, isi_lt, isi_ts, isi_ss, isi_ns, isi_bs, isi_is, isi_ls, List.append_nil, sz0, sz1, sz2, sz3, sz4, sz5, sz6, sl0, sl1, sl2, ty_put, ty_str, lo_put, sq_put, tr_put, reduceCtorEq, false_and, and_false, exists_false, or_false, false_or, Bool.not_false, Bool.not_true, List.isEmpty_nil, List.isEmpty_cons, app1_empty]
    obtain ⟨n1, z1⟩ := lt_ok nx ny n
    obtain ⟨n2, z2⟩ := rt_ok nx ny n
    have t1 := txt_lenN n1
    have t2 := txt_lenN n2
    rw [← txt_lt]
    refine show_ok (by omega) (by omega) ?_
    simp only [dSeq, dCallL, dLam, dJoin, dJs, dFmtS, dRepl, dRaise, dCallX, dDelTail, dAugL, dXF, dAsg, dIf, dIfS, dB, dAnd, dOr, dNot, dAndV, dOrV, dNotV, dChain, dOp, dUn, dVar, dC, rdI0, rdI, dCB, dCall, rd1, dCons, dNil, dgName, dgSub, dgTup, dgLst, dSortSet, dgCons, dgNil, rdSetL, dRet, dLst, dLstF, dTup, dDrop, dNext, dPar, dBM, dBM0, dSl, dPart, dNoPart, dstart, dwipe, List.map_cons, List.map_nil, List.length_cons, List.length_nil, List.replicate_succ, List.replicate_zero, List.cons_append, List.nil_append, List.set_cons_zero, List.set_cons_succ, List.getElem?_cons_zero, List.getElem?_cons_succ, Nat.reduceAdd, Nat.reduceSub, Option.some.injEq, D.int.injEq, D.bl.injEq, D.str.injEq, D.ref.injEq, D.ty.injEq, D.tup.injEq, D.lst.injEq, D.rls.injEq, RO.lst.injEq, List.cons.injEq, exists_and_left, exists_eq_left', exists_eq_left, and_true, true_and, put_same, put_put, at0, at1, at2, ix30, ix31, ix32, and_assoc, dLcF, dLc, dLcT, dIRng1, dIRng2, dIStr, dITup, dILst, dYes, if_true, Bool.false_eq_true, if_false, eqS_ii, neS_ii, eqS_ss, neS_ss, decide_eq_true_eq, sq_tup, sq_lst, sq_rls, lo_lst, lo_rls, tr_lst, isi_tt, isi_st, isi_nt, isi_bt, isi_it, isi_lt, isi_ts, isi_ss, isi_ns, isi_bs, isi_is, isi_ls, List.append_nil, sz0, sz1, sz2, sz3, sz4, sz5, sz6, sl0, sl1, sl2, ty_put, ty_str, lo_put, sq_put, tr_put, reduceCtorEq, false_and, and_false, exists_false, or_false, false_or, Bool.not_false, Bool.not_true, List.isEmpty_nil, List.isEmpty_cons, app1_empty]
    rw [if_neg (by simp)]
    refine read_ok n2 (by omega) (show_ok (by omega) (by omega) ?_)
    simp only [dSeq, dCallL, dLam, dJoin, dJs, dFmtS, dRepl, dRaise, dCallX, dDelTail, dAugL, dXF, dAsg, dIf, dIfS, dB, dAnd, dOr, dNot, dAndV, dOrV, dNotV, dChain, dOp, dUn, dVar, dC, rdI0, rdI, dCB, dCall, rd1, dCons, dNil, dgName, dgSub, dgTup, dgLst, dSortSet, dgCons, dgNil, rdSetL, dRet, dLst, dLstF, dTup, dDrop, dNext, dPar, dBM, dBM0, dSl, dPart, dNoPart, dstart, dwipe, List.map_cons, List.map_nil, List.length_cons, List.length_nil, List.replicate_succ, List.replicate_zero, List.cons_append, List.nil_append, List.set_cons_zero, List.set_cons_succ, List.getElem?_cons_zero, List.getElem?_cons_succ, Nat.reduceAdd, Nat.reduceSub, Option.some.injEq, D.int.injEq, D.bl.injEq, D.str.injEq, D.ref.injEq, D.ty.injEq, D.tup.injEq, D.lst.injEq, D.rls.injEq, RO.lst.injEq, List.cons.injEq, exists_and_left, exists_eq_left', exists_eq_left, and_true, true_and, put_same, put_put, at0, at1, at2, ix30, ix31, ix32, and_assoc, dLcF, dLc, dLcT, dIRng1, dIRng2, dIStr, dITup, dILst, dYes, if_true, Bool.false_eq_true, if_false, eqS_ii, neS_ii, eqS_ss, neS_ss, decide_eq_true_eq, sq_tup, sq_lst, sq_rls, lo_lst, lo_rls, tr_lst, isi_tt, isi_st, isi_nt, isi_bt, isi_it, isi_lt, isi_ts, isi_ss, isi_ns, isi_bs, isi_is, isi_ls, List.append_nil, sz0, sz1, sz2, sz3, sz4, sz5, sz6, sl0, sl1, sl2, ty_put, ty_str, lo_put, sq_put, tr_put, reduceCtorEq, false_and, and_false, exists_false, or_false, false_or, Bool.not_false, Bool.not_true, List.isEmpty_nil, List.isEmpty_cons, app1_empty]
    rw [if_neg (by simp)]
    refine read_ok n1 (by omega) (show_ok (by omega) (by omega) ?_)
    simp only [dSeq, dCallL, dLam, dJoin, dJs, dFmtS, dRepl, dRaise, dCallX, dDelTail, dAugL, dXF, dAsg, dIf, dIfS, dB, dAnd, dOr, dNot, dAndV, dOrV, dNotV, dChain, dOp, dUn, dVar, dC, rdI0, rdI, dCB, dCall, rd1, dCons, dNil, dgName, dgSub, dgTup, dgLst, dSortSet, dgCons, dgNil, rdSetL, dRet, dLst, dLstF, dTup, dDrop, dNext, dPar, dBM, dBM0, dSl, dPart, dNoPart, dstart, dwipe, List.map_cons, List.map_nil, List.length_cons, List.length_nil, List.replicate_succ, List.replicate_zero, List.cons_append, List.nil_append, List.set_cons_zero, List.set_cons_succ, List.getElem?_cons_zero, List.getElem?_cons_succ, Nat.reduceAdd, Nat.reduceSub, Option.some.injEq, D.int.injEq, D.bl.injEq, D.str.injEq, D.ref.injEq, D.ty.injEq, D.tup.injEq, D.lst.injEq, D.rls.injEq, RO.lst.injEq, List.cons.injEq, exists_and_left, exists_eq_left', exists_eq_left, and_true, true_and, put_same, put_put, at0, at1, at2, ix30, ix31, ix32, and_assoc, dLcF, dLc, dLcT, dIRng1, dIRng2, dIStr, dITup, dILst, dYes, if_true, Bool.false_eq_true, if_false, eqS_ii, neS_ii, eqS_ss, neS_ss, decide_eq_true_eq, sq_tup, sq_lst, sq_rls, lo_lst, lo_rls, tr_lst, isi_tt, isi_st, isi_nt, isi_bt, isi_it, isi_lt, isi_ts, isi_ss, isi_ns, isi_bs, isi_is, isi_ls, List.append_nil, sz0, sz1, sz2, sz3, sz4, sz5, sz6, sl0, sl1, sl2, ty_put, ty_str, lo_put, sq_put, tr_put, reduceCtorEq, false_and, and_false, exists_false, or_false, false_or, Bool.not_false, Bool.not_true, List.isEmpty_nil, List.isEmpty_cons, app1_empty]
    rw [if_neg (by simp)]
    exact ⟨_, _, _, _, _, _, _, _, _, _, rfl⟩
end

end Law
end
section
set_option Elab.async false
set_option maxRecDepth 100000
set_option maxHeartbeats 4000000
set_option linter.all false
set_option autoImplicit false
namespace Law
open PySem PySem.Spec PyProof.Rows L2 DL TL TrA TrA.Tr
/-! ### the program's top -/
theorem all_mk {l : PySem.W.OpenLaw} {w : World} {K : PySem.W.Frag} {h : Heap} {mg : Str → Option Value} {fa : Addr} (X : K.In h) (G : h.Ns mainGlobals mg) (hfa : mg "law" = some (.ref fa))
    {tc1 tP1 : Addr}
    {f1 : Addr} {od1 an1 : Option Addr} {sl1 : Array (Option Value)} {oc1 kV1 dc1 pm1 ct1 : Value} {cd1 : Value}
    {f2 : Addr} {od2 an2 : Option Addr} {sl2 : Array (Option Value)} {oc2 kV2 dc2 pm2 ct2 : Value} {cd2 : Value}
    {f3 : Addr} {od3 an3 : Option Addr} {sl3 : Array (Option Value)} {oc3 kV3 dc3 pm3 ct3 : Value} {cd3 : Value}
    {f4 : Addr} {od4 an4 : Option Addr} {sl4 : Array (Option Value)} {oc4 kV4 dc4 pm4 ct4 : Value} {cd4 : Value}
    {f5 : Addr} {od5 an5 : Option Addr} {sl5 : Array (Option Value)} {oc5 kV5 dc5 pm5 ct5 : Value} {cd5 : Value}
    {f6 : Addr} {od6 an6 : Option Addr} {sl6 : Array (Option Value)} {oc6 kV6 dc6 pm6 ct6 : Value}
    {f7 : Addr} {od7 an7 : Option Addr} {sl7 : Array (Option Value)} {oc7 kV7 dc7 pm7 ct7 : Value} {cd7 : Value}
    {f8 : Addr} {od8 an8 : Option Addr} {sl8 : Array (Option Value)} {oc8 kV8 dc8 pm8 ct8 : Value} {cd8 : Value}
    {f9 : Addr} {od9 an9 : Option Addr} {sl9 : Array (Option Value)} {oc9 kV9 dc9 pm9 ct9 : Value} {cd9 : Value}
    {f10 : Addr} {od10 an10 : Option Addr} {sl10 : Array (Option Value)} {oc10 kV10 dc10 pm10 ct10 : Value} {cd10 : Value}
    {f11 : Addr} {od11 an11 : Option Addr} {sl11 : Array (Option Value)} {oc11 kV11 dc11 pm11 ct11 : Value} {cd11 : Value}
    {f12 : Addr} {od12 an12 : Option Addr} {sl12 : Array (Option Value)} {oc12 kV12 dc12 pm12 ct12 : Value} {cd12 : Value}
    {f13 : Addr} {od13 an13 : Option Addr} {sl13 : Array (Option Value)} {oc13 kV13 dc13 pm13 ct13 : Value} {cd13 : Value}
    {gt1 : Tok}
    {gt2 : Tok}
    {ga3 : Addr} {go3 : Option Addr} {gi3 : Array Value} {gn3 : Nat} {gs3 : Array (Option Value)}
    {xC1 xf1 : Addr} {xn1 xq1 : Str} {xN1 : Addr} {xb1 : List Value} {xs1 : List Str} {xu1 : List Value} {xa1 : Bool} {xc1 : Option Bool} {xd1 : Option Addr} {xk1 xl1 xm1 xo1 xp1 : Option Value} {yc1 : Value} {yd1 : Option Addr} {yo1 yp1 : Value} {ya1 : Option Addr} {yv1 yt1 : Value} {ys1 : Array (Option Value)}
    (a1 : PySem.W.nsIn K mainGlobals "is_class_name" = some (some (.ref f1)))
    (l1 : K.lookup f1 = some ⟨oc1, od1, .func (PySem.W.fnOf "is_class_name" "is_class_name" (defArgs s_is_class_name) (defBody s_is_class_name) (defScope s_is_class_name) .none kV1 dc1 pm1 an1 cd1 ct1), sl1⟩)
    (c1 : PySem.W.codeIn K cd1 "is_class_name" = true) (k1 : PySem.W.keepIn K (.ref f1) = true)
    (a2 : PySem.W.nsIn K mainGlobals "is_tree_over" = some (some (.ref f2)))
    (l2 : K.lookup f2 = some ⟨oc2, od2, .func (PySem.W.fnOf "is_tree_over" "is_tree_over" (defArgs s_is_tree_over) (defBody s_is_tree_over) (defScope s_is_tree_over) .none kV2 dc2 pm2 an2 cd2 ct2), sl2⟩)
    (c2 : PySem.W.codeIn K cd2 "is_tree_over" = true) (k2 : PySem.W.keepIn K (.ref f2) = true)
    (a3 : PySem.W.nsIn K mainGlobals "is_tree" = some (some (.ref f3)))
    (l3 : K.lookup f3 = some ⟨oc3, od3, .func (PySem.W.fnOf "is_tree" "is_tree" (defArgs s_is_tree) (defBody s_is_tree) (defScope s_is_tree) .none kV3 dc3 pm3 an3 cd3 ct3), sl3⟩)
    (c3 : PySem.W.codeIn K cd3 "is_tree" = true) (k3 : PySem.W.keepIn K (.ref f3) = true)
    (a4 : PySem.W.nsIn K mainGlobals "read_tree" = some (some (.ref f4)))
    (l4 : K.lookup f4 = some ⟨oc4, od4, .func (PySem.W.fnOf "read_tree" "read_tree" (defArgs s_read_tree) (defBody s_read_tree) (defScope s_read_tree) .none kV4 dc4 pm4 an4 cd4 ct4), sl4⟩)
    (c4 : PySem.W.codeIn K cd4 "read_tree" = true) (k4 : PySem.W.keepIn K (.ref f4) = true)
    (a5 : PySem.W.nsIn K mainGlobals "folded" = some (some (.ref f5)))
    (l5 : K.lookup f5 = some ⟨oc5, od5, .func (PySem.W.fnOf "folded" "folded" (defArgs s_folded) (defBody s_folded) (defScope s_folded) .none kV5 dc5 pm5 an5 cd5 ct5), sl5⟩)
    (c5 : PySem.W.codeIn K cd5 "folded" = true) (k5 : PySem.W.keepIn K (.ref f5) = true)
    (a6 : PySem.W.nsIn K mainGlobals "show_tree" = some (some (.ref f6)))
    (l6 : K.lookup f6 = some ⟨oc6, od6, .func (PySem.W.fnOf "show_tree" "show_tree" (defArgs s_show_tree) (defBody s_show_tree) (defScope s_show_tree) .none kV6 dc6 pm6 an6 (.ref tc1) ct6), sl6⟩)
    (c6 : PySem.W.codeIn K (.ref tc1) "show_tree" = true) (k6 : PySem.W.keepIn K (.ref f6) = true)
    (a7 : PySem.W.nsIn K mainGlobals "_law_bag" = some (some (.ref f7)))
    (l7 : K.lookup f7 = some ⟨oc7, od7, .func (PySem.W.fnOf "_law_bag" "_law_bag" (defArgs s_law_bag) (defBody s_law_bag) (defScope s_law_bag) .none kV7 dc7 pm7 an7 cd7 ct7), sl7⟩)
    (c7 : PySem.W.codeIn K cd7 "_law_bag" = true) (k7 : PySem.W.keepIn K (.ref f7) = true)
    (a8 : PySem.W.nsIn K mainGlobals "_law_take" = some (some (.ref f8)))
    (l8 : K.lookup f8 = some ⟨oc8, od8, .func (PySem.W.fnOf "_law_take" "_law_take" (defArgs s_law_take) (defBody s_law_take) (defScope s_law_take) .none kV8 dc8 pm8 an8 cd8 ct8), sl8⟩)
    (c8 : PySem.W.codeIn K cd8 "_law_take" = true) (k8 : PySem.W.keepIn K (.ref f8) = true)
    (a9 : PySem.W.nsIn K mainGlobals "_law_names" = some (some (.ref f9)))
    (l9 : K.lookup f9 = some ⟨oc9, od9, .func (PySem.W.fnOf "_law_names" "_law_names" (defArgs s_law_names) (defBody s_law_names) (defScope s_law_names) .none kV9 dc9 pm9 an9 cd9 ct9), sl9⟩)
    (c9 : PySem.W.codeIn K cd9 "_law_names" = true) (k9 : PySem.W.keepIn K (.ref f9) = true)
    (a10 : PySem.W.nsIn K mainGlobals "_law_row" = some (some (.ref f10)))
    (l10 : K.lookup f10 = some ⟨oc10, od10, .func (PySem.W.fnOf "_law_row" "_law_row" (defArgs s_law_row) (defBody s_law_row) (defScope s_law_row) .none kV10 dc10 pm10 an10 cd10 ct10), sl10⟩)
    (c10 : PySem.W.codeIn K cd10 "_law_row" = true) (k10 : PySem.W.keepIn K (.ref f10) = true)
    (a11 : PySem.W.nsIn K mainGlobals "_law_tree" = some (some (.ref f11)))
    (l11 : K.lookup f11 = some ⟨oc11, od11, .func (PySem.W.fnOf "_law_tree" "_law_tree" (defArgs s_law_tree) (defBody s_law_tree) (defScope s_law_tree) .none kV11 dc11 pm11 an11 cd11 ct11), sl11⟩)
    (c11 : PySem.W.codeIn K cd11 "_law_tree" = true) (k11 : PySem.W.keepIn K (.ref f11) = true)
    (a12 : PySem.W.nsIn K mainGlobals "_law_text" = some (some (.ref f12)))
    (l12 : K.lookup f12 = some ⟨oc12, od12, .func (PySem.W.fnOf "_law_text" "_law_text" (defArgs s_law_text) (defBody s_law_text) (defScope s_law_text) .none kV12 dc12 pm12 an12 cd12 ct12), sl12⟩)
    (c12 : PySem.W.codeIn K cd12 "_law_text" = true) (k12 : PySem.W.keepIn K (.ref f12) = true)
    (a13 : PySem.W.nsIn K mainGlobals "law" = some (some (.ref f13)))
    (l13 : K.lookup f13 = some ⟨oc13, od13, .func (PySem.W.fnOf "law" "law" (defArgs s_law) (defBody s_law) (defScope s_law) .none kV13 dc13 pm13 an13 cd13 ct13), sl13⟩)
    (c13 : PySem.W.codeIn K cd13 "law" = true) (k13 : PySem.W.keepIn K (.ref f13) = true)
    (tg1 : h.get? tP1 = some tab0) (tq1 : PySem.W.codeHdIn K tc1 tP1 = true) (tn1 : K.lookup tP1 = none)
    (g1 : PySem.W.nsIn K mainGlobals "LETTERS" = some (some (.str abc gt1)))
    (g2 : PySem.W.nsIn K mainGlobals "LONGEST_NAME" = some (some (.int 6 gt2)))
    (g3 : PySem.W.nsIn K mainGlobals "RESERVED" = some (some (.ref ga3)))
    (gl3 : K.lookup ga3 = some ⟨.type "tuple", go3, .seq gi3 gn3, gs3⟩)
    (gx3 : StrsAre gi3.toList ["self", "other", "super", "raises"])
    (xa_1 : PySem.W.nsIn K mainGlobals "NoText" = some (some (.ref xC1)))
    (xb_1 : K.lookup xC1 = some (excClassObj xn1 xq1 xC1 xN1 xb1 [.type "ValueError", .type "Exception", .type "BaseException", .type "object"] true xs1 xu1 xa1 xc1 xd1 xk1 xl1 xm1 xo1 xp1 "ValueError.__new__"))
    (xc_1 : PySem.W.findIn K (.ref xC1) "__setattr__" = some (some (.builtin "object.__setattr__")))
    (xd_1 : PySem.W.findIn K (.ref xC1) "__getattribute__" = some (some (.builtin "BaseException.__getattribute__")))
    (xe_1 : PySem.W.findIn K (.ref xC1) "__getattr__" = some none)
    (xf_1 : PySem.W.findIn K (.ref xC1) "position" = some none)
    (xg_1 : PySem.W.findIn K (.ref xC1) "__init__" = some (some (.ref xf1)))
    (xh_1 : PySem.W.typeIn K (.ref xf1) = some (.type "function"))
    (xi_1 : K.lookup xf1 = some ⟨yc1, yd1, .func (PySem.W.fnOf "__init__" "NoText.__init__" iA_NoText iB_NoText iS_NoText .none .none yo1 yp1 ya1 yv1 yt1), ys1⟩)
    (xj_1 : PySem.W.codeIn K yv1 "NoText.__init__" = true)
    (xk_1 : PySem.W.keepIn K (.ref xC1) = true)
    (xl_1 : PySem.W.subIn K (.ref xC1) (.type "BaseException") = some true)
    (xm_1 : PySem.W.typeIn K (.ref xC1) = some (.type "type"))
    (xn_1 : PySem.W.hasDictIn K xC1 = true)
    (xo_1 : PySem.W.isClsIn K xC1 = true)
    (xp_1 : PySem.W.subIn K (.ref xC1) (.ref xC1) = some true)
    (z1 : PySem.W.nsIn K mainGlobals "len" = some none)
    (z2 : PySem.W.nsIn K mainGlobals "isinstance" = some none)
    (z3 : PySem.W.nsIn K mainGlobals "repr" = some none)
    (z4 : PySem.W.nsIn K mainGlobals "abs" = some none)
    (z5 : PySem.W.nsIn K mainGlobals "max" = some none)
    (z6 : PySem.W.nsIn K mainGlobals "min" = some none)
    (z7 : PySem.W.nsIn K mainGlobals "sorted" = some none)
    (z8 : PySem.W.nsIn K mainGlobals "any" = some none)
    (z9 : PySem.W.nsIn K mainGlobals "all" = some none)
    (z10 : PySem.W.nsIn K mainGlobals "int" = some none)
    (z11 : PySem.W.nsIn K mainGlobals "str" = some none)
    (z12 : PySem.W.nsIn K mainGlobals "tuple" = some none)
    (z13 : PySem.W.nsIn K mainGlobals "list" = some none)
    (z14 : PySem.W.nsIn K mainGlobals "set" = some none)
    (z15 : PySem.W.nsIn K mainGlobals "bool" = some none)
    (z16 : PySem.W.nsIn K mainGlobals "range" = some none)
    (z17 : PySem.W.nsIn K mainGlobals "dict" = some none)
    (z18 : PySem.W.nsIn K mainGlobals "enumerate" = some none)
    (z19 : PySem.W.nsIn K mainGlobals "zip" = some none)
    (z20 : PySem.W.nsIn K mainGlobals "sum" = some none)
    (z21 : PySem.W.nsIn K mainGlobals "ValueError" = some none)
    (z22 : PySem.W.nsIn K mainGlobals "KeyError" = some none)
    (z23 : PySem.W.nsIn K mainGlobals "TypeError" = some none)
    (z24 : PySem.W.nsIn K mainGlobals "LookupError" = some none)
    (z25 : PySem.W.nsIn K mainGlobals "IndexError" = some none)
    (z26 : PySem.W.nsIn K mainGlobals "ArithmeticError" = some none)
    (z27 : PySem.W.nsIn K mainGlobals "RuntimeError" = some none)
    : LawAtG l w K CX0 14 63 "_law_script" mg fa h := by
  letI : TabCtx := ⟨fun a => List.lookup a [(tP1, fun _ _ => qSh)]⟩
  have e := hfa.symm.trans (PySem.W.mg_of X G a13)
  cases e
  have Z : Blt mg bl := fun x hx => by
    simp only [List.mem_cons, List.not_mem_nil, or_false] at hx
    rcases hx with rfl | rfl | rfl | rfl | rfl | rfl | rfl | rfl | rfl | rfl | rfl | rfl | rfl | rfl | rfl | rfl | rfl | rfl | rfl | rfl | rfl | rfl | rfl | rfl | rfl | rfl | rfl
    · exact PySem.W.mg_none_of X G z1
    · exact PySem.W.mg_none_of X G z2
    · exact PySem.W.mg_none_of X G z3
    · exact PySem.W.mg_none_of X G z4
    · exact PySem.W.mg_none_of X G z5
    · exact PySem.W.mg_none_of X G z6
    · exact PySem.W.mg_none_of X G z7
    · exact PySem.W.mg_none_of X G z8
    · exact PySem.W.mg_none_of X G z9
    · exact PySem.W.mg_none_of X G z10
    · exact PySem.W.mg_none_of X G z11
    · exact PySem.W.mg_none_of X G z12
    · exact PySem.W.mg_none_of X G z13
    · exact PySem.W.mg_none_of X G z14
    · exact PySem.W.mg_none_of X G z15
    · exact PySem.W.mg_none_of X G z16
    · exact PySem.W.mg_none_of X G z17
    · exact PySem.W.mg_none_of X G z18
    · exact PySem.W.mg_none_of X G z19
    · exact PySem.W.mg_none_of X G z20
    · exact PySem.W.mg_none_of X G z21
    · exact PySem.W.mg_none_of X G z22
    · exact PySem.W.mg_none_of X G z23
    · exact PySem.W.mg_none_of X G z24
    · exact PySem.W.mg_none_of X G z25
    · exact PySem.W.mg_none_of X G z26
    · exact PySem.W.mg_none_of X G z27
  have g_LETTERS : GC K mg "LETTERS" (.str abc) := GC.str (PySem.W.mg_of X G g1)
  have g_LONGEST_NAME : GC K mg "LONGEST_NAME" (.int 6) := GC.int (PySem.W.mg_of X G g2)
  have g_RESERVED : GC K mg "RESERVED" (.tup ((["self", "other", "super", "raises"] : List Str).map D.str)) := GC.strs (PySem.W.mg_of X G g3) gl3 rfl rfl gx3 (by decide)
  have x_NoText := low_NoText (PySem.W.mg_of X G xa_1) xb_1 xc_1 xd_1 xe_1 xf_1 xg_1 xh_1 xi_1 xj_1 xk_1 xl_1 xm_1 xn_1 xo_1 xp_1
  have F1 := fun_mk (st := s_is_class_name) l1 c1 k1
  have b1 := F1.binds (ps := ["value"]) fun _ _ _ _ _ _ us hl => match us, hl with | [_], _ => rfl
  have m1 := PySem.W.mg_of X G a1
  have F2 := fun_mk (st := s_is_tree_over) l2 c2 k2
  have b2 := F2.binds (ps := ["value", "classes"]) fun _ _ _ _ _ _ us hl => match us, hl with | [_, _], _ => rfl
  have m2 := PySem.W.mg_of X G a2
  have F3 := fun_mk (st := s_is_tree) l3 c3 k3
  have b3 := F3.binds (ps := ["value"]) fun _ _ _ _ _ _ us hl => match us, hl with | [_], _ => rfl
  have m3 := PySem.W.mg_of X G a3
  have F4 := fun_mk (st := s_read_tree) l4 c4 k4
  have b4 := F4.binds (ps := ["text"]) fun _ _ _ _ _ _ us hl => match us, hl with | [_], _ => rfl
  have m4 := PySem.W.mg_of X G a4
  have F5 := fun_mk (st := s_folded) l5 c5 k5
  have b5 := F5.binds (ps := ["tree", "of_leaf", "of_pair"]) fun _ _ _ _ _ _ us hl => match us, hl with | [_, _, _], _ => rfl
  have m5 := PySem.W.mg_of X G a5
  have F6 := fun_mk (st := s_show_tree) l6 c6 k6
  have b6 := F6.binds (ps := ["tree"]) fun _ _ _ _ _ _ us hl => match us, hl with | [_], _ => rfl
  have m6 := PySem.W.mg_of X G a6
  have F7 := fun_mk (st := s_law_bag) l7 c7 k7
  have b7 := F7.binds (ps := ["_law_script", "_law_at"]) fun _ _ _ _ _ _ us hl => match us, hl with | [_, _], _ => rfl
  have m7 := PySem.W.mg_of X G a7
  have F8 := fun_mk (st := s_law_take) l8 c8 k8
  have b8 := F8.binds (ps := ["_law_bag_here", "_law_many"]) fun _ _ _ _ _ _ us hl => match us, hl with | [_, _], _ => rfl
  have m8 := PySem.W.mg_of X G a8
  have F9 := fun_mk (st := s_law_names) l9 c9 k9
  have b9 := F9.binds (ps := ["_law_bag_here", "_law_many"]) fun _ _ _ _ _ _ us hl => match us, hl with | [_, _], _ => rfl
  have m9 := PySem.W.mg_of X G a9
  have F10 := fun_mk (st := s_law_row) l10 c10 k10
  have b10 := F10.binds (ps := ["_law_bag_here", "_law_names_here", "_law_most"]) fun _ _ _ _ _ _ us hl => match us, hl with | [_, _, _], _ => rfl
  have m10 := PySem.W.mg_of X G a10
  have F11 := fun_mk (st := s_law_tree) l11 c11 k11
  have b11 := F11.binds (ps := ["_law_bag_here", "_law_row_here"]) fun _ _ _ _ _ _ us hl => match us, hl with | [_, _], _ => rfl
  have m11 := PySem.W.mg_of X G a11
  have F12 := fun_mk (st := s_law_text) l12 c12 k12
  have b12 := F12.binds (ps := ["_law_tree_here"]) fun _ _ _ _ _ _ us hl => match us, hl with | [_], _ => rfl
  have m12 := PySem.W.mg_of X G a12
  have F13 := fun_mk (st := s_law) l13 c13 k13
  have tt1 : TabCtx.T tP1 = some (fun _ _ => qSh) := by show List.lookup tP1 [(tP1, fun _ _ => qSh)] = _; simp [List.lookup]
  have th1 := PySem.W.codeHd_of_K X tq1
  refine ⟨PySem.W.fnOf "law" "law" (defArgs s_law) (defBody s_law) (defScope s_law) .none kV13 dc13 pm13 an13 cd13 ct13, [(tc1, tP1)], spOf ⟨K, tabsPhi⟩ spLaw, (by intro p hp; simp only [List.mem_cons, List.not_mem_nil, or_false] at hp; subst hp; exact tg1), (by intro p hp; simp only [List.mem_cons, List.not_mem_nil, or_false] at hp; subst hp; exact tn1), (by intro p hp; simp only [List.mem_cons, List.not_mem_nil, or_false] at hp; subst hp; exact th1), fun s v => .of_eq rfl, fun H a ns hl tr sq => script_okT (fun _ _ => ⟨ns, rfl, hl, fun _ => rfl⟩) ?_ sq, fun base _ _ tb => ?_⟩
  · intro b nm z
    by_cases z1 : b = tP1
    · rw [z1]; exact tr (tc1, tP1) (by simp)
    have z : List.lookup b [(tP1, fun _ _ => qSh)] = some nm := z
    simp [List.lookup, beq_false_of_ne z1] at z
  have t_show_tree : TabOk ⟨K, tabsPhi⟩ mg base tc1 tP1 (fun _ _ => qSh) := ⟨tb (tc1, tP1) (by simp), fun G R H h => h _ _ tt1, tt1⟩
  have FC6 : FunC K "show_tree" "show_tree" s_show_tree f6 _ tc1 := ⟨_, _, _, _, _, _, _, _, rfl, l6, c6⟩
  have c_is_class_name : Cal l.prog w ⟨K, tabsPhi⟩ mg base 1 "is_class_name" spIsName := ⟨_, _, _, ok_is_class_name F1 Z g_LETTERS g_LONGEST_NAME g_RESERVED, m1, F1.kp, b1⟩
  have c_is_tree_over : Cal l.prog w ⟨K, tabsPhi⟩ mg base 2 "is_tree_over" spTreeOver := ⟨_, _, _, ok_is_tree_over F2 Z c_is_class_name, m2, F2.kp, b2⟩
  have c_is_tree : Cal l.prog w ⟨K, tabsPhi⟩ mg base 3 "is_tree" spIsTree := ⟨_, _, _, ok_is_tree F3 Z c_is_tree_over, m3, F3.kp, b3⟩
  have c_read_tree : CalX l.prog w ⟨K, tabsPhi⟩ mg base 4 "read_tree" (spRead xC1) := ⟨_, _, _, ok_read_tree F4 Z x_NoText c_is_tree, m4, F4.kp, b4⟩
  have c_folded : Cal l.prog w ⟨K, tabsPhi⟩ mg base 2 "folded" (spFolded shF L1s L2s) := ⟨_, _, _, ok_folded F5 Z lam_1s lam_2s, m5, F5.kp, b5⟩
  have c_show_tree : Cal l.prog w ⟨K, tabsPhi⟩ mg base 3 "show_tree" spShow := ⟨_, _, _, ok_show_tree FC6 Z t_show_tree c_folded, m6, F6.kp, b6⟩
  have c_law_bag : Cal l.prog w ⟨K, tabsPhi⟩ mg base 1 "_law_bag" spBag := ⟨_, _, _, ok_bag F7 Z, m7, F7.kp, b7⟩
  have c_law_take : Cal l.prog w ⟨K, tabsPhi⟩ mg base 1 "_law_take" spTake := ⟨_, _, _, ok_take F8 Z, m8, F8.kp, b8⟩
  have c_law_names : Cal l.prog w ⟨K, tabsPhi⟩ mg base 2 "_law_names" spNames := ⟨_, _, _, ok_names F9 Z c_law_take, m9, F9.kp, b9⟩
  have c_law_row : Cal l.prog w ⟨K, tabsPhi⟩ mg base 2 "_law_row" spLawRow := ⟨_, _, _, ok_law_row F10 Z c_law_take, m10, F10.kp, b10⟩
  have c_law_tree : Cal l.prog w ⟨K, tabsPhi⟩ mg base 13 "_law_tree" (spLawTree 12) := ⟨_, _, _, ok_law_tree F11 Z c_law_take m11 b11 12, m11, F11.kp, b11⟩
  have c_law_text : Cal l.prog w ⟨K, tabsPhi⟩ mg base 12 "_law_text" (spLawText 12) := ⟨_, _, _, ok_law_text F12 Z m12 b12 12, m12, F12.kp, b12⟩
  exact ok_law F13 Z c_law_bag c_law_take c_law_names c_law_row c_law_tree c_law_text c_show_tree c_read_tree
theorem walk {l : PySem.W.OpenLaw} {q : Program} {loose : List Str} {XP : (Str → Option Value) → Heap → Prop} {YP : World → Heap → Prop} {d : DefRec} {K : Params → PySem.W.Frag} (hn : l.most = some 63) (hdf : d.params.defaults = [])
    (hY : ∀ (w : World) (h : Heap), YP w h → (K w.params).In h)
    (F : ∀ (w : World) (mg : Str → Option Value) (fa : Addr) (h : Heap), YP w h → (K w.params).In h → h.Ns mainGlobals mg → mg d.name = some (.ref fa) → TabsOf q (K w.params) h → LawAtG l w (K w.params) CX0 14 63 "_law_script" mg fa h) :
    PySem.W.WalkO q loose XP YP l.row.toRowW d [] (fun f vs => PySem.call f vs) :=
  haveI : TabCtx := noTabs
  walkT (n := 63) (k := 14) (x := "_law_script") (CX := fun _ => CX0) hn (by decide) hdf ⟨rfl, by decide, by decide⟩ hY F fun _ _ _ _ _ z => z


end Law
open PySem PySem.W PyProof.Rows
set_option maxRecDepth 100000 in
set_option maxHeartbeats 0 in
theorem PySem.Challenge.cw_eitherside_k25_tree_texts_holds : PySem.Challenge.rw_eitherside_k25_tree_texts.Holds := by
  w_on; o_law; k_head; (case hw => w_witness2)
  k_fill
  refine Law.walk (l := PySem.Challenge.rw_eitherside_k25_tree_texts) rfl rfl (fun w h Y => PySem.W.km_in_of Y) ?F
  case F =>
    intro w mg fa h Y KX G hmg tbs
    refine' Law.all_mk KX G hmg ?a1 ?l1 ?c1 ?k1 ?a2 ?l2 ?c2 ?k2 ?a3 ?l3 ?c3 ?k3 ?a4 ?l4 ?c4 ?k4 ?a5 ?l5 ?c5 ?k5 ?a6 ?l6 ?c6 ?k6 ?a7 ?l7 ?c7 ?k7 ?a8 ?l8 ?c8 ?k8 ?a9 ?l9 ?c9 ?k9 ?a10 ?l10 ?c10 ?k10 ?a11 ?l11 ?c11 ?k11 ?a12 ?l12 ?c12 ?k12 ?a13 ?l13 ?c13 ?k13 ?tg1 ?tq1 ?tn1 ?g1 ?g2 ?g3 ?gl3 ?gx3 ?xa_1 ?xb_1 ?xc_1 ?xd_1 ?xe_1 ?xf_1 ?xg_1 ?xh_1 ?xi_1 ?xj_1 ?xk_1 ?xl_1 ?xm_1 ?xn_1 ?xo_1 ?xp_1 ?z1 ?z2 ?z3 ?z4 ?z5 ?z6 ?z7 ?z8 ?z9 ?z10 ?z11 ?z12 ?z13 ?z14 ?z15 ?z16 ?z17 ?z18 ?z19 ?z20 ?z21 ?z22 ?z23 ?z24 ?z25 ?z26 ?z27
    (case a1 => k_is); (case l1 => k_is); (case c1 => k_is); (case k1 => k_is)
    (case a2 => k_is); (case l2 => k_is); (case c2 => k_is); (case k2 => k_is)
    (case a3 => k_is); (case l3 => k_is); (case c3 => k_is); (case k3 => k_is)
    (case a4 => k_is); (case l4 => k_is); (case c4 => k_is); (case k4 => k_is)
    (case a5 => k_is); (case l5 => k_is); (case c5 => k_is); (case k5 => k_is)
    (case a6 => k_is); (case l6 => k_is); (case c6 => k_is); (case k6 => k_is)
    (case a7 => k_is); (case l7 => k_is); (case c7 => k_is); (case k7 => k_is)
    (case a8 => k_is); (case l8 => k_is); (case c8 => k_is); (case k8 => k_is)
    (case a9 => k_is); (case l9 => k_is); (case c9 => k_is); (case k9 => k_is)
    (case a10 => k_is); (case l10 => k_is); (case c10 => k_is); (case k10 => k_is)
    (case a11 => k_is); (case l11 => k_is); (case c11 => k_is); (case k11 => k_is)
    (case a12 => k_is); (case l12 => k_is); (case c12 => k_is); (case k12 => k_is)
    (case a13 => k_is); (case l13 => k_is); (case c13 => k_is); (case k13 => k_is)
    (case tg1 => exact PySem.W.km_tabs_of Y _ (.head _)); (case tq1 => first | k_is | rfl | kernel_rfl | decide +kernel); (case tn1 => first | rfl | kernel_rfl | k_is); (case g1 => k_is)
    (case g2 => k_is); (case g3 => k_is); (case gl3 => k_is); (case gx3 => exact (.cons _ _ (.cons _ _ (.cons _ _ (.cons _ _ .nil)))))
    (case xa_1 => k_is); (case xb_1 => k_is); (case xc_1 => k_is); (case xd_1 => k_is)
    (case xe_1 => k_is); (case xf_1 => k_is); (case xg_1 => k_is); (case xh_1 => k_is)
    (case xi_1 => k_is); (case xj_1 => k_is); (case xk_1 => k_is); (case xl_1 => k_is)
    (case xm_1 => k_is); (case xn_1 => k_is); (case xo_1 => k_is); (case xp_1 => first | rfl | k_is)
    (case z1 => k_is); (case z2 => k_is); (case z3 => k_is); (case z4 => k_is)
    (case z5 => k_is); (case z6 => k_is); (case z7 => k_is); (case z8 => k_is)
    (case z9 => k_is); (case z10 => k_is); (case z11 => k_is); (case z12 => k_is)
    (case z13 => k_is); (case z14 => k_is); (case z15 => k_is); (case z16 => k_is)
    (case z17 => k_is); (case z18 => k_is); (case z19 => k_is); (case z20 => k_is)
    (case z21 => k_is); (case z22 => k_is); (case z23 => k_is); (case z24 => k_is)
    (case z25 => k_is); (case z26 => k_is); (case z27 => k_is)
#print axioms PySem.Challenge.cw_eitherside_k25_tree_texts_holds
end
