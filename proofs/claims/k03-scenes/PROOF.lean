import PyProof.Rows.All
import Wide.All
import OpenK.AllK
import Wide.FinOn
import HandS.ForMost
import HandS.Exc
import HandS.ExcInit
import HandS.ExcField
import HandS.TryMany
import HandS.CallSlots
import HandS.Lambda
import HandS.Wide
import HandS.Flow
import HandS.Style
import HandS.TupAny
import HandS.TupMul
import HandS.IsInst
import HandS.Gcd
import HandS.Conv
import HandS.Words
import HandS.Dict
import HandS.Comp
import PyProof.ReprReads
import HandS.WideBits
import PyProof.ReprRoads
import HandS.WordsDict
import HandS.Zip
import HandS.Rev
import HandS.Iter
import HandS.Small
import HandS.EndTab
import HandS.HeadHook4
import HandS.HeadWalk
import HandS.Deep
import HandS.SortInts
import KE.GoesMore
import HandS.Head0
import HandS.Head1
import HandS.Head2
import HandS.Head3
import HandS.HeadEnd
import HandS.HeadHook1
import HandS.HeadHook2
import PySem.Challenge.RW_hiddenplans_k03_scenes_and_plans
set_option Elab.async false
set_option linter.all false
set_option maxRecDepth 100000
section
set_option maxHeartbeats 4000000
namespace Ev
open PySem PySem.Spec PyProof.Rows L2

/-- a lambda's text: its qualified name, its parts, the names that it captures -/
structure LamI where
  i : Nat
  q : Str
  params : Arguments
  body : Expr
  scope : Scope
  caps : List Str
  deriving Inhabited
/-- a deep value: immutable things by value; ref: a mutable list or dict of the store; obj: a mutable instance -/
inductive D where
  | non | bl (b : Bool) | int (i : Int) | str (x : Str) | ty (n : String)
  | tup (xs : List D) | lst (xs : List D) | scr (xs : List D)
  | dk (ks : List Key) (vs : List D) | dt (ks : List (List Key)) (vs : List D)
  | ins (c : Str) (fs : List Str) (vs : List D)
  | exn (c : Str) (fs : List Str) (vs : List D)
  | clo (l : LamI) (ns : List Nat)
  | ref (n : Nat) | obj (n : Nat)
  deriving Inhabited

inductive Cell where
  | lst (xs : List D)
  | scr (xs : List D)
  | dk (ks : List Key) (vs : List D)
  | dt (ks : List (List Key)) (vs : List D)
  deriving Inhabited

mutual
def D.pure : D → Bool
  | .non | .bl _ | .int _ | .str _ | .ty _ => true
  | .tup xs => D.pures xs
  | .lst xs => D.pures xs
  | .scr xs => D.pures xs
  | .dk _ vs => D.pures vs
  | .dt _ vs => D.pures vs
  | .ins _ _ vs => D.pures vs
  | .clo _ _ => true
  | .exn _ _ _ | .ref _ | .obj _ => false
def D.pures : List D → Bool
  | [] => true
  | x :: xs => D.pure x && D.pures xs
end
theorem pures_iff : ∀ {xs : List D}, D.pures xs = true ↔ ∀ x ∈ xs, D.pure x = true
  | [] => by simp [D.pures]
  | x :: xs => by simp [D.pures, pures_iff (xs := xs)]
theorem pures_append {xs ys : List D} : D.pures (xs ++ ys) = (D.pures xs && D.pures ys) := by
  induction xs with
  | nil => simp [D.pures]
  | cons x xs ih => simp [D.pures, ih, Bool.and_assoc]
def Cell.pure : Cell → Bool
  | .lst xs => D.pures xs
  | .scr xs => D.pures xs
  | .dk _ vs => D.pures vs
  | .dt _ vs => D.pures vs

structure OC where
  c : Str
  fs : List Str
  vs : List D
  deriving Inhabited

/-- the cells, the objects; what the callers' captured names hold; whether lambdas may be made here -/
structure Store where
  cs : List Cell
  os : List OC
  vs : List (Option D)
  mkr : Option Nat
  deriving Inhabited

abbrev Env1 := List (Option D)

/-- what an expression comes to -/
inductive Res where
  | ok (d : D) (S : Store)
  | exc (c : Str) (fs : List Str) (vs : List D) (S : Store)
  | bad
  deriving Inhabited

/-- the frame that makes lambdas: where its own names begin, its table, the lambdas' name -/
structure MK where
  o : Nat
  P : Addr
  q : Str
/-- what is told of a captured name's cell beside its object -/
def cellU : HO := .ext fun _ => True
/-- a thing that may be in the making: a list, a dict -/
def Made (o : HO) : Prop := (∃ xs, o = .lst xs) ∨ ∃ kvs, o = .dK kvs
theorem Made.noExt {o : HO} (h : Made o) : ∀ φ, o ≠ .ext φ := fun φ z => by
  rcases h with ⟨_, rfl⟩ | ⟨_, rfl⟩ <;> cases z
def CellF (o : HO) : Prop := ∃ oc x, o = .frz oc cellU ∧ oc.data = .cell x
/-- what stays while a def runs: the cells of captured names, where its own begin, whether it makes lambdas, the tables of code objects -/
structure Fix where
  c : List Addr
  k : Option MK
  b : List (Addr × Str)
/-- addresses of the store's cells, of its objects -/
structure Adr where
  r : List Addr
  t : List Addr
  fx : Fix
  /-- things in the making -/
  x : List Addr

def Adr.has (ρ : Adr) (a : Addr) : Prop := a ∈ ρ.r ∨ a ∈ ρ.t ∨ (∃ q, (a, q) ∈ ρ.fx.b) ∨ a ∈ ρ.x

section
variable (K : PySem.W.Frag) (mg : Str → Option Value)

def LstK (a : Addr) (xs : List V) : Prop :=
  ∃ (o : Obj) (its : Array Value) (n : Nat), K.lookup a = some o ∧ o.cls = .type "list" ∧ o.dict = none ∧ o.data = .seq its n ∧ its.size ≤ sizeLine ∧ Vals xs its.toList
def TupK (a : Addr) (xs : List V) : Prop :=
  ∃ (o : Obj) (its : Array Value) (n : Nat), K.lookup a = some o ∧ o.cls = .type "tuple" ∧ o.data = .seq its n ∧ its.size ≤ sizeLine ∧ Vals xs its.toList

mutual
/-- v stands for the deep value d -/
inductive DR (ρ : Adr) (H : Hp) : D → V → Prop
  | non : DR ρ H .non .non
  | bl (b : Bool) : DR ρ H (.bl b) (.bl b)
  | int (i : Int) : DR ρ H (.int i) (.int i)
  | str (x : Str) : DR ρ H (.str x) (.str x)
  | ty (n : String) : DR ρ H (.ty n) (.ty n)
  | tup {a : Addr} {ds : List D} {vs : List V} : H a = some (.tup vs) → ¬ ρ.has a → DRs ρ H ds vs → DR ρ H (.tup ds) (.ref a)
  | tupK {a : Addr} {ds : List D} {vs : List V} : TupK K a vs → DRs ρ H ds vs → DR ρ H (.tup ds) (.ref a)
  | lst {a : Addr} {ds : List D} {vs : List V} : H a = some (.lst vs) → ¬ ρ.has a → DRs ρ H ds vs → DR ρ H (.lst ds) (.ref a)
  | scr {a : Addr} {o : Obj} {ds : List D} {vs : List V} : H a = some (.frz o (.lst vs)) → ¬ ρ.has a → DRs ρ H ds vs → DR ρ H (.scr ds) (.ref a)
  | scrK {a : Addr} {ds : List D} {vs : List V} : LstK K a vs → DRs ρ H ds vs → DR ρ H (.scr ds) (.ref a)
  | dk {a : Addr} {ks : List Key} {ds : List D} {kvs : List (Key × V)} {vs : List V} : H a = some (.dK kvs) → ¬ ρ.has a → kvs.map (·.1) = ks → kvs.map (·.2) = vs → DRs ρ H ds vs → DR ρ H (.dk ks ds) (.ref a)
  | dt {a : Addr} {ks : List (List Key)} {ds : List D} {kvs : List (List Key × V)} {vs : List V} : H a = some (.dT kvs) → ¬ ρ.has a → kvs.map (·.1) = ks → kvs.map (·.2) = vs → DRs ρ H ds vs → DR ρ H (.dt ks ds) (.ref a)
  | ins {a C dx : Addr} {c : Str} {fs : List Str} {ds : List D} {fvs : List (Str × V)} {vs : List V} : H a = some (.ins C dx fvs) → ¬ ρ.has a → mg c = some (.ref C) → fvs.map (·.1) = fs → fvs.map (·.2) = vs → DRs ρ H ds vs → DR ρ H (.ins c fs ds) (.ref a)
  | clo {f c' : Addr} {l : LamI} {ns : List Nat} {cl : List (Str × Addr)} {pm ctv : Value} {u : HO} : H f = some (.frz (PySem.W.kla_obj "<lambda>" l.q l.params l.body l.scope cl pm c' ctv) u) → ¬ ρ.has f → H c' = some (LamX.CodeO c' l.q) → ¬ ρ.has c' →
      (∀ (j : Nat) x, l.caps[j]? = some x → ∃ n c, ns[j]? = some n ∧ cl.lookup x = some c ∧ ρ.fx.c[n]? = some c) → (∀ x y c, cl.lookup x = some c → cl.lookup y = some c → x = y) → (∀ x c, cl.lookup x = some c → x ∈ l.caps) → DR ρ H (.clo l ns) (.ref f)
  | ref {n : Nat} {a : Addr} : ρ.r[n]? = some a → DR ρ H (.ref n) (.ref a)
  | obj {n : Nat} {a : Addr} : ρ.t[n]? = some a → DR ρ H (.obj n) (.ref a)
inductive DRs (ρ : Adr) (H : Hp) : List D → List V → Prop
  | nil : DRs ρ H [] []
  | cons {d : D} {v : V} {ds : List D} {vs : List V} : DR ρ H d v → DRs ρ H ds vs → DRs ρ H (d :: ds) (v :: vs)
end

def CR (ρ : Adr) (H : Hp) (c : Cell) (a : Addr) : Prop := match c with
  | .lst ds => ∃ vs, H a = some (.lst vs) ∧ DRs K mg ρ H ds vs
  | .scr ds => ∃ o vs, H a = some (.frz o (.lst vs)) ∧ DRs K mg ρ H ds vs
  | .dk ks ds => ∃ kvs, H a = some (.dK kvs) ∧ kvs.map (·.1) = ks ∧ DRs K mg ρ H ds (kvs.map (·.2))
  | .dt ks ds => ∃ kvs, H a = some (.dT kvs) ∧ kvs.map (·.1) = ks ∧ DRs K mg ρ H ds (kvs.map (·.2))
def OR (ρ : Adr) (H : Hp) (c : OC) (a : Addr) : Prop :=
  ∃ C dx fvs, H a = some (.ins C dx fvs) ∧ mg c.c = some (.ref C) ∧ fvs.map (·.1) = c.fs ∧ DRs K mg ρ H c.vs (fvs.map (·.2))

structure SR (ρ : Adr) (H : Hp) (S : Store) : Prop where
  nr : ρ.r.Nodup
  nt : ρ.t.Nodup
  dj : ∀ a, a ∈ ρ.r → a ∈ ρ.t → False
  lr : ρ.r.length = S.cs.length
  lt : ρ.t.length = S.os.length
  cs : ∀ (n : Nat) c a, S.cs[n]? = some c → ρ.r[n]? = some a → CR K mg ρ H c a
  os : ∀ (n : Nat) c a, S.os[n]? = some c → ρ.t[n]? = some a → OR K mg ρ H c a
  pc : ∀ c ∈ S.cs, c.pure = true
  tb : LamX.Tabs ρ.fx.b H
  nb : ∀ p ∈ ρ.fx.b, p.1 ∉ ρ.r ∧ p.1 ∉ ρ.t
  nx : ∀ a ∈ ρ.x, a ∉ ρ.r ∧ a ∉ ρ.t ∧ (∀ q, (a, q) ∉ ρ.fx.b) ∧ ∃ o, H a = some o ∧ Made o
  mkr : S.mkr = ρ.fx.k.map (·.o)
  kb : ∀ m, ρ.fx.k = some m → (m.P, m.q) ∈ ρ.fx.b ∧ ∀ p ∈ ρ.fx.b, p.1 = m.P → p.2 = m.q
  vs : ∀ (n : Nat) d, S.vs[n]? = some (some d) → ∃ c oc v, ρ.fx.c[n]? = some c ∧ H c = some (.frz oc cellU) ∧ ¬ ρ.has c ∧ DR K mg ρ H d v ∧ ∃ x, oc.data = .cell (some x) ∧ RelV v x

/-- the heap goes on: what is no cell stays -/
structure Ext0 (ρ : Adr) (H : Hp) (ρ' : Adr) (H' : Hp) : Prop where
  keep : ∀ a o, H a = some o → ¬ ρ.has a → H' a = some o
  nin : ∀ a o, H a = some o → ¬ ρ.has a → ¬ ρ'.has a
  ar : ∀ (n : Nat) a, ρ.r[n]? = some a → ρ'.r[n]? = some a
  at_ : ∀ (n : Nat) a, ρ.t[n]? = some a → ρ'.t[n]? = some a
  fx : ρ'.fx = ρ.fx
/-- the least that a value leans on -/
structure ExtC (ρ : Adr) (H : Hp) (ρ' : Adr) (H' : Hp) : Prop where
  keep : ∀ a o, H a = some o → ¬ ρ.has a → ¬ CellF o → H' a = some o
  nin : ∀ a o, H a = some o → ¬ ρ.has a → ¬ CellF o → ¬ ρ'.has a
  ar : ∀ (n : Nat) a, ρ.r[n]? = some a → ρ'.r[n]? = some a
  at_ : ∀ (n : Nat) a, ρ.t[n]? = some a → ρ'.t[n]? = some a
  cc : ∀ (n : Nat) a, ρ.fx.c[n]? = some a → ρ'.fx.c[n]? = some a
theorem Ext0.toC {ρ ρ' : Adr} {H H' : Hp} (e : Ext0 ρ H ρ' H') : ExtC ρ H ρ' H' := ⟨fun a o h n _ => e.keep a o h n, fun a o h n _ => e.nin a o h n, e.ar, e.at_, fun n a h => by rw [e.fx]; exact h⟩
theorem ExtC.trans {ρ ρ1 ρ2 : Adr} {H H1 H2 : Hp} (a : ExtC ρ H ρ1 H1) (b : ExtC ρ1 H1 ρ2 H2) : ExtC ρ H ρ2 H2 :=
  ⟨fun x o h n c => b.keep x o (a.keep x o h n c) (a.nin x o h n c) c, fun x o h n c => b.nin x o (a.keep x o h n c) (a.nin x o h n c) c, fun n x h => b.ar n x (a.ar n x h), fun n x h => b.at_ n x (a.at_ n x h), fun n x h => b.cc n x (a.cc n x h)⟩
/-- .. and the things in the making stay -/
structure Ext (ρ : Adr) (H : Hp) (ρ' : Adr) (H' : Hp) : Prop extends Ext0 ρ H ρ' H' where
  xx : ρ'.x = ρ.x
  kx : ∀ a ∈ ρ.x, H' a = H a

theorem Ext0.refl {ρ : Adr} {H : Hp} : Ext0 ρ H ρ H := ⟨fun _ _ h _ => h, fun _ _ _ h => h, fun _ _ h => h, fun _ _ h => h, rfl⟩
theorem Ext.refl {ρ : Adr} {H : Hp} : Ext ρ H ρ H := ⟨Ext0.refl, rfl, fun _ _ => rfl⟩
theorem Ext0.trans {ρ ρ1 ρ2 : Adr} {H H1 H2 : Hp} (a : Ext0 ρ H ρ1 H1) (b : Ext0 ρ1 H1 ρ2 H2) : Ext0 ρ H ρ2 H2 :=
  ⟨fun x o h n => b.keep x o (a.keep x o h n) (a.nin x o h n), fun x o h n => b.nin x o (a.keep x o h n) (a.nin x o h n), fun n x h => b.ar n x (a.ar n x h), fun n x h => b.at_ n x (a.at_ n x h), b.fx.trans a.fx⟩
theorem Ext.trans {ρ ρ1 ρ2 : Adr} {H H1 H2 : Hp} (a : Ext ρ H ρ1 H1) (b : Ext ρ1 H1 ρ2 H2) : Ext ρ H ρ2 H2 :=
  ⟨a.toExt0.trans b.toExt0, b.xx.trans a.xx, fun z hz => (b.kx z (by rw [a.xx]; exact hz)).trans (a.kx z hz)⟩
end

section
variable {K : PySem.W.Frag} {mg : Str → Option Value} {ρ ρ' : Adr} {H H' : Hp}
mutual
theorem DR.monoC (e : ExtC ρ H ρ' H') : ∀ {d : D} {v : V}, DR K mg ρ H d v → DR K mg ρ' H' d v
  | _, _, .non => .non
  | _, _, .bl b => .bl b
  | _, _, .int i => .int i
  | _, _, .str x => .str x
  | _, _, .ty n => .ty n
  | _, _, .tup h n r => .tup (e.keep _ _ h n (fun z => by obtain ⟨_, _, e1, _⟩ := z; cases e1)) (e.nin _ _ h n (fun z => by obtain ⟨_, _, e1, _⟩ := z; cases e1)) (DRs.monoC e r)
  | _, _, .tupK h r => .tupK h (DRs.monoC e r)
  | _, _, .lst h n r => .lst (e.keep _ _ h n (fun z => by obtain ⟨_, _, e1, _⟩ := z; cases e1)) (e.nin _ _ h n (fun z => by obtain ⟨_, _, e1, _⟩ := z; cases e1)) (DRs.monoC e r)
  | _, _, .scr h n r => .scr (e.keep _ _ h n (fun z => by obtain ⟨_, _, e1, _⟩ := z; cases e1)) (e.nin _ _ h n (fun z => by obtain ⟨_, _, e1, _⟩ := z; cases e1)) (DRs.monoC e r)
  | _, _, .scrK h r => .scrK h (DRs.monoC e r)
  | _, _, .dk h n a b r => .dk (e.keep _ _ h n (fun z => by obtain ⟨_, _, e1, _⟩ := z; cases e1)) (e.nin _ _ h n (fun z => by obtain ⟨_, _, e1, _⟩ := z; cases e1)) a b (DRs.monoC e r)
  | _, _, .dt h n a b r => .dt (e.keep _ _ h n (fun z => by obtain ⟨_, _, e1, _⟩ := z; cases e1)) (e.nin _ _ h n (fun z => by obtain ⟨_, _, e1, _⟩ := z; cases e1)) a b (DRs.monoC e r)
  | _, _, .ins h n m a b r => .ins (e.keep _ _ h n (fun z => by obtain ⟨_, _, e1, _⟩ := z; cases e1)) (e.nin _ _ h n (fun z => by obtain ⟨_, _, e1, _⟩ := z; cases e1)) m a b (DRs.monoC e r)
  | _, _, .clo h n h2 n2 k k2 k3 => .clo (e.keep _ _ h n (fun z => by obtain ⟨_, _, e1, e2⟩ := z; cases e1; cases e2)) (e.nin _ _ h n (fun z => by obtain ⟨_, _, e1, e2⟩ := z; cases e1; cases e2)) (e.keep _ _ h2 n2 (fun z => by obtain ⟨_, _, e1, _⟩ := z; cases e1)) (e.nin _ _ h2 n2 (fun z => by obtain ⟨_, _, e1, _⟩ := z; cases e1)) (fun j x hx => let ⟨n, c, h1, h2, h3⟩ := k j x hx; ⟨n, c, h1, h2, e.cc _ _ h3⟩) k2 k3
  | _, _, .ref h => .ref (e.ar _ _ h)
  | _, _, .obj h => .obj (e.at_ _ _ h)
theorem DRs.monoC (e : ExtC ρ H ρ' H') : ∀ {ds : List D} {vs : List V}, DRs K mg ρ H ds vs → DRs K mg ρ' H' ds vs
  | _, _, .nil => .nil
  | _, _, .cons h r => .cons (DR.monoC e h) (DRs.monoC e r)
end

theorem DR.mono0 (e : Ext0 ρ H ρ' H') {d : D} {v : V} (h : DR K mg ρ H d v) : DR K mg ρ' H' d v := DR.monoC e.toC h
theorem DRs.mono0 (e : Ext0 ρ H ρ' H') {d : List D} {v : List V} (h : DRs K mg ρ H d v) : DRs K mg ρ' H' d v := DRs.monoC e.toC h
theorem DR.mono (e : Ext ρ H ρ' H') {d : D} {v : V} (h : DR K mg ρ H d v) : DR K mg ρ' H' d v := DR.mono0 e.toExt0 h
theorem DRs.mono (e : Ext ρ H ρ' H') {d : List D} {v : List V} (h : DRs K mg ρ H d v) : DRs K mg ρ' H' d v := DRs.mono0 e.toExt0 h
theorem DRs.length : ∀ {ds : List D} {vs : List V}, DRs K mg ρ H ds vs → ds.length = vs.length
  | _, _, .nil => rfl
  | _, _, .cons _ r => by simp [DRs.length r]
theorem DRs.get : ∀ {ds : List D} {vs : List V} {i : Nat} {d : D}, DRs K mg ρ H ds vs → ds[i]? = some d → ∃ v, vs[i]? = some v ∧ DR K mg ρ H d v
  | _, _, _, _, .nil, h => by simp at h
  | _, _, 0, _, .cons h _, e => by simp at e; subst e; exact ⟨_, rfl, h⟩
  | _, _, i + 1, _, .cons _ r, e => by
    obtain ⟨v, h1, h2⟩ := DRs.get (i := i) r (by simpa using e)
    exact ⟨v, by simpa using h1, h2⟩
theorem DRs.getV : ∀ {ds : List D} {vs : List V} {i : Nat} {v : V}, DRs K mg ρ H ds vs → vs[i]? = some v → ∃ d, ds[i]? = some d ∧ DR K mg ρ H d v
  | _, _, _, _, .nil, h => by simp at h
  | _, _, 0, _, .cons h _, e => by simp at e; subst e; exact ⟨_, rfl, h⟩
  | _, _, i + 1, _, .cons _ r, e => by
    obtain ⟨v, h1, h2⟩ := DRs.getV (i := i) r (by simpa using e)
    exact ⟨v, by simpa using h1, h2⟩
theorem DRs.append : ∀ {ds es : List D} {vs us : List V}, DRs K mg ρ H ds vs → DRs K mg ρ H es us → DRs K mg ρ H (ds ++ es) (vs ++ us)
  | _, _, _, _, .nil, s => s
  | _, _, _, _, .cons h r, s => .cons h (DRs.append r s)
theorem DRs.take : ∀ {ds : List D} {vs : List V} (n : Nat), DRs K mg ρ H ds vs → DRs K mg ρ H (ds.take n) (vs.take n)
  | _, _, 0, _ => .nil
  | _, _, _ + 1, .nil => .nil
  | _, _, n + 1, .cons h r => .cons h (DRs.take n r)
theorem DRs.drop : ∀ {ds : List D} {vs : List V} (n : Nat), DRs K mg ρ H ds vs → DRs K mg ρ H (ds.drop n) (vs.drop n)
  | _, _, 0, r => r
  | _, _, _ + 1, .nil => .nil
  | _, _, n + 1, .cons _ r => DRs.drop n r
theorem DRs.set {d : D} {v : V} (h : DR K mg ρ H d v) : ∀ {ds : List D} {vs : List V} (n : Nat), DRs K mg ρ H ds vs → DRs K mg ρ H (ds.set n d) (vs.set n v)
  | _, _, _, .nil => .nil
  | _, _, 0, .cons _ r => .cons h r
  | _, _, n + 1, .cons a r => .cons a (DRs.set h n r)
theorem DRs.reverse : ∀ {ds : List D} {vs : List V}, DRs K mg ρ H ds vs → DRs K mg ρ H ds.reverse vs.reverse
  | _, _, .nil => .nil
  | _, _, .cons h r => by
    rw [List.reverse_cons, List.reverse_cons]
    exact (DRs.reverse r).append (.cons h .nil)
theorem DRs.eraseIdx : ∀ {ds : List D} {vs : List V} (n : Nat), DRs K mg ρ H ds vs → DRs K mg ρ H (ds.eraseIdx n) (vs.eraseIdx n)
  | _, _, _, .nil => .nil
  | _, _, 0, .cons _ r => r
  | _, _, n + 1, .cons a r => .cons a (DRs.eraseIdx n r)
theorem DRs.flat_rep {ds : List D} {vs : List V} (h : DRs K mg ρ H ds vs) : ∀ n : Nat, DRs K mg ρ H (List.replicate n ds).flatten (List.replicate n vs).flatten
  | 0 => .nil
  | n + 1 => by
    rw [List.replicate_succ, List.replicate_succ, List.flatten_cons, List.flatten_cons]
    exact h.append (DRs.flat_rep h n)

theorem CR.monoC {c : Cell} {a : Addr} (e : ExtC ρ H ρ' H') (he : H' a = H a) (h : CR K mg ρ H c a) : CR K mg ρ' H' c a := by
  cases c with
  | lst ds => obtain ⟨vs, h1, h2⟩ := h; exact ⟨vs, he.trans h1, h2.monoC e⟩
  | scr ds => obtain ⟨o, vs, h1, h2⟩ := h; exact ⟨o, vs, he.trans h1, h2.monoC e⟩
  | dk ks ds => obtain ⟨kvs, h1, h2, h3⟩ := h; exact ⟨kvs, he.trans h1, h2, h3.monoC e⟩
  | dt ks ds => obtain ⟨kvs, h1, h2, h3⟩ := h; exact ⟨kvs, he.trans h1, h2, h3.monoC e⟩
theorem OR.monoC {c : OC} {a : Addr} (e : ExtC ρ H ρ' H') (he : H' a = H a) (h : OR K mg ρ H c a) : OR K mg ρ' H' c a := by
  obtain ⟨C, dx, fvs, h1, h2, h3, h4⟩ := h
  exact ⟨C, dx, fvs, he.trans h1, h2, h3, h4.monoC e⟩
theorem CR.mono0 {c : Cell} {a : Addr} (e : Ext0 ρ H ρ' H') (he : H' a = H a) (h : CR K mg ρ H c a) : CR K mg ρ' H' c a := CR.monoC e.toC he h
theorem OR.mono0 {c : OC} {a : Addr} (e : Ext0 ρ H ρ' H') (he : H' a = H a) (h : OR K mg ρ H c a) : OR K mg ρ' H' c a := OR.monoC e.toC he h
theorem CR.mono {c : Cell} {a : Addr} (e : Ext ρ H ρ' H') (he : H' a = H a) (h : CR K mg ρ H c a) : CR K mg ρ' H' c a := CR.mono0 e.toExt0 he h
theorem OR.mono {c : OC} {a : Addr} (e : Ext ρ H ρ' H') (he : H' a = H a) (h : OR K mg ρ H c a) : OR K mg ρ' H' c a := OR.mono0 e.toExt0 he h
theorem CR.there {c : Cell} {a : Addr} (h : CR K mg ρ H c a) : ∃ o, H a = some o := by
  cases c with
  | lst ds => obtain ⟨vs, h1, _⟩ := h; exact ⟨_, h1⟩
  | scr ds => obtain ⟨o, vs, h1, _⟩ := h; exact ⟨_, h1⟩
  | dk ks ds => obtain ⟨kvs, h1, _⟩ := h; exact ⟨_, h1⟩
  | dt ks ds => obtain ⟨kvs, h1, _⟩ := h; exact ⟨_, h1⟩
theorem OR.there {c : OC} {a : Addr} (h : OR K mg ρ H c a) : ∃ o, H a = some o := by
  obtain ⟨C, dx, fvs, h1, _⟩ := h; exact ⟨_, h1⟩

theorem SR.cell {S : Store} (s : SR K mg ρ H S) {n : Nat} {c : Cell} (h : S.cs[n]? = some c) : ∃ a, ρ.r[n]? = some a ∧ CR K mg ρ H c a := by
  have hn : n < ρ.r.length := by
    have := (List.getElem?_eq_some_iff.mp h).1
    have := s.lr
    omega
  exact ⟨ρ.r[n], List.getElem?_eq_getElem hn, s.cs n c _ h (List.getElem?_eq_getElem hn)⟩
theorem SR.objc {S : Store} (s : SR K mg ρ H S) {n : Nat} {c : OC} (h : S.os[n]? = some c) : ∃ a, ρ.t[n]? = some a ∧ OR K mg ρ H c a := by
  have hn : n < ρ.t.length := by
    have := (List.getElem?_eq_some_iff.mp h).1
    have := s.lt
    omega
  exact ⟨ρ.t[n], List.getElem?_eq_getElem hn, s.os n c _ h (List.getElem?_eq_getElem hn)⟩
theorem SR.in_r {S : Store} (s : SR K mg ρ H S) {a : Addr} (h : a ∈ ρ.r) : ∃ o, H a = some o := by
  obtain ⟨n, hn, e⟩ := List.mem_iff_getElem.mp h
  have h2 : n < S.cs.length := by rw [← s.lr]; exact hn
  exact (s.cs n _ a (List.getElem?_eq_getElem h2) (by rw [← e]; exact List.getElem?_eq_getElem hn)).there
theorem SR.in_t {S : Store} (s : SR K mg ρ H S) {a : Addr} (h : a ∈ ρ.t) : ∃ o, H a = some o := by
  obtain ⟨n, hn, e⟩ := List.mem_iff_getElem.mp h
  have h2 : n < S.os.length := by rw [← s.lt]; exact hn
  exact (s.os n _ a (List.getElem?_eq_getElem h2) (by rw [← e]; exact List.getElem?_eq_getElem hn)).there
theorem SR.in_b {S : Store} (s : SR K mg ρ H S) {a : Addr} (h : ∃ q, (a, q) ∈ ρ.fx.b) : ∃ o, H a = some o := by
  obtain ⟨q, h⟩ := h
  obtain ⟨ps, h1, _⟩ := s.tb _ h
  exact ⟨_, h1⟩
theorem SR.has {S : Store} (s : SR K mg ρ H S) {a : Addr} (h : ρ.has a) : ∃ o, H a = some o := h.elim s.in_r fun h => h.elim s.in_t fun h => h.elim s.in_b fun h => let ⟨o, e, _⟩ := (s.nx a h).2.2.2; ⟨o, e⟩
/-- what the captured names hold, later -/
theorem SR.vs_mono {S : Store} (s : SR K mg ρ H S) (e : Ext0 ρ H ρ' H') : ∀ (n : Nat) d, S.vs[n]? = some (some d) → ∃ c oc v, ρ'.fx.c[n]? = some c ∧ H' c = some (.frz oc cellU) ∧ ¬ ρ'.has c ∧ DR K mg ρ' H' d v ∧ ∃ x, oc.data = .cell (some x) ∧ RelV v x := fun n d h => by
  obtain ⟨c, oc, v, h1, h2, h3, h4, h5⟩ := s.vs n d h
  exact ⟨c, oc, v, by rw [e.fx]; exact h1, e.keep _ _ h2 h3, e.nin _ _ h2 h3, h4.mono0 e, h5⟩
/-- the tables, later -/
theorem SR.tb_keep {S : Store} (s : SR K mg ρ H S) (k : ∀ a o, H a = some o → a ∉ ρ.r → a ∉ ρ.t → H' a = some o) : LamX.Tabs ρ.fx.b H' := fun p hp => by
  obtain ⟨ps, h1, h2, h3⟩ := s.tb p hp
  have code : ∀ c (q : Str), H c = some (LamX.CodeO c q) → H' c = some (LamX.CodeO c q) := fun c q e => by
    refine k c _ e (fun z => ?_) fun z => ?_
    · obtain ⟨n, hn, e1⟩ := List.mem_iff_getElem.mp z
      have h2 : n < S.cs.length := by rw [← s.lr]; exact hn
      have cr := s.cs n _ c (List.getElem?_eq_getElem h2) (by rw [← e1]; exact List.getElem?_eq_getElem hn)
      unfold LamX.CodeO at e
      cases hc : S.cs[n] <;> rw [hc] at cr
      · obtain ⟨vs, q1, _⟩ := cr; rw [e] at q1; cases q1
      · obtain ⟨o, vs, q1, _⟩ := cr; rw [e] at q1; cases q1
      · obtain ⟨kvs, q1, _⟩ := cr; rw [e] at q1; cases q1
      · obtain ⟨kvs, q1, _⟩ := cr; rw [e] at q1; cases q1
    · obtain ⟨n, hn, e1⟩ := List.mem_iff_getElem.mp z
      have h2 : n < S.os.length := by rw [← s.lt]; exact hn
      obtain ⟨C, dx, fvs, q1, _⟩ := s.os n _ c (List.getElem?_eq_getElem h2) (by rw [← e1]; exact List.getElem?_eq_getElem hn)
      unfold LamX.CodeO at e
      rw [e] at q1; cases q1
  refine ⟨ps, k _ _ h1 (s.nb p hp).1 (s.nb p hp).2, h2, fun pos cv hc => ?_⟩
  obtain ⟨c, e1, e2⟩ := h3 pos cv hc
  exact ⟨c, e1, code _ _ e2⟩

theorem SR.new {S : Store} (s : SR K mg ρ H S) {a : Addr} (h : H a = none) : ¬ ρ.has a := fun q => by
  obtain ⟨o, e⟩ := s.has q
  rw [h] at e; cases e

/-- a new thing that is no cell -/
theorem Ext.new {S : Store} (s : SR K mg ρ H S) {p : Addr} {o : HO} (hp : H p = none) : Ext ρ H ρ (upd H p o) :=
  ⟨⟨fun a u h _ => by rw [upd_ne (ne_of_none h hp)]; exact h, fun _ _ _ n => n, fun _ _ h => h, fun _ _ h => h, rfl⟩, rfl, fun a ha => by obtain ⟨o, e, _⟩ := (s.nx a ha).2.2.2; exact upd_ne (ne_of_none e hp)⟩
theorem SR.upd_new {S : Store} (s : SR K mg ρ H S) {p : Addr} {o : HO} (hp : H p = none) : SR K mg ρ (upd H p o) S :=
  ⟨s.nr, s.nt, s.dj, s.lr, s.lt,
    fun n c a h1 h2 => (s.cs n c a h1 h2).mono (Ext.new s hp) (by obtain ⟨u, e⟩ := (s.cs n c a h1 h2).there; exact upd_ne (ne_of_none e hp)),
    fun n c a h1 h2 => (s.os n c a h1 h2).mono (Ext.new s hp) (by obtain ⟨u, e⟩ := (s.os n c a h1 h2).there; exact upd_ne (ne_of_none e hp)), s.pc,
    s.tb_keep fun a u h _ _ => by rw [upd_ne (ne_of_none h hp)]; exact h, s.nb, fun a ha => let ⟨n1, n2, n3, o, e, ne⟩ := s.nx a ha; ⟨n1, n2, n3, o, by rw [upd_ne (ne_of_none e hp)]; exact e, ne⟩, s.mkr, s.kb, s.vs_mono (Ext.new s hp).toExt0⟩
/-- whatever is kept -/
theorem SR.keep {S : Store} (s : SR K mg ρ H S) (k : ∀ a o, H a = some o → H' a = some o) : SR K mg ρ H' S ∧ Ext ρ H ρ H' := by
  have e : Ext ρ H ρ H' := ⟨⟨fun a u h _ => k a u h, fun _ _ _ n => n, fun _ _ h => h, fun _ _ h => h, rfl⟩, rfl, fun a ha => by obtain ⟨o, e, _⟩ := (s.nx a ha).2.2.2; rw [e]; exact k a o e⟩
  exact ⟨⟨s.nr, s.nt, s.dj, s.lr, s.lt,
    fun n c a h1 h2 => (s.cs n c a h1 h2).mono e (by obtain ⟨u, q⟩ := (s.cs n c a h1 h2).there; rw [q]; exact k a u q),
    fun n c a h1 h2 => (s.os n c a h1 h2).mono e (by obtain ⟨u, q⟩ := (s.os n c a h1 h2).there; rw [q]; exact k a u q), s.pc, s.tb_keep fun a o h _ _ => k a o h, s.nb, fun a ha => let ⟨n1, n2, n3, o, e, ne⟩ := s.nx a ha; ⟨n1, n2, n3, o, k a o e, ne⟩, s.mkr, s.kb, s.vs_mono e.toExt0⟩, e⟩

def Adr.addr (ρ : Adr) (p : Addr) : Adr := ⟨ρ.r ++ [p], ρ.t, ρ.fx, ρ.x⟩
def Adr.addt (ρ : Adr) (p : Addr) : Adr := ⟨ρ.r, ρ.t ++ [p], ρ.fx, ρ.x⟩
theorem get_snoc {α : Type} {l : List α} {x y : α} {n : Nat} (h : (l ++ [x])[n]? = some y) : l[n]? = some y ∨ (n = l.length ∧ y = x) := by
  by_cases hn : n < l.length
  · rw [List.getElem?_append_left hn] at h
    exact .inl h
  · rw [List.getElem?_append_right (by omega)] at h
    have : n - l.length = 0 := by
      rcases Nat.eq_zero_or_pos (n - l.length) with q | q
      · exact q
      · rw [List.getElem?_eq_none (by simp; omega)] at h; cases h
    rw [this] at h
    simp at h
    exact .inr ⟨by omega, h.symm⟩
theorem snoc_get {α : Type} {l : List α} {x y : α} {n : Nat} (h : l[n]? = some y) : (l ++ [x])[n]? = some y := by
  rw [List.getElem?_append_left (List.getElem?_eq_some_iff.mp h).1]; exact h
theorem snoc_last {α : Type} {l : List α} {x : α} : (l ++ [x])[l.length]? = some x := by simp

/-- a new cell -/
theorem SR.addCell {S : Store} (s : SR K mg ρ H S) {p : Addr} {o : HO} {c : Cell} (hpc : c.pure = true) (hp : H p = none) (hc : ∀ ρ' H', Ext ρ H ρ' H' → H' p = some o → CR K mg ρ' H' c p) :
    SR K mg (ρ.addr p) (upd H p o) { S with cs := S.cs ++ [c] } ∧ Ext ρ H (ρ.addr p) (upd H p o) := by
  have e : Ext ρ H (ρ.addr p) (upd H p o) := ⟨⟨fun a u h _ => by rw [upd_ne (ne_of_none h hp)]; exact h, fun a u h n q => by
      rcases q with q | q
      · rcases List.mem_append.mp q with q | q
        · exact n (.inl q)
        · have : a = p := by simpa using q
          subst this; rw [hp] at h; cases h
      · exact n (.inr q), fun _ _ h => snoc_get h, fun _ _ h => h, rfl⟩, rfl, fun a ha => by obtain ⟨o, e, _⟩ := (s.nx a ha).2.2.2; exact upd_ne (ne_of_none e hp)⟩
  have np : p ∉ ρ.r := fun q => s.new hp (.inl q)
  refine ⟨⟨?_, s.nt, ?_, ?_, s.lt, ?_, ?_, fun c' hc' => (List.mem_append.mp hc').elim (s.pc c') fun q => by rw [show c' = c by simpa using q]; exact hpc, s.tb_keep fun a u h _ _ => by rw [upd_ne (ne_of_none h hp)]; exact h,
    fun q hq => ⟨fun z => (List.mem_append.mp z).elim (s.nb q hq).1 fun z => s.new hp (.inr (.inr (.inl ⟨q.2, by rw [show p = q.1 from (by simpa using z : q.1 = p).symm]; exact hq⟩))), (s.nb q hq).2⟩, fun a ha => let ⟨n1, n2, n3, o, e, ne⟩ := s.nx a ha; ⟨fun z => (List.mem_append.mp z).elim n1 fun z => ne_of_none e hp (by simpa using z), n2, n3, o, by rw [upd_ne (ne_of_none e hp)]; exact e, ne⟩, s.mkr, s.kb, s.vs_mono e.toExt0⟩, e⟩
  · show (ρ.r ++ [p]).Nodup
    rw [List.nodup_append]
    exact ⟨s.nr, by simp, fun a ha b hb => by
      have : b = p := by simpa using hb
      subst this; rintro rfl; exact np ha⟩
  · intro a ha ht
    rcases List.mem_append.mp ha with q | q
    · exact s.dj a q ht
    · have : a = p := by simpa using q
      subst this; exact s.new hp (.inr (.inl ht))
  · show (ρ.r ++ [p]).length = (S.cs ++ [c]).length
    simp [s.lr]
  · intro n c' a h1 h2
    rcases get_snoc h1 with h1 | ⟨h1, rfl⟩
    · have h2' : ρ.r[n]? = some a := by
        rcases get_snoc h2 with q | ⟨q, _⟩
        · exact q
        · have := (List.getElem?_eq_some_iff.mp h1).1
          have := s.lr
          omega
      exact (s.cs n c' a h1 h2').mono e (by obtain ⟨u, q⟩ := (s.cs n c' a h1 h2').there; exact upd_ne (ne_of_none q hp))
    · have h2' : a = p := by
        rcases get_snoc h2 with q | ⟨_, q⟩
        · have := (List.getElem?_eq_some_iff.mp q).1
          have := s.lr
          omega
        · exact q
      subst h2'
      exact hc _ _ e upd_same
  · intro n c' a h1 h2
    exact (s.os n c' a h1 h2).mono e (by obtain ⟨u, q⟩ := (s.os n c' a h1 h2).there; exact upd_ne (ne_of_none q hp))

theorem nodup_get {l : List Addr} (h : l.Nodup) {i j : Nat} {a : Addr} (hi : l[i]? = some a) (hj : l[j]? = some a) : i = j := by
  obtain ⟨h1, e1⟩ := List.getElem?_eq_some_iff.mp hi
  obtain ⟨h2, e2⟩ := List.getElem?_eq_some_iff.mp hj
  exact (List.getElem_inj h).mp (e1.trans e2.symm)

/-- a cell is written -/
theorem SR.setCell {S : Store} (s : SR K mg ρ H S) {n : Nat} {a : Addr} {o : HO} {c : Cell} (hpc : c.pure = true) (ha : ρ.r[n]? = some a) (hc : ∀ ρ' H', Ext ρ H ρ' H' → H' a = some o → CR K mg ρ' H' c a) :
    SR K mg ρ (upd H a o) { S with cs := S.cs.set n c } ∧ Ext ρ H ρ (upd H a o) := by
  have hm : a ∈ ρ.r := List.mem_of_getElem? ha
  have e : Ext ρ H ρ (upd H a o) := ⟨⟨fun b u h n => by rw [upd_ne (fun q => n (by rw [q]; exact .inl hm))]; exact h, fun _ _ _ n => n, fun _ _ h => h, fun _ _ h => h, rfl⟩, rfl, fun b hb => upd_ne fun q => (s.nx b hb).1 (by rw [q]; exact hm)⟩
  refine ⟨⟨s.nr, s.nt, s.dj, by simpa using s.lr, s.lt, ?_, ?_, fun c' hc' => (List.mem_or_eq_of_mem_set hc').elim (s.pc c') fun q => by rw [q]; exact hpc, s.tb_keep fun b u h n _ => by rw [upd_ne (fun q => n (by rw [q]; exact hm))]; exact h, s.nb, fun b hb => let ⟨n1, n2, n3, u, q, ne⟩ := s.nx b hb; ⟨n1, n2, n3, u, by rw [upd_ne fun z => n1 (by rw [z]; exact hm)]; exact q, ne⟩, s.mkr, s.kb, s.vs_mono e.toExt0⟩, e⟩
  · intro m c' b h1 h2
    by_cases hmn : m = n
    · subst hmn
      have hl : m < S.cs.length := by
        have := (List.getElem?_eq_some_iff.mp h2).1
        have := s.lr
        omega
      have e1 : (S.cs.set m c)[m]? = some c := List.getElem?_set_self hl
      have h1' : (S.cs.set m c)[m]? = some c' := h1
      rw [e1] at h1'
      have hcc : c = c' := Option.some.inj h1'
      subst hcc
      rw [ha] at h2; cases h2
      exact hc _ _ e upd_same
    · have h1' : (S.cs.set n c)[m]? = some c' := h1
      rw [List.getElem?_set_ne (Ne.symm hmn)] at h1'
      refine (s.cs m c' b h1' h2).mono e (upd_ne ?_)
      rintro rfl
      exact hmn (nodup_get s.nr h2 ha)
  · intro m c' b h1 h2
    refine (s.os m c' b h1 h2).mono e (upd_ne ?_)
    rintro rfl
    exact s.dj _ hm (List.mem_of_getElem? h2)

mutual
/-- all its cells and objects are among the first -/
def D.low (n m : Nat) : D → Bool
  | .non | .bl _ | .int _ | .str _ | .ty _ => true
  | .tup xs => D.lows n m xs
  | .lst xs => D.lows n m xs
  | .scr xs => D.lows n m xs
  | .dk _ vs => D.lows n m vs
  | .dt _ vs => D.lows n m vs
  | .ins _ _ vs => D.lows n m vs
  | .clo _ _ => true
  | .exn _ _ _ => false
  | .ref k => decide (k < n)
  | .obj k => decide (k < m)
def D.lows (n m : Nat) : List D → Bool
  | [] => true
  | x :: xs => D.low n m x && D.lows n m xs
end
mutual
theorem D.low_pure {n m : Nat} : ∀ {d : D}, d.pure = true → d.low n m = true
  | .non, _ => by simp [D.low]
  | .bl _, _ => by simp [D.low]
  | .int _, _ => by simp [D.low]
  | .str _, _ => by simp [D.low]
  | .ty _, _ => by simp [D.low]
  | .tup xs, h => by simpa [D.low] using D.lows_pure (by simpa [D.pure] using h)
  | .lst xs, h => by simpa [D.low] using D.lows_pure (by simpa [D.pure] using h)
  | .scr xs, h => by simpa [D.low] using D.lows_pure (by simpa [D.pure] using h)
  | .dk _ vs, h => by simpa [D.low] using D.lows_pure (by simpa [D.pure] using h)
  | .dt _ vs, h => by simpa [D.low] using D.lows_pure (by simpa [D.pure] using h)
  | .ins _ _ vs, h => by simpa [D.low] using D.lows_pure (by simpa [D.pure] using h)
  | .exn _ _ _, h => by simp [D.pure] at h
  | .clo _ _, _ => by simp [D.low]
  | .ref _, h => by simp [D.pure] at h
  | .obj _, h => by simp [D.pure] at h
theorem D.lows_pure {n m : Nat} : ∀ {ds : List D}, D.pures ds = true → D.lows n m ds = true
  | [], _ => by simp [D.lows]
  | x :: xs, h => by
    obtain ⟨a, b⟩ := Bool.and_eq_true_iff.mp (show (x.pure && D.pures xs) = true by simpa [D.pures] using h)
    simp [D.lows, D.low_pure a, D.lows_pure b]
end
def Adr.cut (ρ : Adr) (n m : Nat) : Adr := ⟨ρ.r.take n, ρ.t.take m, ρ.fx, ρ.x⟩
theorem cut_has {n m : Nat} {a : Addr} (h : (ρ.cut n m).has a) : ρ.has a := h.elim (fun q => .inl (List.mem_of_mem_take q)) fun q => q.elim (fun q => .inr (.inl (List.mem_of_mem_take q))) fun q => .inr (.inr q)
/-- fewer cells: what is low stays -/
structure Sub (ρ ρ2 : Adr) (n m : Nat) : Prop where
  has : ∀ a, ρ2.has a → ρ.has a
  r : ∀ k a, k < n → ρ.r[k]? = some a → ρ2.r[k]? = some a
  t : ∀ k a, k < m → ρ.t[k]? = some a → ρ2.t[k]? = some a
  c : ∀ (k : Nat) a, ρ.fx.c[k]? = some a → ρ2.fx.c[k]? = some a
theorem Sub.cut {n m : Nat} : Sub ρ (ρ.cut n m) n m := ⟨fun _ z => cut_has z, fun k a h e => by show (ρ.r.take n)[k]? = _; rw [List.getElem?_take_of_lt h]; exact e, fun k a h e => by show (ρ.t.take m)[k]? = _; rw [List.getElem?_take_of_lt h]; exact e, fun _ _ e => e⟩
mutual
theorem DR.sub {ρ2 : Adr} {n m : Nat} (b : Sub ρ ρ2 n m) : ∀ {d : D} {v : V}, DR K mg ρ H d v → d.low n m = true → DR K mg ρ2 H d v
  | _, _, .non, _ => .non
  | _, _, .bl b, _ => .bl b
  | _, _, .int i, _ => .int i
  | _, _, .str x, _ => .str x
  | _, _, .ty x, _ => .ty x
  | _, _, .tup h q r, e => .tup h (fun z => q (b.has _ z)) (DRs.sub b r (by simpa [D.low] using e))
  | _, _, .tupK h r, e => .tupK h (DRs.sub b r (by simpa [D.low] using e))
  | _, _, .lst h q r, e => .lst h (fun z => q (b.has _ z)) (DRs.sub b r (by simpa [D.low] using e))
  | _, _, .scr h q r, e => .scr h (fun z => q (b.has _ z)) (DRs.sub b r (by simpa [D.low] using e))
  | _, _, .scrK h r, e => .scrK h (DRs.sub b r (by simpa [D.low] using e))
  | _, _, .dk h q x y r, e => .dk h (fun z => q (b.has _ z)) x y (DRs.sub b r (by simpa [D.low] using e))
  | _, _, .dt h q x y r, e => .dt h (fun z => q (b.has _ z)) x y (DRs.sub b r (by simpa [D.low] using e))
  | _, _, .ins h q x y z r, e => .ins h (fun w => q (b.has _ w)) x y z (DRs.sub b r (by simpa [D.low] using e))
  | _, _, .clo h q h2 q2 k k2 k3, _ => .clo h (fun z => q (b.has _ z)) h2 (fun z => q2 (b.has _ z)) (fun j x hx => let ⟨n, c, h1, h2, h3⟩ := k j x hx; ⟨n, c, h1, h2, b.c _ _ h3⟩) k2 k3
  | .ref k, _, .ref h, e => .ref (b.r k _ (by simpa [D.low] using e) h)
  | .obj k, _, .obj h, e => .obj (b.t k _ (by simpa [D.low] using e) h)
theorem DRs.sub {ρ2 : Adr} {n m : Nat} (b : Sub ρ ρ2 n m) : ∀ {ds : List D} {vs : List V}, DRs K mg ρ H ds vs → D.lows n m ds = true → DRs K mg ρ2 H ds vs
  | _, _, .nil, _ => .nil
  | x :: xs, _, .cons h r, e => by
    obtain ⟨h1, h2⟩ := Bool.and_eq_true_iff.mp (show (x.low n m && D.lows n m xs) = true by simpa [D.lows] using e)
    exact .cons (DR.sub b h h1) (DRs.sub b r h2)
end
theorem DR.cut {n m : Nat} {d : D} {v : V} (h : DR K mg ρ H d v) (e : d.low n m = true) : DR K mg (ρ.cut n m) H d v := h.sub Sub.cut e
theorem DRs.cut {n m : Nat} {d : List D} {v : List V} (h : DRs K mg ρ H d v) (e : D.lows n m d = true) : DRs K mg (ρ.cut n m) H d v := h.sub Sub.cut e
theorem CR.sub {ρ2 : Adr} {n m : Nat} {c : Cell} {a : Addr} (b : Sub ρ ρ2 n m) (h : CR K mg ρ H c a) (p : c.pure = true) : CR K mg ρ2 H c a := by
  cases c with
  | lst ds => obtain ⟨vs, h1, h2⟩ := h; exact ⟨vs, h1, h2.sub b (D.lows_pure (by simpa [Cell.pure] using p))⟩
  | scr ds => obtain ⟨o, vs, h1, h2⟩ := h; exact ⟨o, vs, h1, h2.sub b (D.lows_pure (by simpa [Cell.pure] using p))⟩
  | dk ks ds => obtain ⟨kvs, h1, h2, h3⟩ := h; exact ⟨kvs, h1, h2, h3.sub b (D.lows_pure (by simpa [Cell.pure] using p))⟩
  | dt ks ds => obtain ⟨kvs, h1, h2, h3⟩ := h; exact ⟨kvs, h1, h2, h3.sub b (D.lows_pure (by simpa [Cell.pure] using p))⟩
theorem CR.cut {n m : Nat} {c : Cell} {a : Addr} (h : CR K mg ρ H c a) (p : c.pure = true) : CR K mg (ρ.cut n m) H c a := h.sub Sub.cut p
/-- the store without its later cells -/
def Store.cut (S : Store) (n m : Nat) : Store := { S with cs := S.cs.take n, os := S.os.take m }
theorem DR.low : ∀ {d : D} {v : V}, DR K mg ρ H d v → d.low ρ.r.length ρ.t.length = true := fun {d v} h =>
  DR.rec (motive_1 := fun d _ _ => d.low ρ.r.length ρ.t.length = true) (motive_2 := fun ds _ _ => D.lows ρ.r.length ρ.t.length ds = true)
    (by simp [D.low]) (fun b => by simp [D.low]) (fun i => by simp [D.low]) (fun x => by simp [D.low]) (fun n => by simp [D.low])
    (fun _ _ _ h => by simpa [D.low] using h) (fun _ _ h => by simpa [D.low] using h) (fun _ _ _ h => by simpa [D.low] using h) (fun _ _ _ h => by simpa [D.low] using h) (fun _ _ h => by simpa [D.low] using h) (fun _ _ _ _ _ h => by simpa [D.low] using h) (fun _ _ _ _ _ h => by simpa [D.low] using h) (fun _ _ _ _ _ _ h => by simpa [D.low] using h)
    (fun _ _ _ _ _ _ _ => by simp [D.low]) (fun h => by simpa [D.low] using (List.getElem?_eq_some_iff.mp h).1) (fun h => by simpa [D.low] using (List.getElem?_eq_some_iff.mp h).1)
    (by simp [D.lows]) (fun _ _ h1 h2 => by simp [D.lows, h1, h2]) h
theorem DRs.low : ∀ {ds : List D} {vs : List V}, DRs K mg ρ H ds vs → D.lows ρ.r.length ρ.t.length ds = true
  | _, _, .nil => by simp [D.lows]
  | _, _, .cons a b => by simp [D.lows, a.low, b.low]
theorem Made.noCell {o : HO} (h : Made o) : ¬ CellF o := fun ⟨_, _, z, _⟩ => by
  rcases h with ⟨_, rfl⟩ | ⟨_, rfl⟩ <;> cases z
/-- as seen from before -/
theorem Ext.cut {n m : Nat} {ρ0 : Adr} {H0 : Hp} (e : Ext ρ0 H0 ρ H) (hn : ρ0.r.length ≤ n) (hm : ρ0.t.length ≤ m) : Ext ρ0 H0 (ρ.cut n m) H :=
  ⟨⟨e.keep, fun a o h q z => e.nin a o h q (cut_has z), fun k a h => by
    have hk : k < n := Nat.lt_of_lt_of_le (List.getElem?_eq_some_iff.mp h).1 hn
    show (ρ.r.take n)[k]? = _
    rw [List.getElem?_take_of_lt hk]; exact e.ar k a h, fun k a h => by
    have hk : k < m := Nat.lt_of_lt_of_le (List.getElem?_eq_some_iff.mp h).1 hm
    show (ρ.t.take m)[k]? = _
    rw [List.getElem?_take_of_lt hk]; exact e.at_ k a h, e.fx⟩, e.xx, e.kx⟩

def Adr.addx (ρ : Adr) (p : Addr) : Adr := { ρ with x := p :: ρ.x }
def Adr.setx (ρ : Adr) (x : List Addr) : Adr := { ρ with x := x }
/-- a new thing, in the making -/
theorem SR.addx {S : Store} (s : SR K mg ρ H S) {p : Addr} {o : HO} (hp : H p = none) (hne : Made o) : SR K mg (ρ.addx p) (upd H p o) S ∧ Ext0 ρ H (ρ.addx p) (upd H p o) := by
  have e : Ext0 ρ H (ρ.addx p) (upd H p o) := ⟨fun a u h _ => by rw [upd_ne (ne_of_none h hp)]; exact h, fun a u h n q => by
      rcases q with q | q | q | q
      · exact n (.inl q)
      · exact n (.inr (.inl q))
      · exact n (.inr (.inr (.inl q)))
      · rcases List.mem_cons.mp q with q | q
        · exact ne_of_none h hp q
        · exact n (.inr (.inr (.inr q))), fun _ _ h => h, fun _ _ h => h, rfl⟩
  have ne : ∀ {a}, ρ.has a → a ≠ p := fun {a} h => by
    obtain ⟨u, q⟩ := s.has h
    exact ne_of_none q hp
  refine ⟨⟨s.nr, s.nt, s.dj, s.lr, s.lt, fun n c a h1 h2 => (s.cs n c a h1 h2).mono0 e (upd_ne (ne (.inl (List.mem_of_getElem? h2)))), fun n c a h1 h2 => (s.os n c a h1 h2).mono0 e (upd_ne (ne (.inr (.inl (List.mem_of_getElem? h2))))), s.pc,
    s.tb_keep fun a u h _ _ => by rw [upd_ne (ne_of_none h hp)]; exact h, s.nb, fun a ha => ?_, s.mkr, s.kb, s.vs_mono e⟩, e⟩
  rcases List.mem_cons.mp ha with q | q
  · subst q
    exact ⟨fun z => ne (.inl z) rfl, fun z => ne (.inr (.inl z)) rfl, fun q z => ne (.inr (.inr (.inl ⟨q, z⟩))) rfl, o, upd_same, hne⟩
  · obtain ⟨n1, n2, n3, u, h, ne⟩ := s.nx a q
    exact ⟨n1, n2, n3, u, by rw [upd_ne (ne_of_none h hp)]; exact h, ne⟩
/-- a thing in the making is written -/
theorem SR.setx {S : Store} (s : SR K mg ρ H S) {p : Addr} {o : HO} (hp : p ∈ ρ.x) (hno : Made o) : SR K mg ρ (upd H p o) S ∧ Ext0 ρ H ρ (upd H p o) := by
  have e : Ext0 ρ H ρ (upd H p o) := ⟨fun a u h n => by rw [upd_ne fun q => n (by rw [q]; exact .inr (.inr (.inr hp)))]; exact h, fun a u h n => n, fun _ _ h => h, fun _ _ h => h, rfl⟩
  obtain ⟨m1, m2, m3, o0, hH0, hne0⟩ := s.nx p hp
  have hne : ∀ φ, H p ≠ some (.ext φ) := fun φ z => hne0.noExt φ (by rw [hH0] at z; exact Option.some.inj z)
  refine ⟨⟨s.nr, s.nt, s.dj, s.lr, s.lt, fun n c a h1 h2 => (s.cs n c a h1 h2).mono0 e (upd_ne fun q => m1 (by rw [← q]; exact List.mem_of_getElem? h2)), fun n c a h1 h2 => (s.os n c a h1 h2).mono0 e (upd_ne fun q => m2 (by rw [← q]; exact List.mem_of_getElem? h2)), s.pc,
    fun q hq => ?_, s.nb, fun a ha => ?_, s.mkr, s.kb, s.vs_mono e⟩, e⟩
  · obtain ⟨ps, h1, h2, h3⟩ := s.tb q hq
    refine ⟨ps, by rw [upd_ne fun z => m3 q.2 (by rw [← z]; exact hq)]; exact h1, h2, fun pos cv hc => ?_⟩
    obtain ⟨c, e1, e2⟩ := h3 pos cv hc
    exact ⟨c, e1, by rw [upd_ne fun z => hne _ (by rw [← z]; exact e2)]; exact e2⟩
  · obtain ⟨n1, n2, n3, u, h, ne⟩ := s.nx a ha
    by_cases hap : a = p
    · subst hap; exact ⟨n1, n2, n3, o, upd_same, hno⟩
    · exact ⟨n1, n2, n3, u, by rw [upd_ne hap]; exact h, ne⟩
/-- it is made -/
theorem SR.unx {S : Store} (s : SR K mg ρ H S) {x : List Addr} (hx : ∀ a ∈ x, a ∈ ρ.x) : SR K mg (ρ.setx x) H S ∧ Ext0 ρ H (ρ.setx x) H := by
  have e : Ext0 ρ H (ρ.setx x) H := ⟨fun _ _ h _ => h, fun a u _ n q => n (q.elim .inl fun q => .inr (q.elim .inl fun q => .inr (q.elim .inl fun q => .inr (hx a q)))), fun _ _ h => h, fun _ _ h => h, rfl⟩
  exact ⟨⟨s.nr, s.nt, s.dj, s.lr, s.lt, fun n c a h1 h2 => (s.cs n c a h1 h2).mono0 e rfl, fun n c a h1 h2 => (s.os n c a h1 h2).mono0 e rfl, s.pc, s.tb, s.nb, fun a ha => s.nx a (hx a ha), s.mkr, s.kb, s.vs_mono e⟩, e⟩
/-- it is made: a cell of its own -/
theorem SR.xcell {S : Store} (s : SR K mg ρ H S) {p : Addr} {x : List Addr} {c : Cell} (hx : ρ.x = p :: x) (hnd : p ∉ x) (hpc : c.pure = true) (hc : CR K mg (⟨ρ.r ++ [p], ρ.t, ρ.fx, x⟩ : Adr) H c p) :
    SR K mg ⟨ρ.r ++ [p], ρ.t, ρ.fx, x⟩ H { S with cs := S.cs ++ [c] } ∧ Ext0 ρ H ⟨ρ.r ++ [p], ρ.t, ρ.fx, x⟩ H := by
  have e : Ext0 ρ H ⟨ρ.r ++ [p], ρ.t, ρ.fx, x⟩ H := ⟨fun _ _ h _ => h, fun a u _ n q => by
      rcases q with q | q | q | q
      · rcases List.mem_append.mp q with q | q
        · exact n (.inl q)
        · exact n (.inr (.inr (.inr (by rw [hx, show a = p by simpa using q]; simp))))
      · exact n (.inr (.inl q))
      · exact n (.inr (.inr (.inl q)))
      · exact n (.inr (.inr (.inr (by rw [hx]; exact List.mem_cons_of_mem _ q)))), fun _ _ h => snoc_get h, fun _ _ h => h, rfl⟩
  obtain ⟨m1, m2, m3, m4⟩ := s.nx p (by rw [hx]; simp)
  refine ⟨⟨?_, s.nt, fun a h1 h2 => ?_, ?_, s.lt, fun n c' a h1 h2 => ?_, fun n c a h1 h2 => (s.os n c a h1 h2).mono0 e rfl, fun c' hc' => (List.mem_append.mp hc').elim (s.pc c') fun q => by rw [show c' = c by simpa using q]; exact hpc, s.tb, fun q hq => ⟨fun z => ?_, (s.nb q hq).2⟩, fun a ha => ?_, s.mkr, s.kb, s.vs_mono e⟩, e⟩
  · show (ρ.r ++ [p]).Nodup
    rw [List.nodup_append]
    exact ⟨s.nr, by simp, fun a ha b hb => by
      have : b = p := by simpa using hb
      subst this; rintro rfl; exact m1 ha⟩
  · rcases List.mem_append.mp h1 with q | q
    · exact s.dj a q h2
    · rw [show a = p by simpa using q] at h2; exact m2 h2
  · show (ρ.r ++ [p]).length = (S.cs ++ [c]).length
    simp [s.lr]
  · rcases get_snoc h1 with h1 | ⟨h1, rfl⟩
    · have h2' : ρ.r[n]? = some a := by
        rcases get_snoc h2 with q | ⟨q, _⟩
        · exact q
        · have := (List.getElem?_eq_some_iff.mp h1).1
          have := s.lr
          omega
      exact (s.cs n c' a h1 h2').mono0 e rfl
    · have h2' : a = p := by
        rcases get_snoc h2 with q | ⟨_, q⟩
        · have := (List.getElem?_eq_some_iff.mp q).1
          have := s.lr
          omega
        · exact q
      subst h2'
      exact hc
  · rcases List.mem_append.mp z with z | z
    · exact (s.nb q hq).1 z
    · exact m3 q.2 (by rw [← show q.1 = p by simpa using z]; exact hq)
  · obtain ⟨n1, n2, n3, u, h⟩ := s.nx a (by rw [hx]; exact List.mem_cons_of_mem _ ha)
    refine ⟨fun z => ?_, n2, n3, u, h⟩
    rcases List.mem_append.mp z with z | z
    · exact n1 z
    · exact hnd (by rw [← show a = p by simpa using z]; exact ha)
end
end Ev
end

section
set_option maxHeartbeats 4000000
namespace Ev
open PySem PySem.Spec PyProof.Rows L2

theorem peImp {X : Cx} {e : Expr} {t t' : TE} (h : PE X e t) (i : ∀ σ H Q, t' σ H Q → t σ H Q) : PE X e t' := ⟨fun pins s σ H Q I q => h.run pins s σ H Q I (i σ H Q q)⟩
theorem ptImp {X : Cx} {e : Expr} {t t' : TT} (h : PT X e t) (i : ∀ σ H Q, t' σ H Q → t σ H Q) : PT X e t' := ⟨fun pins s σ H Q I q => h.run pins s σ H Q I (i σ H Q q)⟩

/-- the exception that is handled, as the suite sees it: its slot, its class, its fields -/
structure XV where
  i : Nat
  c : Str
  fs : List Str
  vs : List D

/-- a def's frame, as the lambdas that it makes see it: its names' cells, its table, their name -/
structure CV where
  cells : List (Option Addr)
  tab : Addr
  q : Str
section
variable (K : PySem.W.Frag) (mg : Str → Option Value)
structure ER (cv : Option CV) (ρ : Adr) (H : Hp) (σd : Env1) (σ : L2.St) : Prop where
  len : σd.length = σ.length
  cc : ∀ m v, ρ.fx.k = some m → cv = some v → v.tab = m.P ∧ v.q = m.q ∧ ∀ (i : Nat) c, v.cells[i]? = some (some c) → ρ.fx.c[m.o + i]? = some c
  at_ : ∀ (i : Nat) (d : D), σd[i]? = some (some d) → ∃ v, σ[i]? = some (some v) ∧ DR K mg ρ H d v
/-- what the result asks -/
def RQ (ρ : Adr) (H : Hp) (σ : L2.St) (W : WX) (r : Res) (Q : VK) : Prop := match r with
  | .ok d S' => ∀ ρ' H' v, Ext ρ H ρ' H' → SR K mg ρ' H' S' → DR K mg ρ' H' d v → Q v H'
  | .exc c fs vs S' => ∀ ρ' H' C dx fvs, Ext ρ H ρ' H' → SR K mg ρ' H' S' → mg c = some (.ref C) → H' dx = some (.xd fvs) → ¬ ρ'.has dx → fvs.map (·.1) = fs → DRs K mg ρ' H' vs (fvs.map (·.2)) → W (.ref C) (some dx) σ H'
  | .bad => False
def Res.bind (r : Res) (k : D → Store → Res) : Res := match r with
  | .ok d S => k d S
  | .exc c fs vs S => .exc c fs vs S
  | .bad => .bad
abbrev Sm := Env1 → Store → Res
/-- the reading of an evaluation -/
def tE (cv : Option CV) (W : WX) (M : Sm) : TE := fun σ H Q => ∃ ρ σd S, ER K mg cv ρ H σd σ ∧ SR K mg ρ H S ∧ RQ K mg ρ H σ W (M σd S) Q
/-- the states that an evaluation may come to -/
def Nx (ρ : Adr) (H : Hp) (r : Res) (v : V) (H1 : Hp) (R : D → Store → Adr → Prop) : Prop :=
  ∃ d S1 ρ1, r = .ok d S1 ∧ Ext ρ H ρ1 H1 ∧ SR K mg ρ1 H1 S1 ∧ DR K mg ρ1 H1 d v ∧ R d S1 ρ1
end
section
variable {K : PySem.W.Frag} {mg : Str → Option Value} {ρ ρ' : Adr} {H H' : Hp} {σ : L2.St} {σd : Env1} {S : Store} {W : WX}
theorem ER.mono0 {cv : Option CV} (e : Ext0 ρ H ρ' H') (r : ER K mg cv ρ H σd σ) : ER K mg cv ρ' H' σd σ := ⟨r.len, by rw [e.fx]; exact r.cc, fun i d h => by
  obtain ⟨v, h1, h2⟩ := r.at_ i d h
  exact ⟨v, h1, h2.mono0 e⟩⟩
theorem ER.mono {cv : Option CV} (e : Ext ρ H ρ' H') (r : ER K mg cv ρ H σd σ) : ER K mg cv ρ' H' σd σ := r.mono0 e.toExt0
theorem RQ.ext {r : Res} {Q : VK} (e : Ext ρ H ρ' H') (h : RQ K mg ρ H σ W r Q) : RQ K mg ρ' H' σ W r Q := by
  cases r with
  | ok d S' => exact fun ρ2 H2 v e2 s2 d2 => h ρ2 H2 v (e.trans e2) s2 d2
  | exc c fs vs S' => exact fun ρ2 H2 C dx fvs e2 => h ρ2 H2 C dx fvs (e.trans e2)
  | bad => exact h
theorem RQ.mono {r : Res} {Q Q' : VK} (h : RQ K mg ρ H σ W r Q) (i : ∀ v H', Q v H' → Q' v H') : RQ K mg ρ H σ W r Q' := by
  cases r with
  | ok d S' => exact fun ρ2 H2 v e2 s2 d2 => i _ _ (h ρ2 H2 v e2 s2 d2)
  | exc c fs vs S' => exact h
  | bad => exact h
/-- one evaluation ahead of another -/
theorem RQ.bind {r : Res} {k : D → Store → Res} {Q : VK} (h : RQ K mg ρ H σ W (r.bind k) Q) :
    RQ K mg ρ H σ W r (fun v H1 => Nx K mg ρ H r v H1 fun d S1 ρ1 => RQ K mg ρ1 H1 σ W (k d S1) Q) := by
  cases r with
  | ok d S' => exact fun ρ2 H2 v e2 s2 d2 => ⟨d, S', ρ2, rfl, e2, s2, d2, RQ.ext e2 h⟩
  | exc c fs vs S' => exact h
  | bad => exact h
/-- done: a value -/
theorem RQ.here {d : D} {v : V} {Q : VK} (h : RQ K mg ρ H σ W (.ok d S) Q) (s : SR K mg ρ H S) (r : DR K mg ρ H d v) : Q v H := h ρ H v Ext.refl s r
theorem RQ.at2 {d : D} {v : V} {Q : VK} {S' : Store} (h : RQ K mg ρ H σ W (.ok d S') Q) (e : Ext ρ H ρ' H') (s : SR K mg ρ' H' S') (r : DR K mg ρ' H' d v) : Q v H' := h ρ' H' v e s r
/-- .. a new immutable thing at p -/
theorem RQ.new {d : D} {p : Addr} {o : HO} {Q : VK} (h : RQ K mg ρ H σ W (.ok d S) Q) (s : SR K mg ρ H S) (hp : H p = none) (r : ∀ ρ' H', Ext ρ H ρ' H' → H' p = some o → ¬ ρ'.has p → DR K mg ρ' H' d (.ref p)) : Q (.ref p) (upd H p o) :=
  h ρ (upd H p o) (.ref p) (Ext.new s hp) (s.upd_new hp) (r _ _ (Ext.new s hp) upd_same (s.new hp))

/-- a list that is made: a value, or (own) a cell -/
def mkL (own : Bool) (xs : List D) (S : Store) : Res :=
  if xs.length ≤ 16777216 then
    if own then (if D.pures xs then .ok (.ref S.cs.length) { S with cs := S.cs ++ [.lst xs] } else .bad) else .ok (.lst xs) S
  else .bad
theorem mkL_ok {own : Bool} {xs : List D} {vs : List V} {p : Addr} {Q : VK} (h : RQ K mg ρ H σ W (mkL own xs S) Q) (s : SR K mg ρ H S) (r : DRs K mg ρ H xs vs) (hp : H p = none) : Q (.ref p) (upd H p (.lst vs)) := by
  unfold mkL at h
  split at h
  · split at h
    · split at h
      · obtain ⟨s2, e2⟩ := s.addCell (c := .lst xs) (o := .lst vs) (by assumption) hp fun ρ' H' e q => ⟨vs, q, r.mono e⟩
        exact h.at2 e2 s2 (.ref (by show (ρ.r ++ [p])[S.cs.length]? = some p; rw [← s.lr]; exact snoc_last))
      · exact False.elim h
    · exact h.new s hp fun ρ' H' e q n => .lst q n (r.mono e)
  · exact False.elim h
theorem mkL_len {own : Bool} {xs : List D} {vs : List V} {Q : VK} (h : RQ K mg ρ H σ W (mkL own xs S) Q) (r : DRs K mg ρ H xs vs) : vs.length ≤ sizeLine := by
  unfold mkL at h
  split at h
  · rw [← r.length, sizeLine_eq]; assumption
  · exact False.elim h
def mkT (xs : List D) (S : Store) : Res := if xs.length ≤ 16777216 then .ok (.tup xs) S else .bad
theorem mkT_ok {xs : List D} {vs : List V} {p : Addr} {Q : VK} (h : RQ K mg ρ H σ W (mkT xs S) Q) (s : SR K mg ρ H S) (r : DRs K mg ρ H xs vs) (hp : H p = none) : Q (.ref p) (upd H p (.tup vs)) := by
  unfold mkT at h
  split at h
  · exact h.new s hp fun ρ' H' e q n => .tup q n (r.mono e)
  · exact False.elim h
theorem mkT_len {xs : List D} {vs : List V} {Q : VK} (h : RQ K mg ρ H σ W (mkT xs S) Q) (r : DRs K mg ρ H xs vs) : vs.length ≤ sizeLine := by
  unfold mkT at h
  split at h
  · rw [← r.length, sizeLine_eq]; assumption
  · exact False.elim h

/-- what a list or tuple holds -/
def seqOf (d : D) (S : Store) : Option (List D) := match d with
  | .tup xs => some xs
  | .lst xs => some xs
  | .scr xs => some xs
  | .ref n => (match S.cs[n]? with
    | some (.lst xs) => some xs
    | some (.scr xs) => some xs
    | _ => none)
  | _ => none
def isTupD : D → Bool
  | .tup _ => true
  | _ => false
theorem seq_tup {xs : List D} {v : V} (r : DR K mg ρ H (.tup xs) v) : ∃ a vs, v = .ref a ∧ SqT K H a vs ∧ DRs K mg ρ H xs vs := by
  cases r with
  | tup h n r => exact ⟨_, _, rfl, SqT.of h, r⟩
  | tupK h r => exact ⟨_, _, rfl, .inr h, r⟩
theorem seq_lst {d : D} {xs : List D} {v : V} (s : SR K mg ρ H S) (r : DR K mg ρ H d v) (h : seqOf d S = some xs) (ht : isTupD d = false) : ∃ a vs, v = .ref a ∧ SqL K H a vs ∧ DRs K mg ρ H xs vs := by
  cases d with
  | tup ys => cases ht
  | lst ys =>
    cases h
    cases r with
    | lst h n r => exact ⟨_, _, rfl, SqL.of h, r⟩
  | scr ys =>
    cases h
    cases r with
    | scr h n r => exact ⟨_, _, rfl, .inl (.inr ⟨_, h⟩), r⟩
    | scrK h r => exact ⟨_, _, rfl, .inr h, r⟩
  | ref n =>
    cases r with
    | ref hr =>
      simp only [seqOf] at h
      cases hc : S.cs[n]? with
      | none => rw [hc] at h; cases h
      | some c =>
        rw [hc] at h
        cases c with
        | lst ys =>
          cases h
          obtain ⟨vs, h1, h2⟩ := s.cs n _ _ hc hr
          exact ⟨_, _, rfl, SqL.of h1, h2⟩
        | scr ys =>
          cases h
          obtain ⟨o, vs, h1, h2⟩ := s.cs n _ _ hc hr
          exact ⟨_, _, rfl, .inl (.inr ⟨o, h1⟩), h2⟩
        | dk ks vs => cases h
        | dt ks vs => cases h
  | _ => cases h
theorem seq_any {d : D} {xs : List D} {v : V} (s : SR K mg ρ H S) (r : DR K mg ρ H d v) (h : seqOf d S = some xs) : ∃ a vs, v = .ref a ∧ (SqL K H a vs ∨ SqT K H a vs) ∧ DRs K mg ρ H xs vs := by
  cases ht : isTupD d with
  | false =>
    obtain ⟨a, vs, e, h1, h2⟩ := seq_lst s r h ht
    exact ⟨a, vs, e, .inl h1, h2⟩
  | true =>
    cases d with
    | tup ys =>
      cases h
      obtain ⟨a, vs, e, h1, h2⟩ := seq_tup r
      exact ⟨a, vs, e, .inr h1, h2⟩
    | _ => cases ht
end
end Ev
end

section
set_option maxHeartbeats 4000000
namespace Ev
open PySem PySem.Spec PyProof.Rows L2
open AutoSeq1 (wpAny_loadPart')
theorem tuple_mulS (l : Addr) (items : Array Value) (n : Nat) (dd : Option Addr) (sl : Array (Option Value)) (x : Int) (u : Tok) (c0 : (decide (x < -(2 ^ 63)) || decide (x ≥ 2 ^ 63)) = false) (c1 : (items.isEmpty || x == 1) = true) :
    Meets (Builtin.«tuple.__mul__» ⟨[.ref l, .int x u], []⟩) (fun _ R s => s.heap.get? l = some { cls := .type "tuple", dict := dd, data := .seq items n, slots := sl } ∧ R (.ok (.ret (.ref l))) s) :=
  .of_wp fun prog w A R s h => by
    obtain ⟨hp, g, d, tk, os⟩ := s
    obtain ⟨hl, h⟩ := h
    have f1 := AutoSeq1.idx_int
    wp_walk using wpAny_loadPart' hl
    repeat (first
      | (refine wpAny_ite_false (decide_eq_false (by rw [c0]; exact Bool.false_ne_true)) ?_; wp_walk using wpAny_loadPart' hl)
      | (refine wpAny_ite_true (decide_eq_true c1) ?_; wp_walk using wpAny_loadPart' hl))
    all_goals first
      | exact ⟨_, rfl, h⟩
      | skip
theorem tuple_mul0 (l : Addr) (items : Array Value) (n : Nat) (dd : Option Addr) (sl : Array (Option Value)) (x : Int) (u : Tok) (c0 : (decide (x < -(2 ^ 63)) || decide (x ≥ 2 ^ 63)) = false) (c1 : (items.isEmpty || x == 1) = false) (c2 : (decide (x ≤ 0) || items.isEmpty) = true) :
    Meets (Builtin.«tuple.__mul__» ⟨[.ref l, .int x u], []⟩) (fun _ R s => s.heap.get? l = some { cls := .type "tuple", dict := dd, data := .seq items n, slots := sl } ∧
      R (.ok (.ret (Value.ref s.heap.objs.size))) { s with heap := s.heap.push { cls := Value.type "tuple", data := Data.seq #[] }, toks := s.toks }) :=
  .of_wp fun prog w A R s h => by
    obtain ⟨hp, g, d, tk, os⟩ := s
    obtain ⟨hl, h⟩ := h
    have f1 := AutoSeq1.idx_int
    wp_walk using wpAny_loadPart' hl
    repeat (first
      | (refine wpAny_ite_false (decide_eq_false (by rw [c0]; exact Bool.false_ne_true)) ?_; wp_walk using wpAny_loadPart' hl)
      | (refine wpAny_ite_false (decide_eq_false (by rw [c1]; exact Bool.false_ne_true)) ?_; wp_walk using wpAny_loadPart' hl)
      | (refine wpAny_ite_true (decide_eq_true c2) ?_; wp_walk using wpAny_loadPart' hl))
    exact ⟨_, rfl, h⟩
/-- the tuple itself, or the empty one -/
def rRepS (K : PySem.W.Frag) : R2 := fun x y H Q => ∃ l k xs, x = .ref l ∧ y = .int k ∧ SqT K H l xs ∧ -1000000000 ≤ k ∧ k ≤ 1000 ∧ ((xs = [] ∨ k = 1) ∧ Q (.ref l) H ∨ (xs ≠ [] ∧ k ≤ 0) ∧ ∀ p, H p = none → Q (.ref p) (upd H p (.tup [])))
theorem op_repS {X : Cx} : OpR X (binaryOp .Mult) (rRepS X.K) := by
  intro pins s σ H x y v u Q I rx ry h
  obtain ⟨l, k, xs, rfl, rfl, hT, h1, h2, h⟩ := h
  cases rx
  obtain ⟨t, rfl⟩ := ry
  obtain ⟨its, r, ⟨⟨cls, dd, data, sl⟩, ho, hc, n, hd⟩, hs⟩ := I.tuple hT
  simp only at hc hd
  subst hc hd
  have hle : its.length = xs.length := r.length.symm
  have c0 : (decide (k < -(2 ^ 63)) || decide (k ≥ 2 ^ 63)) = false := by
    rw [decide_eq_false (by omega), decide_eq_false (by omega)] <;> rfl
  have hi : its.toArray.isEmpty = decide (xs = []) := by
    cases r with
    | nil => rfl
    | cons a b => rfl
  rcases h with ⟨hk, q⟩ | ⟨⟨hx, hk⟩, q⟩
  · have c1 : (its.toArray.isEmpty || k == 1) = true := by
      rw [hi]
      rcases hk with e | e
      · simp [e]
      · simp [e]
    exact wpAny_binaryOp_repeat_ref (T := "tuple") (U := "int") (by decide) ⟨_, ho, rfl⟩ (fun s' => typeIs_int s' k t) noFill_tuple_mul F.fills_int_mul F.slot_int_rmul repeat_tuple F.slot_int_index.lookup
      (call_meets F.slot_int_rmul (typeIs_int s k t) F.entry_int_rmul (F.args_int_rmul_2 _ _) (int_rmul_tuple k t l its.toArray n dd sl)
        ⟨ho, rfl, ⟨_, ho, rfl⟩, call_meets F.slot_tuple_mul ⟨_, ho, rfl⟩ F.entry_tuple_mul (F.args_tuple_mul_2 _ _) (tuple_mulS l its.toArray n dd sl k t c0 c1) ⟨ho, ⟨.ref l, H, I, rfl, q⟩⟩⟩)
  · have c1 : (its.toArray.isEmpty || k == 1) = false := by
      rw [hi, decide_eq_false hx, Bool.false_or]
      exact beq_eq_false_iff_ne.mpr (by omega)
    have c2 : (decide (k ≤ 0) || its.toArray.isEmpty) = true := by
      rw [decide_eq_true hk]; rfl
    refine wpAny_binaryOp_repeat_ref (T := "tuple") (U := "int") (by decide) ⟨_, ho, rfl⟩ (fun s' => typeIs_int s' k t) noFill_tuple_mul F.fills_int_mul F.slot_int_rmul repeat_tuple F.slot_int_index.lookup
      (call_meets F.slot_int_rmul (typeIs_int s k t) F.entry_int_rmul (F.args_int_rmul_2 _ _) (int_rmul_tuple k t l its.toArray n dd sl)
        ⟨ho, rfl, ⟨_, ho, rfl⟩, call_meets F.slot_tuple_mul ⟨_, ho, rfl⟩ F.entry_tuple_mul (F.args_tuple_mul_2 _ _) (tuple_mul0 l its.toArray n dd sl k t c0 c1 c2) ⟨ho, ?_⟩⟩)
    refine ⟨.ref s.heap.objs.size, _, I.laid (t' := s.toks) (o := .tup []) (fun b ob q => Heap.get?_push_of_some _ q) (Nat.le_refl _) ?_, rfl, q _ (I.hok.fresh (Nat.le_refl _))⟩
    exact ⟨Nat.zero_le _, _, .nil, IsTup.new _ _⟩
end Ev
end

section
set_option maxHeartbeats 4000000
namespace Ev
open PySem PySem.Spec PyProof.Rows L2

/-- what stands around a piece of code -/
structure Cn (X : Cx) : Prop where
  calm : X.calm = true
  un : X.A.units + 200 < cLine
  gd : X.A.guards = some []
theorem Cn.hu1 {X : Cx} (c : Cn X) : X.A.units + 1 < cLine := by have := c.un; omega
theorem Cn.hu64 {X : Cx} (c : Cn X) : X.A.units + 64 < cLine := by have := c.un; omega
theorem Cn.hu0 {X : Cx} (c : Cn X) : X.A.units < cLine := by have := c.un; omega
/-- the table of a def's code object -/
noncomputable def tabOf (X : Cx) : Addr := open Classical in if h : ∃ P, ∃ c, X.env.code = .ref c ∧ LamX.TabB X.base X.mg c P then Classical.choose h else 0
/-- a def's frame (none in a comprehension) -/
noncomputable def cvOf (X : Cx) : Option CV := if X.stack.length = X.outer.length + 1 then some ⟨X.N.map (fun x => if X.fn x = true then X.env.cells.lookup x else none), tabOf X, X.env.qual ++ "<lambda>"⟩ else none
abbrev xE (X : Cx) (W : WX) (M : Sm) : TE := tE X.K X.mg (cvOf X) W M

section
variable {X : Cx} {W : WX} {a b : Expr} {A B : Sm} {pos : Pos}

def evVar (i : Nat) : Sm := fun σd S => match σd[i]? with
  | some (some d) => .ok d S
  | _ => .bad
def evC (d : D) : Sm := fun _ S => .ok d S
theorem x_var {e : Expr} {i : Nat} (h : PE X e (tVar i)) : PE X e (xE X W (evVar i)) := peImp h fun σ H Q ⟨ρ, σd, S, er, sr, q⟩ => by
  unfold evVar at q
  cases e : σd[i]? with
  | none => rw [e] at q; exact False.elim q
  | some o =>
    cases o with
    | none => rw [e] at q; exact False.elim q
    | some d =>
      rw [e] at q
      obtain ⟨v, h1, h2⟩ := er.at_ i d e
      exact ⟨v, h1, q.here sr h2⟩
theorem x_c {e : Expr} {v : V} {d : D} (h : PE X e (tC v)) (r : ∀ ρ H, DR X.K X.mg ρ H d v) : PE X e (xE X W (evC d)) := peImp h fun σ H Q ⟨ρ, σd, S, er, sr, q⟩ => RQ.here q sr (r ρ H)
theorem x_int {i j pos} : PE X (.Constant (.int i) j pos) (xE X W (evC (.int i))) := x_c pe_int fun _ _ => .int i
theorem x_bl {b j pos} : PE X (.Constant (.bool b) j pos) (xE X W (evC (.bl b))) := x_c pe_bl fun _ _ => .bl b
theorem x_non {j pos} : PE X (.Constant .none j pos) (xE X W (evC .non)) := x_c pe_non fun _ _ => .non
theorem x_str {s j pos} : PE X (.Constant (.str s) j pos) (xE X W (evC (.str s))) := x_c pe_str fun _ _ => .str s

def evB (A B : Sm) (f : D → D → Store → Res) : Sm := fun σd S => (A σd S).bind fun x S1 => (B σd S1).bind fun y S2 => f x y S2
def evU (A : Sm) (f : D → Store → Res) : Sm := fun σd S => (A σd S).bind f
def Fit2 (X : Cx) (W : WX) (r : R2) (f : D → D → Store → Res) : Prop := ∀ ρ H S σ d1 d2 v1 v2 Q, SR X.K X.mg ρ H S → DR X.K X.mg ρ H d1 v1 → DR X.K X.mg ρ H d2 v2 → RQ X.K X.mg ρ H σ W (f d1 d2 S) Q → r v1 v2 H Q
def Fit1 (X : Cx) (W : WX) (r : V → Hp → VK → Prop) (f : D → Store → Res) : Prop := ∀ ρ H S σ d v Q, SR X.K X.mg ρ H S → DR X.K X.mg ρ H d v → RQ X.K X.mg ρ H σ W (f d S) Q → r v H Q
theorem e2 {e : Expr} {r : R2} {f : D → D → Store → Res} (h : PE X e (tOp r (xE X W A) (xE X W B))) (ft : Fit2 X W r f) : PE X e (xE X W (evB A B f)) := peImp h fun σ H Q ⟨ρ, σd, S, er, sr, q⟩ =>
  ⟨ρ, σd, S, er, sr, (RQ.bind q).mono fun v1 H1 ⟨d1, S1, ρ1, _, x1, s1, r1, q1⟩ =>
    ⟨ρ1, σd, S1, er.mono x1, s1, (RQ.bind q1).mono fun v2 H2 ⟨d2, S2, ρ2, _, x2, s2, r2, q2⟩ => ft ρ2 H2 S2 σ d1 d2 v1 v2 Q s2 (r1.mono x2) r2 q2⟩⟩
theorem e1 {e : Expr} {r : V → Hp → VK → Prop} {f : D → Store → Res} (h : PE X e (tUn r (xE X W A))) (ft : Fit1 X W r f) : PE X e (xE X W (evU A f)) := peImp h fun σ H Q ⟨ρ, σd, S, er, sr, q⟩ =>
  ⟨ρ, σd, S, er, sr, (RQ.bind q).mono fun v1 H1 ⟨d1, S1, ρ1, _, x1, s1, r1, q1⟩ => ft ρ1 H1 S1 σ d1 v1 Q s1 r1 q1⟩

def RQA (K : PySem.W.Frag) (mg : Str → Option Value) (ρ : Adr) (H : Hp) (σ : L2.St) (W : WX) (r : Res) (Q : List V → Hp → Prop) : Prop := match r with
  | .ok d S' => ∃ ds, d = .tup ds ∧ ∀ ρ' H' vs, Ext ρ H ρ' H' → SR K mg ρ' H' S' → DRs K mg ρ' H' ds vs → Q vs H'
  | .exc c fs vs S' => RQ K mg ρ H σ W (.exc c fs vs S') (fun _ _ => True)
  | .bad => False
abbrev xA (X : Cx) (W : WX) (M : Sm) : TA := fun σ H Q => ∃ ρ σd S, ER X.K X.mg (cvOf X) ρ H σd σ ∧ SR X.K X.mg ρ H S ∧ RQA X.K X.mg ρ H σ W (M σd S) Q
def evNil : Sm := fun _ S => .ok (.tup []) S
def evCons (A As : Sm) : Sm := fun σd S => (A σd S).bind fun d S1 => (As σd S1).bind fun ds S2 => match ds with
  | .tup xs => .ok (.tup (d :: xs)) S2
  | _ => .bad
/-- a row of arguments is used -/
def Res.bindA (r : Res) (k : List D → Store → Res) : Res := r.bind fun d S => match d with
  | .tup xs => k xs S
  | _ => .bad
theorem RQA.mono {ρ : Adr} {H : Hp} {σ : L2.St} {r : Res} {Q Q' : List V → Hp → Prop} (h : RQA X.K X.mg ρ H σ W r Q) (i : ∀ vs H', Q vs H' → Q' vs H') : RQA X.K X.mg ρ H σ W r Q' := by
  cases r with
  | ok d S => obtain ⟨ds, e, k⟩ := h; exact ⟨ds, e, fun ρ' H' vs x s q => i _ _ (k ρ' H' vs x s q)⟩
  | exc c fs vs S => exact h
  | bad => exact h
theorem RQ.exc_any {ρ : Adr} {H : Hp} {σ : L2.St} {c : Str} {fs : List Str} {vs : List D} {S : Store} {Q Q' : VK} (h : RQ X.K X.mg ρ H σ W (.exc c fs vs S) Q) : RQ X.K X.mg ρ H σ W (.exc c fs vs S) Q' := h
/-- the row, then what is made of it -/
theorem RQA.bind {ρ : Adr} {H : Hp} {σ : L2.St} {r : Res} {k : List D → Store → Res} {Q : VK} (h : RQ X.K X.mg ρ H σ W (r.bindA k) Q) :
    RQA X.K X.mg ρ H σ W r (fun vs H1 => ∃ ds S1 ρ1, Ext ρ H ρ1 H1 ∧ SR X.K X.mg ρ1 H1 S1 ∧ DRs X.K X.mg ρ1 H1 ds vs ∧ RQ X.K X.mg ρ1 H1 σ W (k ds S1) Q) := by
  cases r with
  | ok d S =>
    cases d with
    | tup ds => exact ⟨ds, rfl, fun ρ' H' vs x s q => ⟨ds, S, ρ', x, s, q, RQ.ext x h⟩⟩
    | _ => exact False.elim h
  | exc c fs vs S => exact h
  | bad => exact h
theorem RQA.bindA {ρ : Adr} {H : Hp} {σ : L2.St} {r : Res} {k : D → Store → Res} {Q : List V → Hp → Prop} (h : RQA X.K X.mg ρ H σ W (r.bind k) Q) :
    RQ X.K X.mg ρ H σ W r (fun v H1 => ∃ d S1 ρ1, Ext ρ H ρ1 H1 ∧ SR X.K X.mg ρ1 H1 S1 ∧ DR X.K X.mg ρ1 H1 d v ∧ RQA X.K X.mg ρ1 H1 σ W (k d S1) Q) := by
  cases r with
  | ok d S =>
    refine fun ρ' H' v x s q => ⟨d, S, ρ', x, s, q, ?_⟩
    have h : RQA X.K X.mg ρ H σ W (k d S) Q := h
    cases hk : k d S with
    | ok d2 S2 =>
      rw [hk] at h
      obtain ⟨ds, e, k2⟩ := h
      exact ⟨ds, e, fun ρ2 H2 vs x2 s2 q2 => k2 ρ2 H2 vs (x.trans x2) s2 q2⟩
    | exc c fs vs S2 =>
      rw [hk] at h
      exact RQ.ext (r := .exc c fs vs S2) (Q := fun _ _ => True) x h
    | bad => rw [hk] at h; exact h
  | exc c fs vs S => exact h
  | bad => exact h
theorem x_nil : PA X [] (xA X W evNil) := ⟨fun pos pins s σ H Q I ⟨ρ, σd, S, er, sr, ds, e, q⟩ => by
  cases e
  exact pa_nil.run pos pins s σ H Q I (q ρ H [] Ext.refl sr .nil)⟩
theorem x_cons {e : Expr} {es : List Expr} {M : Sm} (ha : PE X e (xE X W A)) (hr : PA X es (xA X W M)) (hs : starEach (e :: es) X.env = (false, eval e X.env) :: starEach es X.env := by rfl) : PA X (e :: es) (xA X W (evCons A M)) :=
  ⟨fun pos pins s σ H Q I ⟨ρ, σd, S, er, sr, q⟩ => (pa_cons ha hr hs).run pos pins s σ H Q I ⟨ρ, σd, S, er, sr, (RQA.bindA q).mono fun v H1 ⟨d, S1, ρ1, x1, s1, r1, q1⟩ =>
    ⟨ρ1, σd, S1, er.mono x1, s1, by
      cases hM : M σd S1 with
      | ok d2 S2 =>
        rw [hM] at q1
        cases d2 with
        | tup xs =>
          obtain ⟨ds, e2, k2⟩ := q1
          cases e2
          exact ⟨xs, rfl, fun ρ2 H2 vs x2 s2 q2 => k2 ρ2 H2 (v :: vs) x2 s2 (.cons (r1.mono x2) q2)⟩
        | _ => exact False.elim q1
      | exc c fs vs S2 => rw [hM] at q1; exact q1
      | bad => rw [hM] at q1; exact q1⟩⟩⟩
/-- a row of parts, then f of it -/
def evA (M : Sm) (f : List D → Store → Res) : Sm := fun σd S => (M σd S).bindA f
def FitA (X : Cx) (W : WX) (r : List V → Hp → VK → Prop) (f : List D → Store → Res) : Prop := ∀ ρ H S σ ds vs Q, SR X.K X.mg ρ H S → DRs X.K X.mg ρ H ds vs → RQ X.K X.mg ρ H σ W (f ds S) Q → r vs H Q
theorem eA {e : Expr} {M : Sm} {r : List V → Hp → VK → Prop} {f : List D → Store → Res} (h : PE X e (tCB r (xA X W M))) (ft : FitA X W r f) : PE X e (xE X W (evA M f)) := peImp h fun σ H Q ⟨ρ, σd, S, er, sr, q⟩ =>
  ⟨ρ, σd, S, er, sr, (RQA.bind q).mono fun vs H1 ⟨ds, S1, ρ1, x1, s1, r1, q1⟩ => ft ρ1 H1 S1 σ ds vs Q s1 r1 q1⟩

theorem x_tup {es : List Expr} {M : Sm} {k : Nat} (h : PA X es (xA X W M)) : PE X (.Tuple es k pos) (xE X W (evA M mkT)) :=
  eA (r := fun vs H Q => vs.length ≤ sizeLine ∧ ∀ p, H p = none → Q (.ref p) (upd H p (.tup vs))) (pe_tup h) fun ρ H S σ ds vs Q s r q => ⟨mkT_len q r, fun p hp => mkT_ok q s r hp⟩
theorem x_lst {own : Bool} {es : List Expr} {M : Sm} (h : PA X es (xA X W M)) : PE X (.List es pos) (xE X W (evA M (mkL own))) :=
  eA (r := fun vs H Q => vs.length ≤ sizeLine ∧ ∀ p, H p = none → Q (.ref p) (upd H p (.lst vs))) (pe_lst h) fun ρ H S σ ds vs Q s r q => ⟨mkL_len q r, fun p hp => mkL_ok q s r hp⟩

def intB (f : Int → Int → Res) : D → D → Store → Res := fun x y _ => match x, y with
  | .int i, .int j => f i j
  | _, _ => .bad
/-- ints -/
theorem fit_int {C : Int → Int → Prop} {g : Int → Int → V} {f : D → D → Store → Res} (hf : ∀ x y S, f x y S = .bad ∨ ∃ i j, x = .int i ∧ y = .int j ∧ C i j ∧ ∃ d, f x y S = .ok d S ∧ ∀ ρ H, DR X.K X.mg ρ H d (g i j)) : Fit2 X W (rI C g) f := fun ρ H S σ d1 d2 v1 v2 Q s r1 r2 q => by
  rcases hf d1 d2 S with e | ⟨i, j, rfl, rfl, hc, d, e, r⟩
  · rw [e] at q; exact False.elim q
  · cases r1
    cases r2
    rw [e] at q
    exact ⟨i, j, rfl, rfl, hc, q.here s (r ρ H)⟩
/-- the list that a value is, tracked (no script) -/
def lstOf (d : D) (S : Store) : Option (List D) := match d with
  | .lst xs => some xs
  | .ref n => (match S.cs[n]? with
    | some (.lst xs) => some xs
    | _ => none)
  | _ => none
theorem lst_of {d : D} {xs : List D} {v : V} {ρ : Adr} {H : Hp} {S : Store} {K : PySem.W.Frag} {mg : Str → Option Value} (s : SR K mg ρ H S) (r : DR K mg ρ H d v) (h : lstOf d S = some xs) : ∃ a vs, v = .ref a ∧ H a = some (.lst vs) ∧ DRs K mg ρ H xs vs := by
  cases d with
  | lst ys =>
    cases h
    cases r with
    | lst h n r => exact ⟨_, _, rfl, h, r⟩
  | ref n =>
    cases r with
    | ref hr =>
      simp only [lstOf] at h
      cases hc : S.cs[n]? with
      | none => rw [hc] at h; cases h
      | some c =>
        rw [hc] at h
        cases c with
        | lst ys =>
          cases h
          obtain ⟨vs, h1, h2⟩ := s.cs n _ _ hc hr
          exact ⟨_, _, rfl, h1, h2⟩
        | scr ys => cases h
        | dk ks vs => cases h
        | dt ks vs => cases h
  | _ => cases h
def dAdd (own : Bool) (x y : D) (S : Store) : Res := match x, y with
  | .int i, .int j => .ok (.int (i + j)) S
  | .tup xs, .tup ys => mkT (xs ++ ys) S
  | .str a, .str b => if a.length + b.length ≤ 16777216 then .ok (.str (a ++ b)) S else .bad
  | x, y => match lstOf x S, lstOf y S with
    | some xs, some ys => mkL own (xs ++ ys) S
    | _, _ => .bad
theorem tup_v {ρ : Adr} {H : Hp} {K : PySem.W.Frag} {mg : Str → Option Value} {xs : List D} {v : V} (r : DR K mg ρ H (.tup xs) v) : ∃ a vs, v = .ref a ∧ SqT K H a vs ∧ DRs K mg ρ H xs vs := seq_tup r
theorem x_add {own : Bool} (ha : PE X a (xE X W A)) (hb : PE X b (xE X W B)) : PE X (.BinOp a .Add b pos) (xE X W (evB A B (dAdd own))) := by
  refine e2 (pe_op (OpR.or op_add (OpR.or op_catA (OpR.or op_add_str op_cat))) ha hb) fun ρ H S σ d1 d2 v1 v2 Q s r1 r2 q => ?_
  have lists : ∀ {xs ys}, lstOf d1 S = some xs → lstOf d2 S = some ys → RQ X.K X.mg ρ H σ W (mkL own (xs ++ ys) S) Q → rCat v1 v2 H Q := fun {xs ys} e1 e2 q => by
    obtain ⟨a1, u1, rfl, h1, k1⟩ := lst_of s r1 e1
    obtain ⟨a2, u2, rfl, h2, k2⟩ := lst_of s r2 e2
    refine ⟨a1, a2, u1, u2, rfl, rfl, h1, h2, ?_, fun p hp => mkL_ok q s (k1.append k2) hp⟩
    have := mkL_len q (k1.append k2)
    simpa using this
  unfold dAdd at q
  split at q
  · cases r1; cases r2
    exact .inl ⟨_, _, rfl, rfl, q.here s (.int _)⟩
  · rename_i xs ys
    obtain ⟨a1, u1, rfl, h1, k1⟩ := tup_v r1
    obtain ⟨a2, u2, rfl, h2, k2⟩ := tup_v r2
    refine .inr (.inl ⟨a1, a2, u1, u2, rfl, rfl, h1, h2, by have := mkT_len q (k1.append k2); simpa using this, fun e => ?_, fun e e' => ?_, fun _ _ p hp => mkT_ok q s (k1.append k2) hp⟩)
    · subst e
      have : xs = [] := by cases k1; rfl
      subst this
      unfold mkT at q
      split at q
      · exact q.here s (by simpa using r2)
      · exact False.elim q
    · subst e'
      have : ys = [] := by cases k2; rfl
      subst this
      unfold mkT at q
      split at q
      · exact q.here s (by simpa using r1)
      · exact False.elim q
  · split at q
    · cases r1; cases r2
      exact .inr (.inr (.inl ⟨_, _, rfl, rfl, by rw [sizeLine_eq]; assumption, q.here s (.str _)⟩))
    · exact False.elim q
  · split at q
    · exact .inr (.inr (.inr (lists (by assumption) (by assumption) q)))
    · exact False.elim q
def dSub : D → D → Store → Res := fun x y S => match x, y with
  | .int i, .int j => .ok (.int (i - j)) S
  | _, _ => .bad
theorem x_sub (ha : PE X a (xE X W A)) (hb : PE X b (xE X W B)) : PE X (.BinOp a .Sub b pos) (xE X W (evB A B dSub)) := by
  refine e2 (pe_op op_sub ha hb) fun ρ H S σ d1 d2 v1 v2 Q s r1 r2 q => ?_
  unfold dSub at q
  split at q
  · cases r1; cases r2
    exact ⟨_, _, rfl, rfl, q.here s (.int _)⟩
  · exact False.elim q
def repL (k : Int) (xs : List D) : List D := (List.replicate k.toNat xs).flatten
def dMul (own : Bool) (x y : D) (S : Store) : Res := match x, y with
  | .int i, .int j => if i.natAbs.log2 + j.natAbs.log2 < 1000000 then .ok (.int (i * j)) S else .bad
  | .tup xs, .int k => if -1000000000 ≤ k ∧ k ≤ 1000 ∧ xs.length ≤ 1000 then .ok (.tup (repL k xs)) S else .bad
  | x, .int k => (match lstOf x S with
    | some xs => if -1000000000 ≤ k ∧ k ≤ 1000000000 ∧ xs.length * k.toNat ≤ 16777216 then mkL own (repL k xs) S else .bad
    | none => .bad)
  | _, _ => .bad
theorem rep_v {ρ : Adr} {H : Hp} {K : PySem.W.Frag} {mg : Str → Option Value} {xs : List D} {vs : List V} {k : Int} (r : DRs K mg ρ H xs vs) : DRs K mg ρ H (repL k xs) (List.replicate k.toNat vs).flatten := r.flat_rep _
theorem x_mul {own : Bool} (ha : PE X a (xE X W A)) (hb : PE X b (xE X W B)) : PE X (.BinOp a .Mult b pos) (xE X W (evB A B (dMul own))) := by
  refine e2 (pe_op (OpR.or op_mulW (OpR.or (OpR.or op_repT op_repS) op_rep)) ha hb) fun ρ H S σ d1 d2 v1 v2 Q s r1 r2 q => ?_
  unfold dMul at q
  split at q
  · split at q
    · cases r1; cases r2
      exact .inl ⟨_, _, rfl, rfl, by assumption, q.here s (.int _)⟩
    · exact False.elim q
  · split at q
    · rename_i xs k hc
      obtain ⟨a1, u1, rfl, h1, k1⟩ := tup_v r1
      cases r2
      obtain ⟨c2, c3, c4⟩ := hc
      have kl := k1.length
      by_cases hx : xs = []
      · subst hx
        have hu : u1 = [] := by cases k1; rfl
        have er : repL k [] = [] := by unfold repL; simp
        rw [er] at q
        exact .inr (.inl (.inr ⟨a1, k, u1, rfl, rfl, h1, c2, c3, .inl ⟨.inl hu, q.here s r1⟩⟩))
      · have hu : u1 ≠ [] := fun e => hx (by
          subst e
          cases k1
          rfl)
        by_cases hk1 : k = 1
        · subst hk1
          have er : repL 1 xs = xs := by unfold repL; simp
          rw [er] at q
          exact .inr (.inl (.inr ⟨a1, 1, u1, rfl, rfl, h1, c2, c3, .inl ⟨.inr rfl, q.here s r1⟩⟩))
        · by_cases hk0 : k ≤ 0
          · have er : repL k xs = [] := by
              unfold repL
              have : k.toNat = 0 := by omega
              rw [this]; rfl
            rw [er] at q
            exact .inr (.inl (.inr ⟨a1, k, u1, rfl, rfl, h1, c2, c3, .inr ⟨⟨hu, hk0⟩, fun p hp => q.new s hp fun ρ' H' e q n => .tup q n .nil⟩⟩))
          · exact .inr (.inl (.inl ⟨a1, k, u1, rfl, rfl, h1, hu, by omega, c3, by rw [← kl]; exact c4, fun p hp => q.new s hp fun ρ' H' e q n => .tup q n (rep_v (k1.mono e))⟩))
    · exact False.elim q
  · split at q
    · split at q
      · rename_i xs e hc
        obtain ⟨a1, u1, rfl, h1, k1⟩ := lst_of s r1 (by assumption)
        cases r2
        obtain ⟨c1, c2, c3⟩ := hc
        refine .inr (.inr ⟨a1, _, u1, rfl, rfl, h1, by omega, by omega, by rw [← k1.length, sizeLine_eq]; exact c3, fun p hp => mkL_ok q s (rep_v k1) hp⟩)
      · exact False.elim q
    · exact False.elim q
  · exact False.elim q
end
end Ev
end

section
set_option maxHeartbeats 4000000
namespace Ev
open PySem PySem.Spec PyProof.Rows L2
section
variable {X : Cx} {W : WX} {a b c : Expr} {A B C : Sm} {pos : Pos}

def dDiv : D → D → Store → Res := fun x y S => match x, y with
  | .int i, .int j => if 0 < j ∧ j.natAbs.log2 < 9000 then .ok (.int (i / j)) S else if j < 0 ∧ j.natAbs < 1073741824 then .ok (.int (i.fdiv j)) S else .bad
  | _, _ => .bad
theorem x_div (ha : PE X a (xE X W A)) (hb : PE X b (xE X W B)) : PE X (.BinOp a .FloorDiv b pos) (xE X W (evB A B dDiv)) := by
  refine e2 (pe_op (OpR.or op_fdivW op_fdivN) ha hb) fun ρ H S σ d1 d2 v1 v2 Q s r1 r2 q => ?_
  unfold dDiv at q
  split at q
  · cases r1; cases r2
    split at q
    · exact .inl ⟨_, _, rfl, rfl, by assumption, q.here s (.int _)⟩
    · split at q
      · rename_i hc
        exact .inr ⟨_, _, rfl, rfl, ⟨by omega, hc.2⟩, q.here s (.int _)⟩
      · exact False.elim q
  · exact False.elim q
def dMod : D → D → Store → Res := fun x y S => match x, y with
  | .int i, .int j => if 0 < j then .ok (.int (i % j)) S else .bad
  | _, _ => .bad
theorem x_mod (ha : PE X a (xE X W A)) (hb : PE X b (xE X W B)) : PE X (.BinOp a .Mod b pos) (xE X W (evB A B dMod)) := by
  refine e2 (pe_op op_mod ha hb) fun ρ H S σ d1 d2 v1 v2 Q s r1 r2 q => ?_
  unfold dMod at q
  split at q
  · cases r1; cases r2
    split at q
    · exact ⟨_, _, rfl, rfl, by assumption, q.here s (.int _)⟩
    · exact False.elim q
  · exact False.elim q
def dPow : D → D → Store → Res := fun x y S => match x, y with
  | .int i, .int j => if 0 ≤ j ∧ j ≤ 1000000 ∧ i.natAbs < 18446744073709551616 then .ok (.int (i ^ j.toNat)) S else .bad
  | _, _ => .bad
theorem x_pow (ha : PE X a (xE X W A)) (hb : PE X b (xE X W B)) : PE X (.BinOp a .Pow b pos) (xE X W (evB A B dPow)) := by
  refine e2 (pe_op op_pow ha hb) fun ρ H S σ d1 d2 v1 v2 Q s r1 r2 q => ?_
  unfold dPow at q
  split at q
  · cases r1; cases r2
    split at q
    · rename_i hc
      exact ⟨_, _, rfl, rfl, ⟨hc.1, hc.2.1, by have := hc.2.2; omega⟩, q.here s (.int _)⟩
    · exact False.elim q
  · exact False.elim q
def dNeg : D → Store → Res := fun x S => match x with
  | .int i => .ok (.int (-i)) S
  | _ => .bad
theorem x_neg (ha : PE X a (xE X W A)) : PE X (.UnaryOp .USub a pos) (xE X W (evU A dNeg)) := by
  refine e1 (pe_un un_neg ha) fun ρ H S σ d v Q s r q => ?_
  unfold dNeg at q
  split at q
  · cases r
    exact ⟨_, rfl, q.here s (.int _)⟩
  · exact False.elim q

def pyK : Key → PyData
  | .inl i => .int i
  | .inr x => .str x
mutual
def py : D → PyData
  | .non => .none
  | .bl b => .bool b
  | .int i => .int i
  | .str x => .str x
  | .ty _ => .none
  | .tup xs => .tuple (pys xs)
  | .lst xs => .list (pys xs)
  | .scr xs => .list (pys xs)
  | .dk ks vs => .dict (List.zip (ks.map pyK) (pys vs))
  | .dt _ _ => .none
  | .ins _ _ _ => .none
  | .exn _ _ _ => .none
  | .clo _ _ => .none
  | .ref _ => .none
  | .obj _ => .none
def pys : List D → List PyData
  | [] => []
  | x :: xs => py x :: pys xs
end
mutual
def isData : D → Bool
  | .non => true
  | .bl _ => true
  | .int _ => true
  | .str _ => true
  | .ty _ => false
  | .tup xs => areData xs
  | .lst xs => areData xs
  | .scr xs => areData xs
  | .dk _ _ => false
  | .dt _ _ => false
  | .ins _ _ _ => false
  | .exn _ _ _ => false
  | .clo _ _ => false
  | .ref _ => false
  | .obj _ => false
def areData : List D → Bool
  | [] => true
  | x :: xs => isData x && areData xs
end
mutual
theorem dp_of {K : PySem.W.Frag} {mg : Str → Option Value} {ρ : Adr} {H : Hp} : ∀ {d : D} {v : V}, DR K mg ρ H d v → isData d = true → Dp K H v (py d)
  | _, _, .non, _ => by rw [py]; exact .non
  | _, _, .bl b, _ => by rw [py]; exact .bl b
  | _, _, .int i, _ => by rw [py]; exact .int i
  | _, _, .str x, _ => by rw [py]; exact .str x
  | _, _, .tup h n r, e => by rw [py]; exact .tup (SqT.of h) (dps_of r (by simpa [isData] using e))
  | _, _, .tupK h r, e => by rw [py]; exact .tup (.inr h) (dps_of r (by simpa [isData] using e))
  | _, _, .lst h n r, e => by rw [py]; exact .lst (SqL.of h) (dps_of r (by simpa [isData] using e))
  | _, _, .scr h n r, e => by rw [py]; exact .lst (.inl (.inr ⟨_, h⟩)) (dps_of r (by simpa [isData] using e))
  | _, _, .scrK h r, e => by rw [py]; exact .lst (.inr h) (dps_of r (by simpa [isData] using e))
  | _, _, .ty _, e => by simp [isData] at e
  | _, _, .dk .., e => by simp [isData] at e
  | _, _, .dt .., e => by simp [isData] at e
  | _, _, .ins .., e => by simp [isData] at e
  | _, _, .clo .., e => by simp [isData] at e
  | _, _, .ref _, e => by simp [isData] at e
  | _, _, .obj _, e => by simp [isData] at e
theorem dps_of {K : PySem.W.Frag} {mg : Str → Option Value} {ρ : Adr} {H : Hp} : ∀ {ds : List D} {vs : List V}, DRs K mg ρ H ds vs → areData ds = true → DpAll K H vs (pys ds)
  | _, _, .nil, _ => by rw [pys]; exact .nil
  | _, _, .cons h r, e => by
    have e2 := Bool.and_eq_true_iff.mp (show (isData _ && areData _) = true by simpa [areData] using e)
    rw [pys]
    exact .cons (dp_of h e2.1) (dps_of r e2.2)
end
/-- a list of the store, by value -/
def res (S : Store) (d : D) : D := match d with
  | .ref n => (match S.cs[n]? with
    | some (.lst xs) => .lst xs
    | _ => d)
  | _ => d
theorem dp_res {K : PySem.W.Frag} {mg : Str → Option Value} {ρ : Adr} {H : Hp} {S : Store} {d : D} {v : V} (s : SR K mg ρ H S) (r : DR K mg ρ H d v) (h : isData (res S d) = true) : Dp K H v (py (res S d)) := by
  cases d with
  | ref n =>
    unfold res at h ⊢
    cases hc : S.cs[n]? with
    | none => simp [hc, isData] at h
    | some c =>
      cases c with
      | lst xs =>
        simp only [hc] at h ⊢
        cases r with
        | ref hr =>
          obtain ⟨vs, h1, h2⟩ := s.cs n _ _ hc hr
          rw [py]
          exact .lst (SqL.of h1) (dps_of h2 (by simpa [isData] using h))
      | scr xs => simp [hc, isData] at h
      | dk ks vs => simp [hc, isData] at h
      | dt ks vs => simp [hc, isData] at h
  | _ => exact dp_of r h
def okEq (d : D) : Bool := isData d && SeqAt.shaped (py d)
def dEqD (neg : Bool) : D → D → Store → Res := fun x y S =>
  if okEq (res S x) && okEq (res S y) then .ok (.bl (if neg then !PyData.eqv (py (res S x)) (py (res S y)) else PyData.eqv (py (res S x)) (py (res S y)))) S else .bad
/-- ==, != of data; of texts whatever they hold -/
def dEq (neg : Bool) : D → D → Store → Res := fun x y S => match x, y with
  | .str a, .str b => .ok (.bl (if neg then !decide (a = b) else decide (a = b))) S
  | x, y => dEqD neg x y S
theorem okEq_of {d : D} (h : okEq d = true) : isData d = true ∧ SeqAt.shaped (py d) = true := Bool.and_eq_true_iff.mp h
abbrev rEqX (K : PySem.W.Frag) : R2 := fun x y H Q => rEqD K x y H Q ∨ rEq x y H Q
abbrev rNeX (K : PySem.W.Frag) : R2 := fun x y H Q => rNeD K x y H Q ∨ rNe x y H Q
theorem fit_eqD : Fit2 X W (rEqD X.K) (dEqD false) := fun ρ H S σ d1 d2 v1 v2 Q s r1 r2 q => by
  unfold dEqD at q
  split at q
  · rename_i hc
    obtain ⟨h1, h2⟩ := Bool.and_eq_true_iff.mp hc
    obtain ⟨a1, a2⟩ := okEq_of h1
    obtain ⟨b1, b2⟩ := okEq_of h2
    exact ⟨_, _, dp_res s r1 a1, dp_res s r2 b1, a2, b2, q.here s (.bl _)⟩
  · exact False.elim q
theorem fit_neD : Fit2 X W (rNeD X.K) (dEqD true) := fun ρ H S σ d1 d2 v1 v2 Q s r1 r2 q => by
  unfold dEqD at q
  split at q
  · rename_i hc
    obtain ⟨h1, h2⟩ := Bool.and_eq_true_iff.mp hc
    obtain ⟨a1, a2⟩ := okEq_of h1
    obtain ⟨b1, b2⟩ := okEq_of h2
    exact ⟨_, _, dp_res s r1 a1, dp_res s r2 b1, a2, b2, q.here s (.bl _)⟩
  · exact False.elim q
theorem dec_strV {a b : Str} : decide (V.str a = V.str b) = decide (a = b) := by
  rw [Bool.eq_iff_iff]
  simp
theorem fit_eq : Fit2 X W (rEqX X.K) (dEq false) := fun ρ H S σ d1 d2 v1 v2 Q s r1 r2 q => by
  unfold dEq at q
  split at q
  · cases r1; cases r2
    exact .inr ⟨rfl, by rw [dec_strV]; exact q.here s (.bl _)⟩
  · exact .inl (fit_eqD ρ H S σ _ _ _ _ Q s r1 r2 q)
theorem fit_ne : Fit2 X W (rNeX X.K) (dEq true) := fun ρ H S σ d1 d2 v1 v2 Q s r1 r2 q => by
  unfold dEq at q
  split at q
  · cases r1; cases r2
    exact .inr ⟨rfl, by rw [dec_strV]; exact q.here s (.bl _)⟩
  · exact .inl (fit_neD ρ H S σ _ _ _ _ Q s r1 r2 q)
/-- a comparison of ints -/
def dCmp (p : Int → Int → Bool) : D → D → Store → Res := fun x y S => match x, y with
  | .int i, .int j => .ok (.bl (p i j)) S
  | _, _ => .bad
theorem fit_cmp {p : Int → Int → Bool} : Fit2 X W (rI0 fun i j => .bl (p i j)) (dCmp p) := fun ρ H S σ d1 d2 v1 v2 Q s r1 r2 q => by
  unfold dCmp at q
  split at q
  · cases r1; cases r2
    exact ⟨_, _, rfl, rfl, q.here s (.bl _)⟩
  · exact False.elim q
abbrev dLt := dCmp fun i j => decide (i < j)
abbrev dLe := dCmp fun i j => decide (i ≤ j)
abbrev dGt := dCmp fun i j => decide (j < i)
abbrev dGe := dCmp fun i j => decide (j ≤ i)
/-- is None, is a bool -/
def dIs (neg : Bool) : D → D → Store → Res := fun x y S => match y with
  | .non => (match x with
    | .exn .. | .clo .. => .bad
    | .non => .ok (.bl (!neg)) S
    | _ => .ok (.bl neg) S)
  | .bl b => (match x with
    | .bl a => .ok (.bl (if neg then !decide (a = b) else decide (a = b))) S
    | _ => .bad)
  | _ => .bad
theorem DR.non_iff {ρ : Adr} {H : Hp} {K : PySem.W.Frag} {mg : Str → Option Value} {d : D} {v : V} (r : DR K mg ρ H d v) : d = .non ∨ v ≠ .non := by
  cases r <;> first | exact .inl rfl | exact .inr (fun z => nomatch z)
theorem fit_is : Fit2 X W (fun x y H Q => (y = .non ∧ Q (.bl (decide (x = .non))) H) ∨ rIsB x y H Q) (dIs false) := fun ρ H S σ d1 d2 v1 v2 Q s r1 r2 q => by
  unfold dIs at q
  split at q
  · cases r2
    refine .inl ⟨rfl, ?_⟩
    rcases r1.non_iff with e | e
    · subst e
      cases r1
      simp only [Bool.not_false] at q
      rw [decide_eq_true rfl]
      exact q.here s (.bl _)
    · rw [decide_eq_false e]
      cases d1 with
      | non => cases r1; exact absurd rfl e
      | exn => exact False.elim q
      | clo => exact False.elim q
      | _ => exact q.here s (.bl _)
  · split at q
    · cases r1; cases r2
      exact .inr ⟨_, _, rfl, rfl, q.here s (.bl _)⟩
    · exact False.elim q
  · exact False.elim q
theorem fit_isnot : Fit2 X W (fun x y H Q => (y = .non ∧ Q (.bl (!decide (x = .non))) H) ∨ rNotB x y H Q) (dIs true) := fun ρ H S σ d1 d2 v1 v2 Q s r1 r2 q => by
  unfold dIs at q
  split at q
  · cases r2
    refine .inl ⟨rfl, ?_⟩
    rcases r1.non_iff with e | e
    · subst e
      cases r1
      simp only [Bool.not_true] at q
      rw [decide_eq_true rfl]
      exact q.here s (.bl _)
    · rw [decide_eq_false e]
      cases d1 with
      | non => cases r1; exact absurd rfl e
      | exn => exact False.elim q
      | clo => exact False.elim q
      | _ => exact q.here s (.bl _)
  · split at q
    · cases r1; cases r2
      exact .inr ⟨_, _, rfl, rfl, q.here s (.bl _)⟩
    · exact False.elim q
  · exact False.elim q

abbrev xT (X : Cx) (W : WX) (M : Sm) : TT := fun σ H Q => xE X W M σ H fun x H' => ∃ k, x = .bl k ∧ Q k H'
theorem xE.imp {M : Sm} {σ : L2.St} {H : Hp} {Q Q' : VK} (h : xE X W M σ H Q) (i : ∀ v H', Q v H' → Q' v H') : xE X W M σ H Q' := by
  obtain ⟨ρ, σd, S, er, sr, q⟩ := h
  exact ⟨ρ, σd, S, er, sr, q.mono i⟩
/-- the two parts are evaluated, then r holds -/
theorem two {r : R2} {f : D → D → Store → Res} {σ : L2.St} {H : Hp} {Q : VK} (ft : Fit2 X W r f) (h : xE X W (evB A B f) σ H Q) : tOp r (xE X W A) (xE X W B) σ H Q := by
  obtain ⟨ρ, σd, S, er, sr, q⟩ := h
  exact ⟨ρ, σd, S, er, sr, (RQ.bind q).mono fun v1 H1 ⟨d1, S1, ρ1, _, x1, s1, r1, q1⟩ =>
    ⟨ρ1, σd, S1, er.mono x1, s1, (RQ.bind q1).mono fun v2 H2 ⟨d2, S2, ρ2, _, x2, s2, r2, q2⟩ => ft ρ2 H2 S2 σ d1 d2 v1 v2 Q s2 (r1.mono x2) r2 q2⟩⟩
theorem x_cmp {op : CmpOp} {r : R2} {f : D → D → Store → Res} (ho : OpR X (compareOp op) r) (ft : Fit2 X W r f) (ha : PE X a (xE X W A)) (hb : PE X b (xE X W B)) (hm : behindInMarks op b = false) : PE X (.Compare a [op] [b] pos) (xE X W (evB A B f)) :=
  e2 (pe_cmpR ho ha hb hm) ft
theorem t_cmp {op : CmpOp} {r : R2} {f : D → D → Store → Res} (ho : OpR X (compareOp op) r) (ft : Fit2 X W r f) (ha : PE X a (xE X W A)) (hb : PE X b (xE X W B)) (hm : behindInMarks op b = false) : PT X (.Compare a [op] [b] pos) (xT X W (evB A B f)) :=
  ptImp (pt_cmpR ho ha hb hm) fun σ H Q h => two ft h
theorem x_eq (cn : Cn X) (ha : PE X a (xE X W A)) (hb : PE X b (xE X W B)) : PE X (.Compare a [.Eq] [b] pos) (xE X W (evB A B (dEq false))) := x_cmp (OpR.or (op_eqD cn.hu64) op_eq) fit_eq ha hb (nomark _)
theorem x_ne (cn : Cn X) (ha : PE X a (xE X W A)) (hb : PE X b (xE X W B)) : PE X (.Compare a [.NotEq] [b] pos) (xE X W (evB A B (dEq true))) := x_cmp (OpR.or (op_neD cn.hu64) op_ne) fit_ne ha hb (nomark _)
theorem x_lt (ha : PE X a (xE X W A)) (hb : PE X b (xE X W B)) : PE X (.Compare a [.Lt] [b] pos) (xE X W (evB A B dLt)) := x_cmp op_lt fit_cmp ha hb (nomark _)
theorem x_le (ha : PE X a (xE X W A)) (hb : PE X b (xE X W B)) : PE X (.Compare a [.LtE] [b] pos) (xE X W (evB A B dLe)) := x_cmp op_le fit_cmp ha hb (nomark _)
theorem x_gt (ha : PE X a (xE X W A)) (hb : PE X b (xE X W B)) : PE X (.Compare a [.Gt] [b] pos) (xE X W (evB A B dGt)) := x_cmp op_gt fit_cmp ha hb (nomark _)
theorem x_ge (ha : PE X a (xE X W A)) (hb : PE X b (xE X W B)) : PE X (.Compare a [.GtE] [b] pos) (xE X W (evB A B dGe)) := x_cmp op_ge fit_cmp ha hb (nomark _)
theorem x_is (ha : PE X a (xE X W A)) (hb : PE X b (xE X W B)) : PE X (.Compare a [.Is] [b] pos) (xE X W (evB A B (dIs false))) := x_cmp (OpR.or op_isN op_isBl) fit_is ha hb (nomark _)
theorem x_isnot (ha : PE X a (xE X W A)) (hb : PE X b (xE X W B)) : PE X (.Compare a [.IsNot] [b] pos) (xE X W (evB A B (dIs true))) := x_cmp (OpR.or op_notN op_notBl) fit_isnot ha hb (nomark _)
theorem t_eq (cn : Cn X) (ha : PE X a (xE X W A)) (hb : PE X b (xE X W B)) : PT X (.Compare a [.Eq] [b] pos) (xT X W (evB A B (dEq false))) := t_cmp (OpR.or (op_eqD cn.hu64) op_eq) fit_eq ha hb (nomark _)
theorem t_ne (cn : Cn X) (ha : PE X a (xE X W A)) (hb : PE X b (xE X W B)) : PT X (.Compare a [.NotEq] [b] pos) (xT X W (evB A B (dEq true))) := t_cmp (OpR.or (op_neD cn.hu64) op_ne) fit_ne ha hb (nomark _)
theorem t_lt (ha : PE X a (xE X W A)) (hb : PE X b (xE X W B)) : PT X (.Compare a [.Lt] [b] pos) (xT X W (evB A B dLt)) := t_cmp op_lt fit_cmp ha hb (nomark _)
theorem t_le (ha : PE X a (xE X W A)) (hb : PE X b (xE X W B)) : PT X (.Compare a [.LtE] [b] pos) (xT X W (evB A B dLe)) := t_cmp op_le fit_cmp ha hb (nomark _)
theorem t_gt (ha : PE X a (xE X W A)) (hb : PE X b (xE X W B)) : PT X (.Compare a [.Gt] [b] pos) (xT X W (evB A B dGt)) := t_cmp op_gt fit_cmp ha hb (nomark _)
theorem t_ge (ha : PE X a (xE X W A)) (hb : PE X b (xE X W B)) : PT X (.Compare a [.GtE] [b] pos) (xT X W (evB A B dGe)) := t_cmp op_ge fit_cmp ha hb (nomark _)
theorem t_is (ha : PE X a (xE X W A)) (hb : PE X b (xE X W B)) : PT X (.Compare a [.Is] [b] pos) (xT X W (evB A B (dIs false))) := t_cmp (OpR.or op_isN op_isBl) fit_is ha hb (nomark _)
theorem t_isnot (ha : PE X a (xE X W A)) (hb : PE X b (xE X W B)) : PT X (.Compare a [.IsNot] [b] pos) (xT X W (evB A B (dIs true))) := t_cmp (OpR.or op_notN op_notBl) fit_isnot ha hb (nomark _)
/-- a < b < c of ints -/
def evCh (A B C : Sm) (p q : Int → Int → Bool) : Sm := fun σd S => (A σd S).bind fun x S1 => (B σd S1).bind fun y S2 => match x, y with
  | .int i, .int j => if p i j then (C σd S2).bind fun z S3 => (match z with
    | .int k => .ok (.bl (q j k)) S3
    | _ => .bad) else .ok (.bl false) S2
  | _, _ => .bad
theorem chain {p q : Int → Int → Bool} {σ : L2.St} {H : Hp} {Q : VK} (h : xE X W (evCh A B C p q) σ H Q) : tChain (rI0 fun i j => .bl (p i j)) (rI0 fun i j => .bl (q i j)) (xE X W A) (xE X W B) (xE X W C) σ H Q := by
  obtain ⟨ρ, σd, S, er, sr, h⟩ := h
  refine ⟨ρ, σd, S, er, sr, (RQ.bind h).mono fun v1 H1 ⟨d1, S1, ρ1, _, x1, s1, r1, q1⟩ => ⟨ρ1, σd, S1, er.mono x1, s1, (RQ.bind q1).mono fun v2 H2 ⟨d2, S2, ρ2, _, x2, s2, r2, q2⟩ => ?_⟩⟩
  have r1' := r1.mono x2
  dsimp only at q2
  split at q2
  · cases r1'; cases r2
    refine ⟨_, _, rfl, rfl, _, rfl, ?_⟩
    split at q2
    · rename_i hp
      rw [if_pos hp]
      refine ⟨ρ2, σd, S2, (er.mono x1).mono x2, s2, (RQ.bind q2).mono fun v3 H3 ⟨d3, S3, ρ3, _, x3, s3, r3, q3⟩ => ?_⟩
      dsimp only at q3
      split at q3
      · cases r3
        exact ⟨_, _, rfl, rfl, q3.here s3 (.bl _)⟩
      · exact False.elim q3
    · rename_i hp
      rw [if_neg hp]
      exact q2.here s2 (.bl _)
  · exact False.elim q2
theorem x_ch {op op' : CmpOp} {p q : Int → Int → Bool} (ho : OpR X (compareOp op) (rI0 fun i j => .bl (p i j))) (ho' : OpR X (compareOp op') (rI0 fun i j => .bl (q i j))) (ha : PE X a (xE X W A)) (hb : PE X b (xE X W B)) (hc : PE X c (xE X W C))
    (hm : lastMarks [op, op'] [b, c] = false := by with_unfolding_all rfl) : PE X (.Compare a [op, op'] [b, c] pos) (xE X W (evCh A B C p q)) :=
  peImp (pe_chain ho ho' ha hb hc hm) fun σ H Q h => chain h
theorem t_ch {op op' : CmpOp} {p q : Int → Int → Bool} (ho : OpR X (compareOp op) (rI0 fun i j => .bl (p i j))) (ho' : OpR X (compareOp op') (rI0 fun i j => .bl (q i j))) (ha : PE X a (xE X W A)) (hb : PE X b (xE X W B)) (hc : PE X c (xE X W C)) (hm : lastMarks [op, op'] [b, c] = false := by with_unfolding_all rfl) :
    PT X (.Compare a [op, op'] [b, c] pos) (xT X W (evCh A B C p q)) :=
  ptImp (pt_chain ho ho' ha hb hc hm) fun σ H Q h => chain h
end
end Ev
end

section
set_option maxHeartbeats 4000000
namespace Ev
open PySem PySem.Spec PyProof.Rows L2
section
variable {X : Cx} {W : WX} {a b c : Expr} {A B C : Sm} {pos : Pos}

def truthD (d : D) (S : Store) : Option Bool := match d with
  | .non => some false
  | .bl b => some b
  | .int i => some (i != 0)
  | .str x => if x.length ≤ 16777216 then some ((x.length : Int) != 0) else none
  | .dk _ vs => some (!vs.isEmpty)
  | d => (match seqOf d S with
    | some xs => some (!xs.isEmpty)
    | none => none)
def dTru (d : D) (S : Store) : Res := match truthD d S with
  | some k => .ok (.bl k) S
  | none => .bad
theorem DRs.isEmpty {K : PySem.W.Frag} {mg : Str → Option Value} {ρ : Adr} {H : Hp} {ds : List D} {vs : List V} (r : DRs K mg ρ H ds vs) : ds.isEmpty = vs.isEmpty := by cases r <;> rfl
theorem tru_of {ρ : Adr} {H : Hp} {S : Store} {d : D} {v : V} {k : Bool} (s : SR X.K X.mg ρ H S) (r : DR X.K X.mg ρ H d v) (h : truthD d S = some k) : TruV X.K v H k := by
  have seqs : ∀ {xs}, seqOf d S = some xs → k = !xs.isEmpty → TruV X.K v H k := fun {xs} e ek => by
    obtain ⟨a, vs, rfl, h1, h2⟩ := seq_any s r e
    rw [h2.isEmpty] at ek
    rcases h1 with h1 | h1
    · exact .inl ⟨vs, h1, ek⟩
    · exact .inr (.inl ⟨vs, h1, ek⟩)
  cases d with
  | non => cases r; cases h; rfl
  | bl b => cases r; cases h; rfl
  | int i => cases r; cases h; rfl
  | str x =>
    cases r
    simp only [truthD] at h
    split at h
    · cases h
      exact ⟨by rw [sizeLine_eq]; assumption, rfl⟩
    · cases h
  | dk ks vs =>
    cases r with
    | dk h1 n e1 e2 h2 =>
      cases h
      refine .inr (.inr ⟨_, h1, ?_⟩)
      rw [h2.isEmpty, ← e2]
      cases ‹List (Key × V)› <;> rfl
  | tup xs => exact seqs (xs := xs) rfl (by simpa [truthD, seqOf] using h.symm)
  | lst xs => exact seqs (xs := xs) rfl (by simpa [truthD, seqOf] using h.symm)
  | scr xs => exact seqs (xs := xs) rfl (by simpa [truthD, seqOf] using h.symm)
  | ref n =>
    simp only [truthD] at h
    split at h
    · rename_i xs e
      cases h
      exact seqs e rfl
    · cases h
  | ty n => simp [truthD, seqOf] at h
  | dt ks vs => simp [truthD, seqOf] at h
  | ins c fs vs => simp [truthD, seqOf] at h
  | exn c fs vs => simp [truthD, seqOf] at h
  | clo i vs => simp [truthD, seqOf] at h
  | obj n => simp [truthD, seqOf] at h
/-- a value as a test -/
theorem t_val (ha : PE X a (xE X W A)) (he : ∀ whole, isTrue a X.env whole = (do let v ← whole; standAt a.pos; holding [v] (truthy v)) := by intro _; rfl) : PT X a (xT X W (evU A dTru)) :=
  ptImp (pt_truth ha he) fun σ H Q ⟨ρ, σd, S, er, sr, q⟩ => ⟨ρ, σd, S, er, sr, (RQ.bind q).mono fun v1 H1 ⟨d1, S1, ρ1, _, x1, s1, r1, q1⟩ => by
    dsimp only [dTru] at q1
    split at q1
    · rename_i k e
      obtain ⟨k', ek, hq⟩ := q1.here s1 (.bl k)
      cases ek
      exact ⟨k, tru_of s1 r1 e, hq⟩
    · exact False.elim q1⟩
/-- not -/
def dNot (d : D) (S : Store) : Res := match d with
  | .bl k => .ok (.bl (!k)) S
  | _ => .bad
theorem t_not (ha : PT X a (xT X W A)) : PT X (.UnaryOp .Not a pos) (xT X W (evU A dNot)) := ptImp (pt_not ha) fun σ H Q ⟨ρ, σd, S, er, sr, q⟩ => ⟨ρ, σd, S, er, sr, (RQ.bind q).mono fun v1 H1 ⟨d1, S1, ρ1, _, x1, s1, r1, q1⟩ => by
    dsimp only [dNot] at q1
    split at q1
    · cases r1
      obtain ⟨k', ek, hq⟩ := q1.here s1 (.bl _)
      cases ek
      exact ⟨_, rfl, hq⟩
    · exact False.elim q1⟩
def dNotV (d : D) (S : Store) : Res := match truthD d S with
  | some k => .ok (.bl (!k)) S
  | none => .bad
theorem x_not (ha : PE X a (xE X W A)) : PE X (.UnaryOp .Not a pos) (xE X W (evU A dNotV)) := peImp (pe_notT ha) fun σ H Q ⟨ρ, σd, S, er, sr, q⟩ => ⟨ρ, σd, S, er, sr, (RQ.bind q).mono fun v1 H1 ⟨d1, S1, ρ1, _, x1, s1, r1, q1⟩ => by
    dsimp only [dNotV] at q1
    split at q1
    · exact ⟨_, tru_of s1 r1 (by assumption), q1.here s1 (.bl _)⟩
    · exact False.elim q1⟩
/-- and, or as tests -/
def evAndT (A B : Sm) : Sm := fun σd S => (A σd S).bind fun d S1 => match d with
  | .bl true => B σd S1
  | .bl false => .ok (.bl false) S1
  | _ => .bad
def evOrT (A B : Sm) : Sm := fun σd S => (A σd S).bind fun d S1 => match d with
  | .bl true => .ok (.bl true) S1
  | .bl false => B σd S1
  | _ => .bad
abbrev PWx (X : Cx) (e : Expr) (t : TT) := PW X e t
theorem pwImp {e : Expr} {t t' : TT} (h : PW X e t) (i : ∀ σ H Q, t' σ H Q → t σ H Q) : PW X e t' := ⟨fun wh pins s σ H Q I q => h.run wh pins s σ H Q I (i σ H Q q)⟩
theorem w_and1 (ha : PT X a (xT X W A)) : PW X (.BoolOp .And [a] pos) (xT X W A) := pw_and1 ha
theorem w_or1 (ha : PT X a (xT X W A)) : PW X (.BoolOp .Or [a] pos) (xT X W A) := pw_or1 ha
theorem w_and {rest : List Expr} (ha : PT X a (xT X W A)) (hb : PW X (.BoolOp .And (b :: rest) pos) (xT X W B)) : PW X (.BoolOp .And (a :: b :: rest) pos) (xT X W (evAndT A B)) :=
  pwImp (pw_and ha hb) fun σ H Q ⟨ρ, σd, S, er, sr, q⟩ => ⟨ρ, σd, S, er, sr, (RQ.bind q).mono fun v1 H1 ⟨d1, S1, ρ1, _, x1, s1, r1, q1⟩ => by
    dsimp only at q1
    split at q1
    · cases r1
      exact ⟨true, rfl, iteT (⟨ρ1, σd, S1, er.mono x1, s1, q1⟩)⟩
    · cases r1
      obtain ⟨k', ek, hq⟩ := q1.here s1 (.bl _)
      cases ek
      exact ⟨false, rfl, iteF (hq)⟩
    · exact False.elim q1⟩
theorem w_or {rest : List Expr} (ha : PT X a (xT X W A)) (hb : PW X (.BoolOp .Or (b :: rest) pos) (xT X W B)) : PW X (.BoolOp .Or (a :: b :: rest) pos) (xT X W (evOrT A B)) :=
  pwImp (pw_or ha hb) fun σ H Q ⟨ρ, σd, S, er, sr, q⟩ => ⟨ρ, σd, S, er, sr, (RQ.bind q).mono fun v1 H1 ⟨d1, S1, ρ1, _, x1, s1, r1, q1⟩ => by
    dsimp only at q1
    split at q1
    · cases r1
      obtain ⟨k', ek, hq⟩ := q1.here s1 (.bl _)
      cases ek
      exact ⟨true, rfl, iteT (hq)⟩
    · cases r1
      exact ⟨false, rfl, iteF (⟨ρ1, σd, S1, er.mono x1, s1, q1⟩)⟩
    · exact False.elim q1⟩
theorem t_w {t : TT} (h : PW X a t) : PT X a t := h.pt
/-- .. as values, by truth -/
def evAnd (A B : Sm) : Sm := fun σd S => (A σd S).bind fun d S1 => match truthD d S1 with
  | some true => B σd S1
  | some false => .ok d S1
  | none => .bad
def evOr (A B : Sm) : Sm := fun σd S => (A σd S).bind fun d S1 => match truthD d S1 with
  | some true => .ok d S1
  | some false => B σd S1
  | none => .bad
theorem x_one {op} (ha : PE X a (xE X W A)) : PE X (.BoolOp op [a] pos) (xE X W A) := pe_one ha
theorem x_and {rest : List Expr} (ha : PE X a (xE X W A)) (hb : PE X (.BoolOp .And (b :: rest) pos) (xE X W B)) : PE X (.BoolOp .And (a :: b :: rest) pos) (xE X W (evAnd A B)) :=
  peImp (pe_andT ha hb) fun σ H Q ⟨ρ, σd, S, er, sr, q⟩ => ⟨ρ, σd, S, er, sr, (RQ.bind q).mono fun v1 H1 ⟨d1, S1, ρ1, _, x1, s1, r1, q1⟩ => by
    dsimp only at q1
    split at q1
    · exact ⟨true, tru_of s1 r1 (by assumption), iteT (⟨ρ1, σd, S1, er.mono x1, s1, q1⟩)⟩
    · exact ⟨false, tru_of s1 r1 (by assumption), iteF (q1.here s1 r1)⟩
    · exact False.elim q1⟩
theorem x_or {rest : List Expr} (ha : PE X a (xE X W A)) (hb : PE X (.BoolOp .Or (b :: rest) pos) (xE X W B)) : PE X (.BoolOp .Or (a :: b :: rest) pos) (xE X W (evOr A B)) :=
  peImp (pe_orT ha hb) fun σ H Q ⟨ρ, σd, S, er, sr, q⟩ => ⟨ρ, σd, S, er, sr, (RQ.bind q).mono fun v1 H1 ⟨d1, S1, ρ1, _, x1, s1, r1, q1⟩ => by
    dsimp only at q1
    split at q1
    · exact ⟨true, tru_of s1 r1 (by assumption), iteT (q1.here s1 r1)⟩
    · exact ⟨false, tru_of s1 r1 (by assumption), iteF (⟨ρ1, σd, S1, er.mono x1, s1, q1⟩)⟩
    · exact False.elim q1⟩
/-- a if t else b -/
def evIf (C A B : Sm) : Sm := fun σd S => (C σd S).bind fun d S1 => match d with
  | .bl true => A σd S1
  | .bl false => B σd S1
  | _ => .bad
theorem x_ife (hc : PT X c (xT X W C)) (ha : PE X a (xE X W A)) (hb : PE X b (xE X W B)) : PE X (.IfExp c a b pos) (xE X W (evIf C A B)) :=
  peImp (pe_ifExp hc ha hb) fun σ H Q ⟨ρ, σd, S, er, sr, q⟩ => ⟨ρ, σd, S, er, sr, (RQ.bind q).mono fun v1 H1 ⟨d1, S1, ρ1, _, x1, s1, r1, q1⟩ => by
    dsimp only at q1
    split at q1
    · cases r1
      exact ⟨true, rfl, iteT (⟨ρ1, σd, S1, er.mono x1, s1, q1⟩)⟩
    · cases r1
      exact ⟨false, rfl, iteF (⟨ρ1, σd, S1, er.mono x1, s1, q1⟩)⟩
    · exact False.elim q1⟩

def dIx : D → D → Store → Res := fun x y S => match y with
  | .int i => (match seqOf x S with
    | some xs => (match atI xs i with
      | some d => .ok d S
      | none => .bad)
    | none => (match x with
      | .str z => (match atI z.cps.toList i with
        | some c => if z.length ≤ 16777216 then .ok (.str ⟨#[c]⟩) S else .bad
        | none => .bad)
      | _ => .bad))
  | _ => .bad
theorem atI_rel {K : PySem.W.Frag} {mg : Str → Option Value} {ρ : Adr} {H : Hp} {ds : List D} {vs : List V} {i : Int} {d : D} (r : DRs K mg ρ H ds vs) (h : atI ds i = some d) : ∃ v, atI vs i = some v ∧ DR K mg ρ H d v := by
  unfold atI at h ⊢
  rw [← r.length]
  cases e : ixN ds.length i with
  | none => rw [e] at h; cases h
  | some j =>
    rw [e] at h
    obtain ⟨v, h1, h2⟩ := r.get (show ds[j]? = some d from h)
    exact ⟨v, h1, h2⟩
theorem x_ix (ha : PE X a (xE X W A)) (hb : PE X b (xE X W B)) (hs : PlainIx b) : PE X (.Subscript a b pos) (xE X W (evB A B dIx)) := by
  refine e2 (pe_ix ix_seq ha hb hs) fun ρ H S σ d1 d2 v1 v2 Q s r1 r2 q => ?_
  unfold dIx at q
  split at q
  · cases r2
    split at q
    · rename_i xs e
      split at q
      · rename_i d hd
        obtain ⟨p, vs, rfl, h1, h2⟩ := seq_any s r1 e
        obtain ⟨v, hv, rv⟩ := atI_rel h2 hd
        rcases h1 with h1 | h1
        · exact .inl ⟨p, vs, _, v, rfl, rfl, h1, hv, q.here s rv⟩
        · exact .inr (.inl ⟨p, vs, _, v, rfl, rfl, h1, hv, q.here s rv⟩)
      · exact False.elim q
    · split at q
      · split at q
        · split at q
          · cases r1
            exact .inr (.inr ⟨_, _, _, rfl, rfl, by rw [sizeLine_eq]; assumption, by assumption, q.here s (.str _)⟩)
          · exact False.elim q
        · exact False.elim q
      · exact False.elim q
  · exact False.elim q

def keyOf : D → Option Key
  | .int i => some (.inl i)
  | .str x => some (.inr x)
  | _ => none
theorem keyOf_v {K : PySem.W.Frag} {mg : Str → Option Value} {ρ : Adr} {H : Hp} {d : D} {v : V} {k : Key} (r : DR K mg ρ H d v) (h : keyOf d = some k) : v = kV k := by
  cases d with
  | int i => cases h; cases r; rfl
  | str x => cases h; cases r; rfl
  | _ => cases h
def keysOf : List D → Option (List Key)
  | [] => some []
  | d :: ds => (match keyOf d, keysOf ds with
    | some k, some ks => some (k :: ks)
    | _, _ => none)
theorem keysOf_v {K : PySem.W.Frag} {mg : Str → Option Value} {ρ : Adr} {H : Hp} : ∀ {ds : List D} {vs : List V} {ks : List Key}, DRs K mg ρ H ds vs → keysOf ds = some ks → vs = ks.map kV
  | _, _, _, .nil, h => by cases h; rfl
  | d :: ds, _, _, .cons r rs, h => by
    simp only [keysOf] at h
    split at h
    · rename_i k ks e1 e2
      cases h
      rw [keyOf_v r e1, keysOf_v rs e2]; rfl
    · cases h
/-- the value at a key -/
def look {κ : Type} [DecidableEq κ] (k : κ) : List κ → List D → Option D
  | k' :: ks, d :: ds => if k' = k then some d else look k ks ds
  | _, _ => none
def OR2 (K : PySem.W.Frag) (mg : Str → Option Value) (ρ : Adr) (H : Hp) (o : Option D) (w : Option V) : Prop := match o with
  | some d => ∃ v, w = some v ∧ DR K mg ρ H d v
  | none => w = none
theorem look_v {κ : Type} [DecidableEq κ] {K : PySem.W.Frag} {mg : Str → Option Value} {ρ : Adr} {H : Hp} (k : κ) : ∀ (kvs : List (κ × V)) (ds : List D), DRs K mg ρ H ds (kvs.map (·.2)) →
    OR2 K mg ρ H (look k (kvs.map (·.1)) ds) (valV kvs k)
  | [], ds, r => by
    have e : look k (([] : List (κ × V)).map (·.1)) ds = none := by unfold look; rfl
    rw [e]; exact valV_nil
  | p :: kvs, ds, r => by
    cases r with
    | cons h t =>
      simp only [List.map_cons, look]
      by_cases hk : p.1 = k
      · rw [if_pos hk]
        exact ⟨_, valV_pos hk, h⟩
      · rw [if_neg hk, valV_neg hk]
        exact look_v k kvs _ t
def put {κ : Type} [DecidableEq κ] (k : κ) (d : D) (ks : List κ) (ds : List D) : List κ × List D :=
  if k ∈ ks then (ks, (ks.zip ds).map fun p => if p.1 = k then d else p.2) else (ks ++ [k], ds ++ [d])
theorem any_key {κ : Type} [DecidableEq κ] {k : κ} (kvs : List (κ × V)) : (kvs.any fun kv => decide (kv.1 = k)) = decide (k ∈ kvs.map (·.1)) := by
  induction kvs with
  | nil => simp
  | cons p r ih =>
    rw [List.any_cons, ih, List.map_cons]
    by_cases h : p.1 = k
    · simp [h]
    · simp [h, Ne.symm h, show ¬ k = p.1 from fun e => h e.symm]
theorem put_v {κ : Type} [DecidableEq κ] {K : PySem.W.Frag} {mg : Str → Option Value} {ρ : Adr} {H : Hp} {k : κ} {d : D} {v : V} {kvs : List (κ × V)} {ds : List D} (r : DRs K mg ρ H ds (kvs.map (·.2))) (rv : DR K mg ρ H d v) :
    (putK kvs k v).map (·.1) = (put k d (kvs.map (·.1)) ds).1 ∧ DRs K mg ρ H (put k d (kvs.map (·.1)) ds).2 ((putK kvs k v).map (·.2)) := by
  unfold put putK
  rw [any_key]
  by_cases h : k ∈ kvs.map (·.1)
  · rw [if_pos h, if_pos (by simpa using h)]
    constructor
    · dsimp only
      clear h r
      induction kvs with
      | nil => rfl
      | cons p t ih =>
        rw [List.map_cons, List.map_cons, List.map_cons, ih]
        congr 1
        split <;> rfl
    · dsimp only
      clear h
      induction kvs generalizing ds with
      | nil => cases r; exact .nil
      | cons p t ih =>
        cases r with
        | cons a b =>
          simp only [List.map_cons, List.zip_cons_cons]
          refine .cons ?_ (ih b)
          by_cases hk : p.1 = k
          · rw [if_pos hk, if_pos hk]; exact rv
          · rw [if_neg hk, if_neg hk]; exact a
  · rw [if_neg h, if_neg (by simpa using h)]
    simp only [List.map_append, List.map_cons, List.map_nil]
    exact ⟨trivial, r.append (.cons rv .nil)⟩
/-- what a dict holds: by value or as a cell -/
inductive DV where
  | k (ks : List Key) (vs : List D)
  | t (ks : List (List Key)) (vs : List D)
def dictOf (d : D) (S : Store) : Option DV := match d with
  | .dk ks vs => some (.k ks vs)
  | .dt ks vs => some (.t ks vs)
  | .ref n => (match S.cs[n]? with
    | some (.dk ks vs) => some (.k ks vs)
    | some (.dt ks vs) => some (.t ks vs)
    | _ => none)
  | _ => none
def DVR (K : PySem.W.Frag) (mg : Str → Option Value) (ρ : Adr) (H : Hp) (x : DV) (a : Addr) : Prop := match x with
  | .k ks ds => ∃ kvs, H a = some (.dK kvs) ∧ kvs.map (·.1) = ks ∧ DRs K mg ρ H ds (kvs.map (·.2))
  | .t ks ds => ∃ kvs, H a = some (.dT kvs) ∧ kvs.map (·.1) = ks ∧ DRs K mg ρ H ds (kvs.map (·.2))
theorem dict_of {K : PySem.W.Frag} {mg : Str → Option Value} {ρ : Adr} {H : Hp} {S : Store} {d : D} {v : V} {x : DV} (s : SR K mg ρ H S) (r : DR K mg ρ H d v) (h : dictOf d S = some x) : ∃ a, v = .ref a ∧ DVR K mg ρ H x a := by
  cases d with
  | dk ks vs =>
    cases h
    cases r with
    | dk h1 n e1 e2 h2 => exact ⟨_, rfl, _, h1, e1, by rw [e2]; exact h2⟩
  | dt ks vs =>
    cases h
    cases r with
    | dt h1 n e1 e2 h2 => exact ⟨_, rfl, _, h1, e1, by rw [e2]; exact h2⟩
  | ref n =>
    cases r with
    | ref hr =>
      simp only [dictOf] at h
      cases hc : S.cs[n]? with
      | none => rw [hc] at h; cases h
      | some c =>
        rw [hc] at h
        cases c with
        | lst xs => cases h
        | scr xs => cases h
        | dk ks vs => cases h; exact ⟨_, rfl, s.cs n _ _ hc hr⟩
        | dt ks vs => cases h; exact ⟨_, rfl, s.cs n _ _ hc hr⟩
  | _ => cases h
def dGetO (x y : D) (S : Store) : Option (Option D) := match dictOf x S with
  | some (.k ks vs) => (match keyOf y with
    | some k => some (look k ks vs)
    | none => none)
  | some (.t ks vs) => (match y with
    | .tup ys => (match keysOf ys with
      | some k => some (look k ks vs)
      | none => none)
    | _ => none)
  | none => none
/-- keys that are tuples must be tracked ones: told by the value -/
theorem dget_of {K : PySem.W.Frag} {mg : Str → Option Value} {ρ : Adr} {H : Hp} {S : Store} {x y : D} {v u : V} {o : Option D} (s : SR K mg ρ H S) (r : DR K mg ρ H x v) (ry : DR K mg ρ H y u) (h : dGetO x y S = some o) (hk : ∀ ys, y = .tup ys → ∃ a, u = .ref a ∧ ∃ vs, H a = some (.tup vs) ∧ DRs K mg ρ H ys vs) :
    ∃ a w, v = .ref a ∧ DGet H a u w ∧ OR2 K mg ρ H o w := by
  unfold dGetO at h
  split at h
  · rename_i ks vs e
    split at h
    · rename_i k ek
      cases h
      obtain ⟨a, rfl, kvs, h1, e1, h2⟩ := dict_of s r e
      subst e1
      have q := look_v k kvs vs h2
      have eu := keyOf_v ry ek
      subst eu
      refine ⟨a, valV kvs k, rfl, .inl ⟨kvs, k, .inl h1, rfl, rfl⟩, q⟩
    · cases h
  · rename_i ks vs e
    split at h
    · rename_i ys
      split at h
      · rename_i k ek
        cases h
        obtain ⟨a, rfl, kvs, h1, e1, h2⟩ := dict_of s r e
        subst e1
        have q := look_v k kvs vs h2
        obtain ⟨b, rfl, us, hb, rb⟩ := hk ys rfl
        have eu := keysOf_v rb ek
        subst eu
        refine ⟨a, valV kvs k, rfl, .inr ⟨kvs, k, b, .inl h1, rfl, hb, rfl⟩, q⟩
      · cases h
    · cases h
  · cases h
end
end Ev
end

section
set_option maxHeartbeats 4000000
namespace Ev
open PySem PySem.Spec PyProof.Rows L2
mutual
def costP : PyData → Nat
  | .none => 4
  | .bool _ => 5
  | .int _ => 1930
  | .str x => (reprText x).length
  | .list xs => costPs xs + 3
  | .tuple xs => costPs xs + 3
  | .dict kvs => costKv kvs + 3
def costPs : List PyData → Nat
  | [] => 0
  | x :: xs => costP x + 2 + costPs xs
def costKv : List (PyData × PyData) → Nat
  | [] => 0
  | (k, v) :: r => costP k + costP v + 4 + costKv r
end
theorem len_app (a b : Str) : (a ++ b).length = a.length + b.length := strLen_append a b
theorem textFrom_le : ∀ (ts : List Str) (k : Nat) (acc : Str), (textFrom k acc ts).length ≤ acc.length + (ts.map fun t => t.length + 2).sum
  | [], k, acc => by show acc.length ≤ _; simp
  | t :: r, k, acc => by
    have h := textFrom_le r (k + 1) (acc ++ (if k > 0 then ", " else "" : String) ++ t)
    have e : (acc ++ (if k > 0 then ", " else "" : String) ++ t).length ≤ acc.length + 2 + t.length := by
      rw [len_app, len_app]
      split
      · have : ((", " : String) : Str).length = 2 := rfl
        omega
      · have : (("" : String) : Str).length = 0 := rfl
        omega
    show (textFrom (k + 1) _ r).length ≤ _
    rw [List.map_cons, List.sum_cons]
    omega
theorem listText_le (ts : List Str) : (listText ts).length ≤ 2 + (ts.map fun t => t.length + 2).sum := by
  unfold listText
  rw [len_app]
  have h := textFrom_le ts 0 "["
  have e1 : (("[" : String) : Str).length = 1 := rfl
  have e2 : (("]" : String) : Str).length = 1 := rfl
  omega
theorem piled_eq : ∀ ts : List Str, piled ts = (ts.map fun t => t.length + 2).sum
  | [] => rfl
  | t :: r => by simp [piled, piled_eq r]
theorem join_le (ts : List Str) : (Str.join ", " ts).length ≤ (ts.map fun t => t.length + 2).sum := by
  by_cases h : ts = []
  · subst h; exact Nat.le_refl _
  · have := join_length_add ts h
    rw [← piled_eq]
    omega
theorem tupleText_le (ts : List Str) : (tupleText ts).length ≤ 3 + (ts.map fun t => t.length + 2).sum := by
  unfold tupleText
  rw [len_app, len_app]
  have h := join_le ts
  have e1 : (("(" : String) : Str).length = 1 := rfl
  have e2 : ((if ts.length == 1 then ",)" else ")" : String) : Str).length ≤ 2 := by
    split
    · exact Nat.le_refl 2
    · show 1 ≤ 2; decide
  omega
theorem dictText_le (ts : List Str) : (dictText ts).length ≤ 2 + (ts.map fun t => t.length + 2).sum := by
  unfold dictText
  rw [len_app, len_app]
  have h := join_le ts
  have e1 : (("{" : String) : Str).length = 1 := rfl
  have e2 : (("}" : String) : Str).length = 1 := rfl
  omega
theorem ofString_len (x : String) : (Str.ofString x).length = x.length := by
  exact PySem.ofString_length x
mutual
theorem shown_le : ∀ d : PyData, d.showable = true → d.shown.length ≤ costP d
  | .none, _ => by simp only [PyData.shown, costP]; exact Nat.le_refl 4
  | .bool b, _ => by
    simp only [PyData.shown, costP]
    cases b
    · exact Nat.le_refl 5
    · show 4 ≤ 5; decide
  | .int i, h => by
    simp only [PyData.shown, costP]
    have h' : i.natAbs.log2 < 1920 := by simpa [PyData.showable] using h
    have := int_text_length_le (by decide) h'
    rw [ofString_len]
    omega
  | .str x, _ => by simp only [PyData.shown, costP]; exact Nat.le_refl _
  | .list xs, h => by
    have := shownAll_le xs (by simpa [PyData.showable] using h)
    have := listText_le (PyData.shownAll xs)
    simp only [PyData.shown, costP]
    omega
  | .tuple xs, h => by
    have := shownAll_le xs (by simpa [PyData.showable] using h)
    have := tupleText_le (PyData.shownAll xs)
    simp only [PyData.shown, costP]
    omega
  | .dict kvs, h => by
    have := shownKv_le kvs (by simpa [PyData.showable] using h)
    have := dictText_le (PyData.shownKv kvs)
    simp only [PyData.shown, costP]
    omega
theorem shownAll_le : ∀ ds : List PyData, PyData.showableAll ds = true → ((PyData.shownAll ds).map fun t => t.length + 2).sum ≤ costPs ds
  | [], _ => by simp [PyData.shownAll]
  | d :: ds, h => by
    obtain ⟨h1, h2⟩ := Bool.and_eq_true_iff.mp (show (PyData.showable d && PyData.showableAll ds) = true by simpa [PyData.showableAll] using h)
    have a := shown_le d h1
    have b := shownAll_le ds h2
    simp only [PyData.shownAll, List.map_cons, List.sum_cons, costPs]
    omega
theorem shownKv_le : ∀ ds : List (PyData × PyData), PyData.showableKv ds = true → ((PyData.shownKv ds).map fun t => t.length + 2).sum ≤ costKv ds
  | [], _ => by simp [PyData.shownKv]
  | (k, v) :: ds, h => by
    have h' : (PyData.showable k && PyData.showable v && PyData.showableKv ds) = true := by simpa [PyData.showableKv] using h
    obtain ⟨h1, h2⟩ := Bool.and_eq_true_iff.mp h'
    obtain ⟨h3, h4⟩ := Bool.and_eq_true_iff.mp h1
    have a := shown_le k h3
    have a' := shown_le v h4
    have b := shownKv_le ds h2
    simp only [PyData.shownKv, List.map_cons, List.sum_cons, costKv, len_app]
    have : ((": " : String) : Str).length = 2 := rfl
    omega
end

mutual
def isSh : D → Bool
  | .non => true
  | .bl _ => true
  | .int _ => true
  | .str _ => true
  | .ty _ => false
  | .tup xs => areSh xs
  | .lst _ => false
  | .scr _ => false
  | .dk ks vs => areSh vs && decide (ks.length = vs.length)
  | .dt _ _ => false
  | .ins _ _ _ => false
  | .exn _ _ _ => false
  | .clo _ _ => false
  | .ref _ => false
  | .obj _ => false
def areSh : List D → Bool
  | [] => true
  | x :: xs => isSh x && areSh xs
end
theorem noDict : ∀ d : D, isData d = true → (py d).hasDict = false := by
  intro d
  exact D.rec (motive_1 := fun d => isData d = true → (py d).hasDict = false) (motive_2 := fun ds => areData ds = true → PyData.hasDictAll (pys ds) = false)
    (fun _ => by simp [py, PyData.hasDict]) (fun b _ => by simp [py, PyData.hasDict]) (fun i _ => by simp [py, PyData.hasDict]) (fun x _ => by simp [py, PyData.hasDict]) (fun n h => by simp [isData] at h)
    (fun xs ih h => by simpa [py, PyData.hasDict] using ih (by simpa [isData] using h)) (fun xs ih h => by simpa [py, PyData.hasDict] using ih (by simpa [isData] using h)) (fun xs ih h => by simpa [py, PyData.hasDict] using ih (by simpa [isData] using h))
    (fun ks vs ih h => by simp [isData] at h) (fun ks vs ih h => by simp [isData] at h) (fun c fs vs ih h => by simp [isData] at h) (fun c fs vs ih h => by simp [isData] at h) (fun c vs h => by simp [isData] at h) (fun n h => by simp [isData] at h) (fun n h => by simp [isData] at h)
    (fun _ => by simp [pys, PyData.hasDictAll]) (fun x xs h1 h2 h => by
      obtain ⟨a, b⟩ := Bool.and_eq_true_iff.mp (show (isData x && areData xs) = true by simpa [areData] using h)
      simp [pys, PyData.hasDictAll, h1 a, h2 b]) d
section
variable {X : Cx} {pins : List (Addr × Obj)} {σ : L2.St} {H : Hp} {s : Shared} {K : PySem.W.Frag} {mg : Str → Option Value} {ρ : Adr}
theorem pyK_reads (h : Heap) {k : Key} {v : Value} (e : keyIs k v = true) : Reads h v (pyK k) [] := by
  rcases keyIs_shape e with ⟨i, t, rfl, rfl⟩ | ⟨x, t, rfl, rfl⟩
  · exact .int i t
  · exact .str x t
theorem keys_reads {P : Program} {w : World} (h : Heap) : ∀ {es : List DictEntry} {kvs : List (Key × Value)}, Pairs (mixKind P w) es kvs → ReadsAll h (es.map (·.key)) (kvs.map fun q => pyK q.1) []
  | [], [], _ => .nil
  | e :: es, q :: kvs, .cons r1 _ r2 => .cons (as := []) (bs := []) (pyK_reads h r1) (keys_reads h r2)
  | [], _ :: _, r => by cases r
  | _ :: _, [], r => by cases r
theorem vals_of_pairs {P : Program} {w : World} : ∀ {es : List DictEntry} {kvs : List (Key × Value)}, Pairs (mixKind P w) es kvs → es.map (·.val) = kvs.map (·.2)
  | [], [], _ => rfl
  | e :: es, q :: kvs, .cons _ r1 r2 => by
    rw [List.map_cons, List.map_cons, r1, vals_of_pairs r2]
  | [], _ :: _, r => by cases r
  | _ :: _, [], r => by cases r
theorem KVvals : ∀ {kvs : List (Key × V)} {ws : List (Key × Value)}, KV kvs ws → Vals (kvs.map (·.2)) (ws.map (·.2))
  | _, _, .nil => .nil
  | _, _, .cons h t => .cons h.2 (KVvals t)
theorem zip_fst {α β : Type} : ∀ {xs : List α} {ys : List β}, xs.length = ys.length → (xs.zip ys).map (·.1) = xs
  | [], [], _ => rfl
  | x :: xs, y :: ys, h => by simp [zip_fst (xs := xs) (ys := ys) (by simpa using h)]
  | [], _ :: _, h => by simp at h
  | _ :: _, [], h => by simp at h
theorem zip_snd {α β : Type} : ∀ {xs : List α} {ys : List β}, xs.length = ys.length → (xs.zip ys).map (·.2) = ys
  | [], [], _ => rfl
  | x :: xs, y :: ys, h => by simp [zip_snd (xs := xs) (ys := ys) (by simpa using h)]
  | [], _ :: _, h => by simp at h
  | _ :: _, [], h => by simp at h
theorem pys_len : ∀ ds : List D, (pys ds).length = ds.length
  | [] => rfl
  | d :: ds => by rw [pys, List.length_cons, List.length_cons, pys_len ds]
mutual
theorem sh_reads (I : Inv X pins σ H s) : ∀ {d : D} {v : V}, DR X.K mg ρ H d v → isSh d = true → ∀ u, RelV v u → ∃ as, Reads s.heap u (py d) as ∧ sysModules ∉ as
  | _, _, .non, _, u, r => by cases r; rw [show py .non = .none by simp [py]]; exact ⟨_, .none, by simp⟩
  | _, _, .bl b, _, u, r => by cases r; rw [py]; exact ⟨_, .bool b, by simp⟩
  | _, _, .int i, _, u, r => by obtain ⟨t, rfl⟩ := r; rw [py]; exact ⟨_, .int i t, by simp⟩
  | _, _, .str x, _, u, r => by obtain ⟨t, rfl⟩ := r; rw [py]; exact ⟨_, .str x t, by simp⟩
  | _, _, .tup h n k, e, u, r => by
    cases r
    obtain ⟨its, rv, ⟨o, ho, hc, m, hd⟩, _⟩ := I.tuple (SqT.of h)
    obtain ⟨as, q1, q2⟩ := shs_reads I k (by simpa [isSh] using e) its rv
    rw [py]
    exact ⟨as, .tuple ho hc hd q1, q2⟩
  | _, _, .tupK h k, e, u, r => by
    cases r
    obtain ⟨its, rv, ⟨o, ho, hc, m, hd⟩, _⟩ := I.tuple (H := H) (.inr h)
    obtain ⟨as, q1, q2⟩ := shs_reads I k (by simpa [isSh] using e) its rv
    rw [py]
    exact ⟨as, .tuple ho hc hd q1, q2⟩
  | .dk ks ds, _, .dk (kvs := kvs) (vs := vs) h n e1 e2 k, e, u, r => by
    cases r
    obtain ⟨h1, h2⟩ := Bool.and_eq_true_iff.mp (show (areSh ds && decide (ks.length = ds.length)) = true by simpa [isSh] using e)
    obtain ⟨_, hs, ws, kv, o, es, ep, ho, hx, hd, _, hp, _⟩ := dk_of I.hok h
    have rv : Vals (kvs.map (·.2)) (es.toList.map (·.val)) := by rw [vals_of_pairs hp]; exact KVvals kv
    rw [e2] at rv
    obtain ⟨as, q1, q2⟩ := shs_reads I k h1 _ rv
    have hl : (ks.map pyK).length = (pys ds).length := by rw [List.length_map, pys_len]; exact of_decide_eq_true h2
    have hk : ReadsAll s.heap (es.toList.map (·.key)) (ks.map pyK) [] := by
      have z := keys_reads s.heap hp
      rw [show (ws.map fun q => pyK q.1) = ks.map pyK by rw [← e1, kv.keys, List.map_map]; rfl] at z
      exact z
    rw [py]
    refine ⟨_, .dict (as := []) (bs := as) ho hx.1 hd (by rw [zip_fst hl]; exact hk) (by rw [zip_snd hl]; exact q1), fun hm => ?_⟩
    rcases List.mem_cons.mp (by simpa using hm) with e | hm
    · rw [← e] at hs
      simp at hs
    · exact q2 hm
  | _, _, .ty _, e, _, _ => by simp [isSh] at e
  | _, _, .lst .., e, _, _ => by simp [isSh] at e
  | _, _, .scr .., e, _, _ => by simp [isSh] at e
  | _, _, .scrK .., e, _, _ => by simp [isSh] at e
  | _, _, .dt .., e, _, _ => by simp [isSh] at e
  | _, _, .ins .., e, _, _ => by simp [isSh] at e
  | _, _, .clo .., e, _, _ => by simp [isSh] at e
  | _, _, .ref _, e, _, _ => by simp [isSh] at e
  | _, _, .obj _, e, _, _ => by simp [isSh] at e
theorem shs_reads (I : Inv X pins σ H s) : ∀ {ds : List D} {vs : List V}, DRs X.K mg ρ H ds vs → areSh ds = true → ∀ us, Vals vs us → ∃ as, ReadsAll s.heap us (pys ds) as ∧ sysModules ∉ as
  | _, _, .nil, _, us, r => by cases r; rw [pys]; exact ⟨_, .nil, by simp⟩
  | _, _, .cons h k, e, us, r => by
    obtain ⟨e1, e2⟩ := Bool.and_eq_true_iff.mp (show (isSh _ && areSh _) = true by simpa [areSh] using e)
    cases r with
    | cons r1 r2 =>
      obtain ⟨as, q1, q2⟩ := sh_reads I h e1 _ r1
      obtain ⟨bs, q3, q4⟩ := shs_reads I k e2 _ r2
      rw [pys]
      exact ⟨_, .cons q1 q3, fun hm => (List.mem_append.mp hm).elim q2 q4⟩
end
/-- what may be shown -/
def okRepr (d : D) : Bool := (isData d || isSh d) && (py d).showable && decide ((py d).depth ≤ 64) && decide (costP (py d) ≤ 16777216)
def dRepr (d : D) (S : Store) : Res := if okRepr (res S d) then .ok (.str (py (res S d)).shown) S else .bad
theorem repr_reads (cn : Cn X) {u : Value} {d : PyData} {as : List Addr} {Q : Value → Shared → Prop} {E : Value → Shared → Prop} (I : Inv X pins σ H s) (r : Reads s.heap u d as) (hs : d.showable = true) (hsm : d.hasDict = true → sysModules ∉ as) (hd : d.depth ≤ 64) (hc : costP d ≤ 16777216)
    (hq : ∀ t s', Inv X pins σ H s' → Q (.str d.shown t) s') : wpAny (model X.prog X.w) X.A (call (.builtin "repr") [u]) Q E s := by
  have hz : d.shown.length ≤ sizeLine := by rw [sizeLine_eq]; exact Nat.le_trans (shown_le d hs) hc
  have hu := cn.un
  cases r with
  | none =>
    simp only [PyData.shown] at hq
    exact PySem.P.repr_of_none (hq _ _ (I.tok _))
  | bool b =>
    simp only [PyData.shown] at hq
    exact PySem.P.repr_of_bool (hq _ _ (I.tok _))
  | int i t =>
    simp only [PyData.shown] at hq
    exact PySem.P.repr_of_int (by simpa [PyData.showable] using hs) (hq _ _ (I.tok _))
  | str x t =>
    simp only [PyData.shown] at hq hz
    exact PySem.P.repr_of_str (hq _ _ (I.tok _)) hz
  | list h1 h2 h3 h4 => exact repr_of_reads' (.list h1 h2 h3 h4) hs hsm cn.gd (by omega) (fun _ _ e => e) (fun h' u' tk k => hq _ _ (I.kept k)) hz
  | tuple h1 h2 h3 h4 => exact repr_of_reads' (.tuple h1 h2 h3 h4) hs hsm cn.gd (by omega) (fun _ _ e => e) (fun h' u' tk k => hq _ _ (I.kept k)) hz
  | dict h1 h2 h3 h4 h5 => exact repr_of_reads' (.dict h1 h2 h3 h4 h5) hs hsm cn.gd (by omega) (fun _ _ e => e) (fun h' u' tk k => hq _ _ (I.kept k)) hz
/-- what repr asks -/
def rRepr (K : PySem.W.Frag) (mg : Str → Option Value) : List V → Hp → VK → Prop := fun xs H Q => ∃ x d ρ, xs = [x] ∧ okRepr d = true ∧ ((isData d = true ∧ Dp K H x (py d)) ∨ (isSh d = true ∧ DR K mg ρ H d x)) ∧ Q (.str (py d).shown) H
theorem call_repr (cn : Cn X) : CallR X (.builtin "repr") (rRepr X.K X.mg) := by
  intro pins s σ H xs us Q I r h
  obtain ⟨x, d, ρ, rfl, ok, hr, q⟩ := h
  obtain ⟨u, rfl, ru⟩ := vals1 r
  unfold okRepr at ok
  simp only [Bool.and_eq_true, decide_eq_true_eq] at ok
  obtain ⟨⟨⟨_, k2⟩, k3⟩, k4⟩ := ok
  rcases hr with ⟨h1, h2⟩ | ⟨h1, h2⟩
  · obtain ⟨as, rd⟩ := Dp.reads I _ _ _ h2 ru
    exact repr_reads cn I rd k2 (fun z => by rw [noDict d h1] at z; cases z) k3 k4 fun t s' I' => ⟨.str (py d).shown, H, I', ⟨t, rfl⟩, q⟩
  · obtain ⟨as, rd, nm⟩ := sh_reads I h2 h1 u ru
    exact repr_reads cn I rd k2 (fun _ => nm) k3 k4 fun t s' I' => ⟨.str (py d).shown, H, I', ⟨t, rfl⟩, q⟩
def dRepr1 : List D → Store → Res := fun ds S => match ds with
  | [d] => dRepr d S
  | _ => .bad
theorem fit_repr {W : WX} : FitA X W (rRepr X.K X.mg) dRepr1 := fun ρ H S σ ds vs Q s r q => by
  unfold dRepr1 at q
  split at q
  · rename_i d
    cases r with
    | cons r1 r2 =>
      cases r2
      unfold dRepr at q
      split at q
      · rename_i ok
        refine ⟨_, res S d, ρ, rfl, ok, ?_, q.here s (.str _)⟩
        have ok' := ok
        unfold okRepr at ok'
        simp only [Bool.and_eq_true, Bool.or_eq_true, decide_eq_true_eq] at ok'
        obtain ⟨⟨⟨k1, _⟩, _⟩, _⟩ := ok'
        rcases k1 with k1 | k1
        · exact .inl ⟨k1, dp_res s r1 k1⟩
        · refine .inr ⟨k1, ?_⟩
          have e : res S d = d := by
            cases d with
            | ref n =>
              unfold res at k1 ⊢
              cases hc : S.cs[n]? with
              | none => simp [hc]
              | some c =>
                cases c with
                | lst xs => simp [hc, isSh] at k1
                | _ => simp [hc]
            | _ => rfl
          rw [e]; exact r1
      · exact False.elim q
  · exact False.elim q
end
end Ev
end

section
set_option maxHeartbeats 4000000
namespace Ev
open PySem PySem.Spec PyProof.Rows L2
section
variable {X : Cx} {W : WX} {a b c : Expr} {A B C : Sm} {pos p : Pos} {es : List Expr} {M : Sm} {e : Expr}

/-- one value -/
def one (f : D → Store → Res) : List D → Store → Res := fun ds S => match ds with
  | [d] => f d S
  | _ => .bad
def twoL (f : D → D → Store → Res) : List D → Store → Res := fun ds S => match ds with
  | [d, e] => f d e S
  | _ => .bad
theorem fitOne {r : List V → Hp → VK → Prop} {f : D → Store → Res} (h : ∀ ρ H S σ d v Q, SR X.K X.mg ρ H S → DR X.K X.mg ρ H d v → RQ X.K X.mg ρ H σ W (f d S) Q → r [v] H Q) : FitA X W r (one f) := fun ρ H S σ ds vs Q s r1 q => by
  unfold one at q
  split at q
  · cases r1 with
    | cons a b => cases b; exact h _ _ _ _ _ _ _ s a q
  · exact False.elim q
theorem fitTwo {r : List V → Hp → VK → Prop} {f : D → D → Store → Res} (h : ∀ ρ H S σ d d' v v' Q, SR X.K X.mg ρ H S → DR X.K X.mg ρ H d v → DR X.K X.mg ρ H d' v' → RQ X.K X.mg ρ H σ W (f d d' S) Q → r [v, v'] H Q) : FitA X W r (twoL f) := fun ρ H S σ ds vs Q s r1 q => by
  unfold twoL at q
  split at q
  · cases r1 with
    | cons a b =>
      cases b with
      | cons b1 b2 => cases b2; exact h _ _ _ _ _ _ _ _ _ s a b1 q
  · exact False.elim q
/-- f(e, ..) of a built-in function; of a built-in type -/
theorem x_blt {x : Str} {id : String} {r : List V → Hp → VK → Prop} {f : List D → Store → Res} (hc : CallR X (.builtin id) r) (ft : FitA X W r f) (hm : X.mg x = none) (ha : PA X (e :: es) (xA X W M)) (hg : Gl X x := by rfl) (hv : bootBuiltins x = some (.builtin id) := by decide +kernel) (hn : x ≠ "__name__" := by decide) (hdb : (x == ("__debug__" : Str)) = false := by decide)
    (he : starEach (e :: es) X.env = (false, eval e X.env) :: starEach es X.env := by rfl) (hpl : (backTo pos (starEach es X.env)).any (·.1) = false := by rfl) : PE X (.Call (.Name x p) (e :: es) [] pos) (xE X W (evA M f)) :=
  eA (pe_callB hc hg hm hv ha hn hdb he hpl) ft
theorem x_blty {x : Str} {T : String} {r : List V → Hp → VK → Prop} {f : List D → Store → Res} (hc : CallR X (.type T) r) (ft : FitA X W r f) (hm : X.mg x = none) (ha : PA X (e :: es) (xA X W M)) (hg : Gl X x := by rfl) (hv : bootBuiltins x = some (.type T) := by decide +kernel) (hn : x ≠ "__name__" := by decide) (hdb : (x == ("__debug__" : Str)) = false := by decide)
    (he : starEach (e :: es) X.env = (false, eval e X.env) :: starEach es X.env := by rfl) (hpl : (backTo pos (starEach es X.env)).any (·.1) = false := by rfl) : PE X (.Call (.Name x p) (e :: es) [] pos) (xE X W (evA M f)) :=
  eA (pe_callTy hc hg hm hv ha hn hdb he hpl) ft
/-- a function of another module (math.gcd) -/
theorem x_bltF {x : Str} {id : String} {r : List V → Hp → VK → Prop} {f : List D → Store → Res} (hc : CallR X (.builtin id) r) (ft : FitA X W r f) (hm : X.mg x = some (.builtin id)) (ha : PA X (e :: es) (xA X W M)) (hg : Gl X x := by rfl) (hdb : (x == ("__debug__" : Str)) = false := by decide)
    (he : starEach (e :: es) X.env = (false, eval e X.env) :: starEach es X.env := by rfl) (hpl : (backTo pos (starEach es X.env)).any (·.1) = false := by rfl) : PE X (.Call (.Name x p) (e :: es) [] pos) (xE X W (evA M f)) :=
  eA (pe_callBfun hc hg hm ha hdb he hpl) ft

def lenD (d : D) (S : Store) : Option Nat := match d with
  | .str x => if x.length ≤ 16777216 then some x.length else none
  | d => (match seqOf d S with
    | some xs => some xs.length
    | none => (match dictOf d S with
      | some (.k ks _) => some ks.length
      | _ => none))
def dLen : D → Store → Res := fun d S => match lenD d S with
  | some n => .ok (.int n) S
  | none => .bad
theorem fit_len : FitA X W (fun xs H Q => (∃ x n, xs = [x] ∧ LenV X.K x H n ∧ Q (.int n) H) ∨ ∃ a kvs, xs = [V.ref a] ∧ H a = some (.dK kvs) ∧ Q (.int kvs.length) H) (one dLen) := fitOne fun ρ H S σ d v Q s r q => by
  unfold dLen at q
  split at q
  · rename_i n hn
    have seqs : ∀ {xs}, seqOf d S = some xs → n = xs.length → LenV X.K v H n := fun {xs} e en => by
      obtain ⟨a, vs, rfl, h1, h2⟩ := seq_any s r e
      rw [h2.length] at en
      rcases h1 with h1 | h1
      · exact .inl ⟨vs, h1, en⟩
      · exact .inr ⟨vs, h1, en⟩
    have viaSeq : (∀ x, d ≠ .str x) → ((∃ x m, [v] = [x] ∧ LenV X.K x H m ∧ Q (.int m) H) ∨ ∃ a kvs, [v] = [V.ref a] ∧ H a = some (.dK kvs) ∧ Q (.int kvs.length) H) := fun hns => by
      have hn' : (match seqOf d S with
        | some xs => some xs.length
        | none => (match dictOf d S with
          | some (.k ks _) => some ks.length
          | _ => none)) = some n := by
        unfold lenD at hn
        split at hn
        · exact absurd rfl (hns _)
        · exact hn
      cases e : seqOf d S with
      | some xs =>
        rw [e] at hn'
        exact .inl ⟨v, n, rfl, seqs e (by simpa using hn'.symm), q.here s (.int _)⟩
      | none =>
        rw [e] at hn'
        dsimp only at hn'
        split at hn'
        · rename_i ks vs e2
          obtain ⟨a, rfl, kvs, h1, h2, h3⟩ := dict_of s r e2
          refine .inr ⟨a, kvs, rfl, h1, ?_⟩
          cases hn'
          rw [← h2, List.length_map] at q
          exact q.here s (.int _)
        · cases hn'
    cases d with
    | str x =>
      cases r
      simp only [lenD] at hn
      split at hn
      · cases hn
        exact .inl ⟨_, _, rfl, ⟨by rw [sizeLine_eq]; assumption, rfl⟩, q.here s (.int _)⟩
      · cases hn
    | _ => exact viaSeq (fun _ z => nomatch z)
  · exact False.elim q
theorem x_len (hm : X.mg "len" = none) (ha : PA X (e :: es) (xA X W M)) (hg : Gl X "len" := by rfl) (he : starEach (e :: es) X.env = (false, eval e X.env) :: starEach es X.env := by rfl) (hpl : (backTo pos (starEach es X.env)).any (·.1) = false := by rfl) :
    PE X (.Call (.Name "len" p) (e :: es) [] pos) (xE X W (evA M (one dLen))) := x_blt (CallR.or call_len call_lenD) fit_len hm ha hg boot_len (by decide) (by decide) he hpl
def dTuple : D → Store → Res := fun d S => match d with
  | .tup xs => .ok (.tup xs) S
  | d => (match seqOf d S with
    | some xs => mkT xs S
    | none => .bad)
theorem fit_tuple : FitA X W (fun xs H Q => ∃ p ys, xs = [.ref p] ∧ ((SqL X.K H p ys ∧ ∀ l, H l = none → Q (.ref l) (upd H l (.tup ys))) ∨ (SqT X.K H p ys ∧ Q (.ref p) H))) (one dTuple) := fitOne fun ρ H S σ d v Q s r q => by
  unfold dTuple at q
  split at q
  · obtain ⟨a, vs, rfl, h1, h2⟩ := seq_tup r
    exact ⟨a, vs, rfl, .inr ⟨h1, q.here s r⟩⟩
  · split at q
    · rename_i hne _ xs e
      obtain ⟨a, vs, rfl, h1, h2⟩ := seq_lst s r e (by cases d <;> first | rfl | exact absurd rfl (hne _))
      exact ⟨a, vs, rfl, .inl ⟨h1, fun l hl => mkT_ok q s h2 hl⟩⟩
    · exact False.elim q
theorem x_tuple (hm : X.mg "tuple" = none) (ha : PA X (e :: es) (xA X W M)) (hg : Gl X "tuple" := by rfl) (he : starEach (e :: es) X.env = (false, eval e X.env) :: starEach es X.env := by rfl) (hpl : (backTo pos (starEach es X.env)).any (·.1) = false := by rfl) :
    PE X (.Call (.Name "tuple" p) (e :: es) [] pos) (xE X W (evA M (one dTuple))) := x_blty call_tuple_of fit_tuple hm ha hg (by decide +kernel) (by decide) (by decide) he hpl
def dList (own : Bool) : D → Store → Res := fun d S => match seqOf d S with
  | some xs => mkL own xs S
  | none => .bad
theorem fit_list {own : Bool} : FitA X W (fun xs H Q => ∃ p ys, xs = [.ref p] ∧ (SqL X.K H p ys ∨ SqT X.K H p ys) ∧ ∀ l, H l = none → Q (.ref l) (upd H l (.lst ys))) (one (dList own)) := fitOne fun ρ H S σ d v Q s r q => by
  unfold dList at q
  split at q
  · rename_i xs e
    obtain ⟨a, vs, rfl, h1, h2⟩ := seq_any s r e
    exact ⟨a, vs, rfl, h1, fun l hl => mkL_ok q s h2 hl⟩
  · exact False.elim q
theorem x_list {own : Bool} (hm : X.mg "list" = none) (ha : PA X (e :: es) (xA X W M)) (hg : Gl X "list" := by rfl) (he : starEach (e :: es) X.env = (false, eval e X.env) :: starEach es X.env := by rfl) (hpl : (backTo pos (starEach es X.env)).any (·.1) = false := by rfl) :
    PE X (.Call (.Name "list" p) (e :: es) [] pos) (xE X W (evA M (one (dList own)))) := x_blty call_list_of fit_list hm ha hg (by decide +kernel) (by decide) (by decide) he hpl
def dInt : D → Store → Res := fun d S => match d with
  | .int i => .ok (.int i) S
  | .bl k => .ok (.int (if k then 1 else 0)) S
  | _ => .bad
theorem x_int1 (hm : X.mg "int" = none) (ha : PA X (e :: es) (xA X W M)) (hg : Gl X "int" := by rfl) (he : starEach (e :: es) X.env = (false, eval e X.env) :: starEach es X.env := by rfl) (hpl : (backTo pos (starEach es X.env)).any (·.1) = false := by rfl) :
    PE X (.Call (.Name "int" p) (e :: es) [] pos) (xE X W (evA M (one dInt))) := x_blty call_int1 (fitOne fun ρ H S σ d v Q s r q => by
      unfold dInt at q
      split at q
      · cases r; exact .inl ⟨_, rfl, q.here s (.int _)⟩
      · cases r; exact .inr ⟨_, rfl, q.here s (.int _)⟩
      · exact False.elim q) hm ha hg (by decide +kernel) (by decide) (by decide) he hpl
def dAbs : D → Store → Res := fun d S => match d with
  | .int i => .ok (.int (if i < 0 then -i else i)) S
  | _ => .bad
theorem x_abs (hm : X.mg "abs" = none) (ha : PA X (e :: es) (xA X W M)) (hg : Gl X "abs" := by rfl) (he : starEach (e :: es) X.env = (false, eval e X.env) :: starEach es X.env := by rfl) (hpl : (backTo pos (starEach es X.env)).any (·.1) = false := by rfl) :
    PE X (.Call (.Name "abs" p) (e :: es) [] pos) (xE X W (evA M (one dAbs))) := x_blt call_abs (fitOne fun ρ H S σ d v Q s r q => by
      unfold dAbs at q
      split at q
      · cases r; exact ⟨_, rfl, q.here s (.int _)⟩
      · exact False.elim q) hm ha hg (by decide +kernel) (by decide) (by decide) he hpl
def dGcd : D → D → Store → Res := fun d e S => match d, e with
  | .int i, .int j => .ok (.int ((Nat.gcd i.natAbs j.natAbs : Nat) : Int)) S
  | _, _ => .bad
theorem x_gcd (hm : X.mg "gcd" = some (.builtin "math.gcd")) (ha : PA X (e :: es) (xA X W M)) (hg : Gl X "gcd" := by rfl) (he : starEach (e :: es) X.env = (false, eval e X.env) :: starEach es X.env := by rfl) (hpl : (backTo pos (starEach es X.env)).any (·.1) = false := by rfl) :
    PE X (.Call (.Name "gcd" p) (e :: es) [] pos) (xE X W (evA M (twoL dGcd))) := x_bltF cr_gcd (fitTwo fun ρ H S σ d d' v v' Q s r r' q => by
      unfold dGcd at q
      split at q
      · cases r; cases r'; exact ⟨_, _, rfl, q.here s (.int _)⟩
      · exact False.elim q) hm ha hg (by decide) he hpl
def allBl : List D → Option (List Bool)
  | [] => some []
  | .bl b :: r => (allBl r).map (b :: ·)
  | _ => none
theorem allBl_v {K : PySem.W.Frag} {mg : Str → Option Value} {ρ : Adr} {H : Hp} : ∀ {ds : List D} {vs : List V} {bs : List Bool}, DRs K mg ρ H ds vs → allBl ds = some bs → vs = bs.map V.bl
  | _, _, _, .nil, h => by cases h; rfl
  | d :: ds, _, bs, .cons r t, h => by
    cases d with
    | bl b =>
      cases r
      simp only [allBl, Option.map_eq_some_iff] at h
      obtain ⟨bs', h1, rfl⟩ := h
      rw [allBl_v t h1]; rfl
    | _ => simp [allBl] at h
def allInt : List D → Option (List Int)
  | [] => some []
  | .int b :: r => (allInt r).map (b :: ·)
  | _ => none
theorem allInt_v {K : PySem.W.Frag} {mg : Str → Option Value} {ρ : Adr} {H : Hp} : ∀ {ds : List D} {vs : List V} {bs : List Int}, DRs K mg ρ H ds vs → allInt ds = some bs → vs = bs.map V.int
  | _, _, _, .nil, h => by cases h; rfl
  | d :: ds, _, bs, .cons r t, h => by
    cases d with
    | int b =>
      cases r
      simp only [allInt, Option.map_eq_some_iff] at h
      obtain ⟨bs', h1, rfl⟩ := h
      rw [allInt_v t h1]; rfl
    | _ => simp [allInt] at h
/-- a list (no tuple) of such -/
def lstX (d : D) (S : Store) : Option (List D) := if isTupD d then none else seqOf d S
theorem lstX_v {K : PySem.W.Frag} {mg : Str → Option Value} {ρ : Adr} {H : Hp} {S : Store} {d : D} {xs : List D} {v : V} (s : SR K mg ρ H S) (r : DR K mg ρ H d v) (h : lstX d S = some xs) : ∃ a vs, v = .ref a ∧ SqL K H a vs ∧ DRs K mg ρ H xs vs := by
  unfold lstX at h
  split at h
  · cases h
  · rename_i hne
    exact seq_lst s r h (by simpa using hne)
def dAll (f : List Bool → Bool) : D → Store → Res := fun d S => match (lstX d S).bind allBl with
  | some bs => .ok (.bl (f bs)) S
  | none => .bad
theorem fit_all {f : List Bool → Bool} : FitA X W (fun vs H Q => ∃ (a : Addr) (bs : List Bool), vs = [V.ref a] ∧ SqL X.K H a (bs.map V.bl) ∧ Q (.bl (f bs)) H) (one (dAll f)) := fitOne fun ρ H S σ d v Q s r q => by
  unfold dAll at q
  split at q
  · rename_i bs e
    obtain ⟨xs, e1, e2⟩ := Option.bind_eq_some_iff.mp e
    obtain ⟨a, vs, rfl, h1, h2⟩ := lstX_v s r e1
    have := allBl_v h2 e2
    subst this
    exact ⟨a, bs, rfl, h1, q.here s (.bl _)⟩
  · exact False.elim q
theorem x_all (cn : Cn X) (hm : X.mg "all" = none) (ha : PA X (e :: es) (xA X W M)) (hg : Gl X "all" := by rfl) (he : starEach (e :: es) X.env = (false, eval e X.env) :: starEach es X.env := by rfl) (hpl : (backTo pos (starEach es X.env)).any (·.1) = false := by rfl) :
    PE X (.Call (.Name "all" p) (e :: es) [] pos) (xE X W (evA M (one (dAll (·.all id))))) := x_blt (cr_all cn.calm) fit_all hm ha hg (by decide +kernel) (by decide) (by decide) he hpl
theorem x_any (cn : Cn X) (hm : X.mg "any" = none) (ha : PA X (e :: es) (xA X W M)) (hg : Gl X "any" := by rfl) (he : starEach (e :: es) X.env = (false, eval e X.env) :: starEach es X.env := by rfl) (hpl : (backTo pos (starEach es X.env)).any (·.1) = false := by rfl) :
    PE X (.Call (.Name "any" p) (e :: es) [] pos) (xE X W (evA M (one (dAll (·.any id))))) := x_blt (cr_any cn.calm) fit_all hm ha hg (by decide +kernel) (by decide) (by decide) he hpl
def dSum : D → Store → Res := fun d S => match (lstX d S).bind allInt with
  | some ns => .ok (.int ns.sum) S
  | none => .bad
theorem x_sum (cn : Cn X) (hm : X.mg "sum" = none) (ha : PA X (e :: es) (xA X W M)) (hg : Gl X "sum" := by rfl) (he : starEach (e :: es) X.env = (false, eval e X.env) :: starEach es X.env := by rfl) (hpl : (backTo pos (starEach es X.env)).any (·.1) = false := by rfl) :
    PE X (.Call (.Name "sum" p) (e :: es) [] pos) (xE X W (evA M (one dSum))) := x_blt (cr_sum cn.calm) (fitOne fun ρ H S σ d v Q s r q => by
      unfold dSum at q
      split at q
      · rename_i bs e
        obtain ⟨xs, e1, e2⟩ := Option.bind_eq_some_iff.mp e
        obtain ⟨a, vs, rfl, h1, h2⟩ := lstX_v s r e1
        have := allInt_v h2 e2
        subst this
        exact ⟨a, bs, rfl, h1, q.here s (.int _)⟩
      · exact False.elim q) hm ha hg (by decide +kernel) (by decide) (by decide) he hpl
theorem x_repr (cn : Cn X) (hm : X.mg "repr" = none) (ha : PA X (e :: es) (xA X W M)) (hg : Gl X "repr" := by rfl) (he : starEach (e :: es) X.env = (false, eval e X.env) :: starEach es X.env := by rfl) (hpl : (backTo pos (starEach es X.env)).any (·.1) = false := by rfl) :
    PE X (.Call (.Name "repr" p) (e :: es) [] pos) (xE X W (evA M dRepr1)) := x_blt (call_repr cn) fit_repr hm ha hg (by decide +kernel) (by decide) (by decide) he hpl
def dBits : D → Store → Res := fun d S => match d with
  | .int i => .ok (.int (Builtin.Int.intBits i : Nat)) S
  | _ => .bad
theorem x_bits {apos : Pos} (ha : PE X a (xE X W A)) (hbase : attributeBase a "bit_length" X.env (eval a X.env) = eval a X.env := by rfl) (hline : (apos.endLine == pos.line) = true := by rfl) : PE X (.Call (.Attribute a "bit_length" apos) [] [] pos) (xE X W (evU A dBits)) :=
  e1 (r := fun x H Q => ∃ i, x = .int i ∧ Q (.int (Builtin.Int.intBits i : Nat)) H) (pe_bits ha hbase hline) fun ρ H S σ d v Q s r q => by
    unfold dBits at q
    split at q
    · cases r; exact ⟨_, rfl, q.here s (.int _)⟩
    · exact False.elim q

def evMth (A M : Sm) (isT : D → Store → Bool) (f : D → List D → Store → Res) : Sm := fun σd S => (A σd S).bind fun d S1 => if isT d S1 then (M σd S1).bindA fun ds S2 => f d ds S2 else .bad
def FitM (X : Cx) (W : WX) (r : V → List V → Hp → VK → Prop) (f : D → List D → Store → Res) : Prop :=
  ∀ ρ H S σ d ds v vs Q, SR X.K X.mg ρ H S → DR X.K X.mg ρ H d v → DRs X.K X.mg ρ H ds vs → RQ X.K X.mg ρ H σ W (f d ds S) Q → r v vs H Q
def FitT (X : Cx) (T : String) (isT : D → Store → Bool) : Prop := ∀ ρ H S d v, SR X.K X.mg ρ H S → DR X.K X.mg ρ H d v → isT d S = true → tyV X.K T v H
theorem eMth {T : String} {r : V → List V → Hp → VK → Prop} {isT : D → Store → Bool} {f : D → List D → Store → Res} (h : PE X e (tBM X.K T r (xE X W A) (xA X W M))) (hT : FitT X T isT) (ft : FitM X W r f) : PE X e (xE X W (evMth A M isT f)) :=
  peImp h fun σ H Q ⟨ρ, σd, S, er, sr, q⟩ => ⟨ρ, σd, S, er, sr, (RQ.bind q).mono fun v1 H1 ⟨d1, S1, ρ1, _, x1, s1, r1, q1⟩ => by
    dsimp only at q1
    split at q1
    · rename_i ht
      exact ⟨hT ρ1 H1 S1 d1 v1 s1 r1 ht, ρ1, σd, S1, er.mono x1, s1, (RQA.bind q1).mono fun vs H2 ⟨ds, S2, ρ2, x2, s2, r2, q2⟩ => ft ρ2 H2 S2 σ d1 ds v1 vs Q s2 (r1.mono x2) r2 q2⟩
    · exact False.elim q1⟩
def isLstD (d : D) (S : Store) : Bool := (lstX d S).isSome
theorem fitT_list : FitT X "list" isLstD := fun ρ H S d v s r h => by
  unfold isLstD at h
  obtain ⟨xs, e⟩ := Option.isSome_iff_exists.mp h
  obtain ⟨a, vs, rfl, h1, _⟩ := lstX_v s r e
  exact .inl ⟨rfl, vs, h1⟩
def dAppend : D → List D → Store → Res := fun x ys S => match x, ys with
  | .ref n, [y] => (match S.cs[n]? with
    | some (.lst xs) => if xs.length < 16777216 ∧ y.pure = true then .ok .non { S with cs := S.cs.set n (.lst (xs ++ [y])) } else .bad
    | _ => .bad)
  | _, _ => .bad
theorem fit_append : FitM X W rAppend dAppend := fun ρ H S σ d ds v vs Q s r rs q => by
  unfold dAppend at q
  split at q
  · split at q
    · split at q
      · rename_i n y _ xs hn hc
        cases r with
        | ref hr =>
          cases rs with
          | cons r1 r2 =>
            cases r2
            obtain ⟨us, h1, h2⟩ := s.cs _ _ _ hn hr
            refine ⟨_, us, _, rfl, rfl, h1, by rw [← h2.length, sizeLine_eq]; exact hc.1, ?_⟩
            obtain ⟨s3, e3⟩ := s.setCell (c := .lst (xs ++ [y])) (o := .lst (us ++ [_])) (by
              have hp := s.pc _ (List.mem_of_getElem? hn)
              simp only [Cell.pure] at hp ⊢
              rw [pures_append, hp, Bool.true_and]
              simpa [D.pures] using hc.2) hr fun ρ' H' e q => ⟨_, q, (h2.mono e).append (.cons (r1.mono e) .nil)⟩
            exact q.at2 e3 s3 .non
      · exact False.elim q
    · exact False.elim q
  · exact False.elim q
theorem x_append {apos : Pos} (ha : PE X a (xE X W A)) (hM : PA X (e :: es) (xA X W M)) (hbase : attributeBase a "append" X.env (eval a X.env) = eval a X.env := by rfl)
    (hfew : ((backTo pos (starEach (e :: es) X.env)).all (fun x => !x.1) && (backToKw pos (keywordEach [] X.env)).all (fun x => x.1.isSome)
      && decide ((e :: es).length + ([] : List Keyword).length + (if ([] : List Keyword).isEmpty then 0 else 1) < 30)) = true := by rfl)
    (hline : (apos.endLine == pos.line) = true := by rfl) (hs : starEach (e :: es) X.env = (false, eval e X.env) :: starEach es X.env := by rfl) (hpl : (backTo pos (starEach es X.env)).any (·.1) = false := by rfl) :
    PE X (.Call (.Attribute a "append" apos) (e :: es) [] pos) (xE X W (evMth A M isLstD dAppend)) :=
  eMth (pe_bm PySem.F.plainAttrs_list PySem.F.slot_list_append PySem.F.type_list_append mt_append ha hM hbase hfew hline hs hpl) fitT_list fit_append

def dDGet : D → D → Store → Res := fun x y S => match keyOf y with
  | some _ => (match dGetO x y S with
    | some (some d) => .ok d S
    | _ => .bad)
  | none => .bad
theorem x_dget (cn : Cn X) (ha : PE X a (xE X W A)) (hb : PE X b (xE X W B)) (hs : NoSl b) : PE X (.Subscript a b pos) (xE X W (evB A B dDGet)) :=
  e2 (r := fun x y H Q => ∃ a v, x = .ref a ∧ DGet H a y (some v) ∧ Q v H) (pe_dget cn.hu1 ha hb hs) fun ρ H S σ d1 d2 v1 v2 Q s r1 r2 q => by
    unfold dDGet at q
    split at q
    · rename_i k hk
      split at q
      · rename_i d e
        obtain ⟨p, w, rfl, h1, h2⟩ := dget_of s r1 r2 e (fun ys ey => by subst ey; cases hk)
        obtain ⟨z, rfl, rz⟩ := h2
        exact ⟨p, z, rfl, h1, q.here s rz⟩
      · exact False.elim q
    · exact False.elim q

def evPairs : List (Sm × Sm) → Sm
  | [] => evNil
  | p :: r => evCons p.1 (evCons p.2 (evPairs r))
def pairUp : List D → Option (List (Key × D))
  | [] => some []
  | k :: d :: r => (match keyOf k, pairUp r with
    | some k, some ps => some ((k, d) :: ps)
    | _, _ => none)
  | _ => none
def foldPut (ps : List (Key × D)) : List Key × List D := ps.foldl (fun acc p => put p.1 p.2 acc.1 acc.2) ([], [])
def mkDk (own : Bool) (kvs : List Key × List D) (S : Store) : Res :=
  if own then (if D.pures kvs.2 then .ok (.ref S.cs.length) { S with cs := S.cs ++ [.dk kvs.1 kvs.2] } else .bad) else .ok (.dk kvs.1 kvs.2) S
def dDisp (own : Bool) : List D → Store → Res := fun ds S => match pairUp ds with
  | some ps => if ps.length ≤ 15 then mkDk own (foldPut ps) S else .bad
  | none => .bad
end
end Ev
end

section
set_option maxHeartbeats 4000000
namespace Ev
open PySem PySem.Spec PyProof.Rows L2
section
variable {X : Cx} {W : WX} {a b c e : Expr} {A B C : Sm} {pos p : Pos} {es : List Expr} {M : Sm}

def flat2 (ps : List (V × V)) : List V := ps.flatMap fun p => [p.1, p.2]
theorem pairs_run : ∀ (prs : List (Sm × Sm)) {ρ : Adr} {H : Hp} {σ : L2.St} {σd : Env1} {S : Store} {Q : List V → Hp → Prop}, ER X.K X.mg (cvOf X) ρ H σd σ → SR X.K X.mg ρ H S → RQA X.K X.mg ρ H σ W (evPairs prs σd S) Q →
    tPairs (prs.map fun p => (xE X W p.1, xE X W p.2)) σ H (fun ps H' => Q (flat2 ps) H')
  | [], ρ, H, σ, σd, S, Q, er, sr, q => by
    obtain ⟨ds, e, q⟩ := q
    cases e
    exact q ρ H [] Ext.refl sr .nil
  | p :: r, ρ, H, σ, σd, S, Q, er, sr, q => by
    refine ⟨ρ, σd, S, er, sr, (RQA.bindA q).mono fun v1 H1 ⟨d1, S1, ρ1, x1, s1, r1, q1⟩ => ⟨ρ1, σd, S1, er.mono x1, s1, ?_⟩⟩
    -- the second of the pair, then the rest
    have step : RQ X.K X.mg ρ1 H1 σ W (p.2 σd S1) (fun v2 H2 => ∃ d2 S2 ρ2, Ext ρ1 H1 ρ2 H2 ∧ SR X.K X.mg ρ2 H2 S2 ∧ DR X.K X.mg ρ2 H2 d2 v2 ∧ RQA X.K X.mg ρ2 H2 σ W (evPairs r σd S2) (fun vs H3 => Q (v1 :: v2 :: vs) H3)) := by
      have q1' : RQA X.K X.mg ρ1 H1 σ W (Res.bind (Res.bind (p.2 σd S1) fun d S2 => (evPairs r σd S2).bind fun ds S3 => match ds with | .tup xs => .ok (.tup (d :: xs)) S3 | _ => .bad) fun ds S2 => match ds with | .tup xs => .ok (.tup (d1 :: xs)) S2 | _ => .bad) Q := q1
      cases h2 : p.2 σd S1 with
      | bad => rw [h2] at q1'; exact q1'
      | exc c fs vs S2 => rw [h2] at q1'; exact q1'
      | ok d2 S2 =>
        rw [h2] at q1'
        refine fun ρ2 H2 v2 x2 s2 r2 => ⟨d2, S2, ρ2, x2, s2, r2, ?_⟩
        simp only [Res.bind] at q1'
        cases h3 : evPairs r σd S2 with
        | bad => rw [h3] at q1'; exact q1'
        | exc c fs vs S3 => rw [h3] at q1'; exact RQ.ext (r := .exc c fs vs S3) (Q := fun _ _ => True) x2 q1'
        | ok d3 S3 =>
          rw [h3] at q1'
          cases d3 with
          | tup xs =>
            obtain ⟨ds, e, k⟩ := q1'
            cases e
            exact ⟨xs, rfl, fun ρ3 H3 vs x3 s3 r3 => k ρ3 H3 _ (x2.trans x3) s3 (.cons (r1.mono (x2.trans x3)) (.cons (r2.mono x3) r3))⟩
          | _ => exact False.elim q1'
    exact step.mono fun v2 H2 ⟨d2, S2, ρ2, x2, s2, r2, q2⟩ => pairs_run r ((er.mono x1).mono x2) s2 q2
theorem tPairs.imp {σ : L2.St} : ∀ {trs : List (TE × TE)} {H : Hp} {Q Q' : List (V × V) → Hp → Prop}, (∀ p ∈ trs, ∀ σ H (Q Q' : VK), p.1 σ H Q → (∀ v H, Q v H → Q' v H) → p.1 σ H Q') → (∀ p ∈ trs, ∀ σ H (Q Q' : VK), p.2 σ H Q → (∀ v H, Q v H → Q' v H) → p.2 σ H Q') →
    tPairs trs σ H Q → (∀ ps H, Q ps H → Q' ps H) → tPairs trs σ H Q'
  | [], H, Q, Q', _, _, h, i => i _ _ h
  | p :: r, H, Q, Q', m1, m2, h, i => m1 p List.mem_cons_self σ H _ _ h fun v1 H1 h1 => m2 p List.mem_cons_self σ H1 _ _ h1 fun v2 H2 h2 => tPairs.imp (fun q hq => m1 q (List.mem_cons_of_mem _ hq)) (fun q hq => m2 q (List.mem_cons_of_mem _ hq)) h2 fun ps H3 h3 => i _ _ h3
theorem pairUp_v {K : PySem.W.Frag} {mg : Str → Option Value} {ρ : Adr} {H : Hp} : ∀ {ds : List D} {ps : List (V × V)} {kds : List (Key × D)}, DRs K mg ρ H ds (flat2 ps) → pairUp ds = some kds →
    ∃ kvs : List (Key × V), ps = kvs.map (fun kv => (kV kv.1, kv.2)) ∧ kvs.map (·.1) = kds.map (·.1) ∧ DRs K mg ρ H (kds.map (·.2)) (kvs.map (·.2))
  | [], ps, kds, r, h => by
    cases h
    cases ps with
    | nil => exact ⟨[], rfl, rfl, .nil⟩
    | cons p t => cases r
  | [_], ps, kds, r, h => by simp [pairUp] at h
  | d1 :: d2 :: ds, ps, kds, r, h => by
    cases ps with
    | nil => cases r
    | cons p t =>
      have r' : DRs K mg ρ H (d1 :: d2 :: ds) (p.1 :: p.2 :: flat2 t) := r
      cases r' with
      | cons a1 r' =>
        cases r' with
        | cons a2 r' =>
          simp only [pairUp] at h
          split at h
          · rename_i k kd h1 h2
            cases h
            obtain ⟨kvs, e1, e2, e3⟩ := pairUp_v (ps := t) r' h2
            refine ⟨(k, p.2) :: kvs, ?_, ?_, ?_⟩
            · rw [List.map_cons, ← e1, ← keyOf_v a1 h1]
            · rw [List.map_cons, List.map_cons, e2]
            · rw [List.map_cons, List.map_cons]; exact .cons a2 e3
          · cases h
theorem foldPut_v {K : PySem.W.Frag} {mg : Str → Option Value} {ρ : Adr} {H : Hp} : ∀ (kvs : List (Key × V)) (kds : List (Key × D)) (acc : List (Key × V)) (ad : List Key × List D), kvs.map (·.1) = kds.map (·.1) → DRs K mg ρ H (kds.map (·.2)) (kvs.map (·.2)) → acc.map (·.1) = ad.1 → DRs K mg ρ H ad.2 (acc.map (·.2)) →
    (mergeK acc kvs).map (·.1) = (kds.foldl (fun acc p => put p.1 p.2 acc.1 acc.2) ad).1 ∧ DRs K mg ρ H (kds.foldl (fun acc p => put p.1 p.2 acc.1 acc.2) ad).2 ((mergeK acc kvs).map (·.2))
  | [], [], acc, ad, _, _, h1, h2 => ⟨h1, h2⟩
  | kv :: kvs, kd :: kds, acc, ad, e, r, h1, h2 => by
    rw [List.map_cons, List.map_cons] at e r
    cases r with
    | cons r1 r2 =>
      injection e with e1 e2
      have z := put_v (k := kv.1) (kvs := acc) h2 r1
      rw [h1] at z
      rw [e1] at z
      have g := foldPut_v kvs kds (putK acc kv.1 kv.2) (put kd.1 kd.2 ad.1 ad.2) e2 r2 (by rw [e1]; exact z.1) (by rw [e1]; exact z.2)
      exact g
  | [], _ :: _, _, _, e, _, _, _ => by simp at e
  | _ :: _, [], _, _, e, _, _, _ => by simp at e
/-- {k: v, ..} -/
def evDisp (own : Bool) (prs : List (Sm × Sm)) : Sm := evA (evPairs prs) (dDisp own)
theorem xE.up {A : Sm} {σ : L2.St} {H : Hp} {Q Q' : VK} (h : xE X W A σ H Q) (i : ∀ v H, Q v H → Q' v H) : xE X W A σ H Q' := xE.imp h i
theorem x_disp {own : Bool} {keys : List (Option Expr)} {values : List Expr} {prs : List (Sm × Sm)} (h : PPs X pos keys values (prs.map fun p => (xE X W p.1, xE X W p.2))) (hall : keys.all (·.isSome) = true := by rfl) (hl : keys.length = values.length := by rfl) (h0 : keys ≠ [] := by exact List.cons_ne_nil _ _)
    (h15 : keys.length ≤ 15 := by decide) : PE X (.Dict keys values pos) (xE X W (evDisp own prs)) := peImp (pe_disp h hall hl h0 h15) fun σ H Q ⟨ρ, σd, S, er, sr, q⟩ => by
  intro p hp
  obtain ⟨s0, e0⟩ := sr.addx (o := .dK []) hp (.inr ⟨_, rfl⟩)
  have er0 := er.mono0 e0
  -- the result, seen from the dict in the making
  have hx : RQA X.K X.mg (ρ.addx p) (upd H p (.dK [])) σ W (evPairs prs σd S) (fun vs H2 => ∃ ds S2 ρ2, Ext (ρ.addx p) (upd H p (.dK [])) ρ2 H2 ∧ SR X.K X.mg ρ2 H2 S2 ∧ DRs X.K X.mg ρ2 H2 ds vs ∧ evPairs prs σd S = .ok (.tup ds) S2) := by
    have q : RQ X.K X.mg ρ H σ W ((evPairs prs σd S).bindA (dDisp own)) Q := q
    cases hr : evPairs prs σd S with
    | bad => rw [hr] at q; exact q
    | exc c fs vs S2 =>
      rw [hr] at q
      intro ρ' H' C dx fvs x1 s1 hm hd hn hf hv
      obtain ⟨s2, e2⟩ := s1.unx (x := ρ.x) (fun a ha => by rw [x1.xx]; exact List.mem_cons_of_mem _ ha)
      have x2 : Ext ρ H (ρ'.setx ρ.x) H' := ⟨(e0.trans x1.toExt0).trans e2, rfl, fun a ha => by
        rw [x1.kx a (List.mem_cons_of_mem _ ha)]
        obtain ⟨o, e, _⟩ := (sr.nx a ha).2.2.2
        exact upd_ne (ne_of_none e hp)⟩
      exact q _ H' C dx fvs x2 s2 hm hd (e2.nin _ _ hd hn) hf (hv.mono0 e2)
    | ok d S2 =>
      rw [hr] at q
      cases d with
      | tup ds => exact ⟨ds, rfl, fun ρ' H' vs x1 s1 r1 => ⟨ds, S2, ρ', x1, s1, r1, rfl⟩⟩
      | _ => exact False.elim q
  have hp0 := pairs_run prs er0 s0 hx
  refine tPairs.imp (fun q hq σ H Q Q' h i => ?_) (fun q hq σ H Q Q' h i => ?_) hp0 fun ps H2 ⟨ds, S2, ρ2, x2, s2, r2, hr⟩ => ?_
  · obtain ⟨z, _, rfl⟩ := List.mem_map.mp hq; exact xE.up h i
  · obtain ⟨z, _, rfl⟩ := List.mem_map.mp hq; exact xE.up h i
  have hH2 : H2 p = some (.dK []) := by rw [x2.kx p List.mem_cons_self]; exact upd_same
  have q : RQ X.K X.mg ρ H σ W ((evPairs prs σd S).bindA (dDisp own)) Q := q
  rw [hr] at q
  have q : RQ X.K X.mg ρ H σ W (dDisp own ds S2) Q := q
  unfold dDisp at q
  split at q
  · rename_i kds hk
    split at q
    · rename_i h15'
      obtain ⟨kvs, e1, e2, e3⟩ := pairUp_v r2 hk
      refine ⟨hH2, kvs, e1, ?_, ?_⟩
      · have := congrArg List.length e2
        rw [List.length_map, List.length_map] at this
        omega
      · obtain ⟨g1, g2⟩ := foldPut_v kvs kds [] ([], []) e2 e3 rfl .nil
        have hpx : p ∈ ρ2.x := by rw [x2.xx]; exact List.mem_cons_self
        obtain ⟨s3, e3'⟩ := s2.setx (o := .dK (mergeK [] kvs)) hpx (.inr ⟨_, rfl⟩)
        have kx : ∀ a ∈ ρ.x, upd H2 p (.dK (mergeK [] kvs)) a = H a := fun a ha => by
          obtain ⟨o, e, _⟩ := (sr.nx a ha).2.2.2
          have ne := ne_of_none e hp
          rw [upd_ne ne, x2.kx a (List.mem_cons_of_mem _ ha)]
          exact upd_ne ne
        have nd : p ∉ ρ.x := fun z => by
          obtain ⟨o, e, _⟩ := (sr.nx p z).2.2.2
          rw [hp] at e; cases e
        have xe : ρ2.x = p :: ρ.x := x2.xx
        unfold mkDk at q
        split at q
        · split at q
          · rename_i hpure
            have hpu : (Cell.dk (foldPut kds).1 (foldPut kds).2).pure = true := hpure
            have g2' := g2.mono0 e3'
            obtain ⟨s4, e4⟩ := s3.xcell (c := .dk (foldPut kds).1 (foldPut kds).2) xe nd hpu (by
              refine ⟨mergeK [] kvs, upd_same, g1, ?_⟩
              have ee : Ext0 ρ2 (upd H2 p (.dK (mergeK [] kvs))) ⟨ρ2.r ++ [p], ρ2.t, ρ2.fx, ρ.x⟩ (upd H2 p (.dK (mergeK [] kvs))) := ⟨fun _ _ h _ => h, fun a u _ n q => by
                rcases q with q | q | q | q
                · rcases List.mem_append.mp q with q | q
                  · exact n (.inl q)
                  · exact n (.inr (.inr (.inr (by rw [show a = p by simpa using q]; exact hpx))))
                · exact n (.inr (.inl q))
                · exact n (.inr (.inr (.inl q)))
                · exact n (.inr (.inr (.inr (by rw [xe]; exact List.mem_cons_of_mem _ q)))), fun _ _ h => snoc_get h, fun _ _ h => h, rfl⟩
              exact g2'.mono0 ee)
            refine q.at2 ⟨((e0.trans x2.toExt0).trans e3').trans e4, rfl, kx⟩ s4 (.ref ?_)
            show (ρ2.r ++ [p])[S2.cs.length]? = some p
            rw [← s2.lr]; exact snoc_last
          · exact False.elim q
        · obtain ⟨s4, e4⟩ := s3.unx (x := ρ.x) (fun a ha => by show a ∈ ρ2.x; rw [xe]; exact List.mem_cons_of_mem _ ha)
          refine q.at2 ⟨((e0.trans x2.toExt0).trans e3').trans e4, rfl, kx⟩ s4 (.dk (kvs := mergeK [] kvs) upd_same ?_ g1 rfl ((g2.mono0 e3').mono0 e4))
          obtain ⟨m1, m2, m3, _⟩ := s2.nx p hpx
          rintro (z | z | z | z)
          · exact m1 z
          · exact m2 z
          · obtain ⟨qq, z⟩ := z; exact m3 qq z
          · exact nd z
    · exact False.elim q
  · exact False.elim q
/-- {}, of ints and texts -/
def evDict0 (own : Bool) : Sm := fun _ S => mkDk own ([], []) S
theorem x_dict0 {own : Bool} : PE X (.Dict [] [] pos) (xE X W (evDict0 own)) := peImp pe_dnewK fun σ H Q ⟨ρ, σd, S, er, sr, q⟩ p hp => by
  unfold evDict0 mkDk at q
  split at q
  · split at q
    · obtain ⟨s2, e2⟩ := sr.addCell (c := .dk [] []) (o := .dK []) rfl hp fun ρ' H' e qq => ⟨[], qq, rfl, .nil⟩
      refine q.at2 e2 s2 (.ref ?_)
      show (ρ.r ++ [p])[S.cs.length]? = some p
      rw [← sr.lr]; exact snoc_last
    · exact False.elim q
  · exact q.new sr hp fun ρ' H' e qq n => .dk (kvs := []) qq n rfl rfl .nil
end
end Ev
end

section
set_option maxHeartbeats 4000000
namespace Ev
open PySem PySem.Spec PyProof.Rows L2
open Classical
/-- only the slots sl are new -/
def Only (sl : List Nat) (σ σ' : L2.St) : Prop := σ'.length = σ.length ∧ ∀ i, i ∉ sl → σ'[i]? = σ[i]?
abbrev Tgt := D → Env1 → Option Env1
abbrev Tgts := List D → Env1 → Option Env1
section
variable (K : PySem.W.Frag) (mg : Str → Option Value) (cv : Option CV)
def xG (T : Tgt) (sl : List Nat) : TG := fun v σ H Q => ∃ ρ σd S d σd', ER K mg cv ρ H σd σ ∧ SR K mg ρ H S ∧ DR K mg ρ H d v ∧ T d σd = some σd' ∧ ∀ σ', ER K mg cv ρ H σd' σ' → Only sl σ σ' → Q σ' H
def xGs (T : Tgts) (sl : List Nat) : TGs := fun vs σ H Q => ∃ ρ σd S ds σd', ER K mg cv ρ H σd σ ∧ SR K mg ρ H S ∧ DRs K mg ρ H ds vs ∧ T ds σd = some σd' ∧ ∀ σ', ER K mg cv ρ H σd' σ' → Only sl σ σ' → Q σ' H
end
theorem pgImp {X : Cx} {e : Expr} {t t' : TG} (h : PG X e t) (i : ∀ v σ H Q, t' v σ H Q → t v σ H Q) : PG X e t' := ⟨fun pins s σ H v u Q I r q => h.run pins s σ H v u Q I r (i v σ H Q q)⟩
theorem pgsImp {X : Cx} {e : List Expr} {t t' : TGs} (h : PGs X e t) (i : ∀ v σ H Q, t' v σ H Q → t v σ H Q) : PGs X e t' := ⟨fun pins s σ H v u Q I r q => h.run pins s σ H v u Q I r (i v σ H Q q)⟩
theorem piImp {X : Cx} {tg e : Expr} {t t' : TI} (h : PI X tg e t) (i : ∀ σ H Q, t' σ H Q → t σ H Q) : PI X tg e t' := ⟨fun pins s σ H Q I q => h.run pins s σ H Q I (i σ H Q q)⟩
def tgN (i : Nat) : Tgt := fun d σd => some (σd.set i (some d))
def tgNil : Tgts := fun ds σd => match ds with
  | [] => some σd
  | _ => none
def tgCons (T : Tgt) (Ts : Tgts) : Tgts := fun ds σd => match ds with
  | d :: r => (match T d σd with
    | some σ1 => Ts r σ1
    | none => none)
  | [] => none
def tgTup (n : Nat) (Ts : Tgts) : Tgt := fun d σd => match d with
  | .tup xs => if xs.length = n then Ts xs σd else none
  | _ => none
theorem ER.set {K : PySem.W.Frag} {mg : Str → Option Value} {cv : Option CV} {ρ : Adr} {H : Hp} {σd : Env1} {σ : L2.St} {d : D} {v : V} (er : ER K mg cv ρ H σd σ) (r : DR K mg ρ H d v) (i : Nat) : ER K mg cv ρ H (σd.set i (some d)) (σ.set i (some v)) :=
  ⟨by rw [List.length_set, List.length_set, er.len], er.cc, fun j d' h => by
    by_cases hj : i = j
    · subst hj
      have hl : i < σd.length := by
        have := (List.getElem?_eq_some_iff.mp h).1
        rwa [List.length_set] at this
      rw [List.getElem?_set_self hl] at h
      cases h
      exact ⟨v, List.getElem?_set_self (by rw [← er.len]; exact hl), r⟩
    · rw [List.getElem?_set_ne hj] at h
      obtain ⟨v', h1, h2⟩ := er.at_ j d' h
      exact ⟨v', by rw [List.getElem?_set_ne hj]; exact h1, h2⟩⟩
section
variable {X : Cx} {cv : Option CV} {pos : Pos}
theorem g_name {i : Nat} {x : Str} (hN : X.N.Nodup) (hi : X.N[i]? = some x) (hx : Loc X.env.scope x) (hf : X.fn x = true ∨ X.env.scope.names.lookup x = some .local := by first | exact .inl rfl | exact .inr rfl | assumption) : PG X (.Name x pos) (xG X.K X.mg cv (tgN i) [i]) :=
  pgImp (pg_name hN hi hx hf) fun v σ H Q ⟨ρ, σd, S, d, σd', er, sr, r, ht, q⟩ => by
    cases ht
    exact q _ (er.set r i) ⟨by rw [List.length_set], fun j hj => List.getElem?_set_ne (fun e => hj (by rw [e]; exact List.mem_singleton.mpr rfl))⟩
theorem g_nil : PGs X [] (xGs X.K X.mg cv tgNil []) := pgsImp pgs_nil fun v σ H Q ⟨ρ, σd, S, d, σd', er, sr, r, ht, q⟩ => by
  cases r with
  | nil =>
    cases ht
    exact ⟨rfl, q σ er ⟨rfl, fun _ _ => rfl⟩⟩
  | cons a b => cases ht
theorem g_cons {e : Expr} {es : List Expr} {T : Tgt} {Ts : Tgts} {sl sl2 : List Nat} (h1 : PG X e (xG X.K X.mg cv T sl)) (h2 : PGs X es (xGs X.K X.mg cv Ts sl2)) (hs : (assignEach (e :: es) X.env).map (·.2) = assign e X.env :: (assignEach es X.env).map (·.2) := by rfl) :
    PGs X (e :: es) (xGs X.K X.mg cv (tgCons T Ts) (sl ++ sl2)) := pgsImp (pgs_cons h1 h2 hs) fun v σ H Q ⟨ρ, σd, S, ds, σd', er, sr, r, ht, q⟩ => by
  cases r with
  | nil => cases ht
  | cons r1 r2 =>
    dsimp only [tgCons] at ht
    split at ht
    · rename_i σ1 h1
      exact ⟨_, _, rfl, ρ, σd, S, _, σ1, er, sr, r1, h1, fun σ' er1 o1 => ⟨ρ, σ1, S, _, σd', er1, sr, r2, ht, fun σ'' er2 o2 => q σ'' er2 ⟨o2.1.trans o1.1, fun i hi => by
        rw [List.mem_append] at hi
        rw [o2.2 i fun z => hi (.inr z), o1.2 i fun z => hi (.inl z)]⟩⟩⟩
    · cases ht
theorem g_tup {es : List Expr} {k n : Nat} {Ts : Tgts} {sl : List Nat} (hc : X.calm = true) (h : PGs X es (xGs X.K X.mg cv Ts sl)) (hn : (assignEach es X.env).length = n := by rfl) (hst : (assignEach es X.env).findIdx? (·.1) = none := by rfl) :
    PG X (.Tuple es k pos) (xG X.K X.mg cv (tgTup n Ts) sl) := pgImp (pg_tup hc h hn hst) fun v σ H Q ⟨ρ, σd, S, d, σd', er, sr, r, ht, q⟩ => by
  unfold tgTup at ht
  split at ht
  · split at ht
    · rename_i xs hl
      obtain ⟨a, vs, rfl, h1, h2⟩ := seq_tup r
      exact ⟨a, vs, rfl, h1, by rw [← h2.length]; exact hl, ρ, σd, S, xs, σd', er, sr, h2, ht, q⟩
    · cases ht
  · cases ht
end

section
variable (K : PySem.W.Frag) (mg : Str → Option Value)
structure JOk (J : It) (ρ0 : Adr) (H0 : Hp) (it : Store → Option (List D)) : Prop where
  go : ∀ ρ H S xs i d, Ext0 ρ0 H0 ρ H → SR K mg ρ H S → it S = some xs → xs[i]? = some d → J.go i H ∧ ∀ x H', J.yld i H x H' → Ext ρ H ρ H' ∧ SR K mg ρ H' S ∧ DR K mg ρ H' d x
  stop : ∀ ρ H S xs i, Ext0 ρ0 H0 ρ H → SR K mg ρ H S → it S = some xs → xs.length ≤ i → J.stop i H
def IQ (ρ : Adr) (H : Hp) (σ : L2.St) (W : WX) (r : Res) (items : D → Store → Option (List D)) (R : It → Hp → Prop) : Prop := match r with
  | .ok d S' => (items d S').isSome = true ∧ ∀ ρ' H' J, Ext ρ H ρ' H' → SR K mg ρ' H' S' → JOk K mg J ρ' H' (items d) → R J H'
  | .exc c fs vs S' => RQ K mg ρ H σ W (.exc c fs vs S') (fun _ _ => True)
  | .bad => False
end
abbrev Itms := D → Store → Option (List D)
abbrev xI (X : Cx) (W : WX) (A : Sm) (items : Itms) : TI := fun σ H R => ∃ ρ σd S, ER X.K X.mg (cvOf X) ρ H σd σ ∧ SR X.K X.mg ρ H S ∧ IQ X.K X.mg ρ H σ W (A σd S) items R
theorem IQ.run {K : PySem.W.Frag} {mg : Str → Option Value} {ρ : Adr} {H : Hp} {σ : L2.St} {W : WX} {r : Res} {items : Itms} {R : It → Hp → Prop} (h : IQ K mg ρ H σ W r items R) :
    RQ K mg ρ H σ W r (fun v H1 => ∃ d S1 ρ1, Ext ρ H ρ1 H1 ∧ SR K mg ρ1 H1 S1 ∧ DR K mg ρ1 H1 d v ∧ (items d S1).isSome = true ∧ ∀ J, JOk K mg J ρ1 H1 (items d) → R J H1) := by
  cases r with
  | ok d S => exact fun ρ' H' v x s q => ⟨d, S, ρ', x, s, q, h.1, fun J j => h.2 ρ' H' J x s j⟩
  | exc c fs vs S => exact h
  | bad => exact h
theorem jok_list {K : PySem.W.Frag} {mg : Str → Option Value} {ρ0 : Adr} {H0 : Hp} {d : D} {a : Addr} (r : DR K mg ρ0 H0 d (.ref a)) (ht : isTupD d = false) : JOk K mg (Itl K a) ρ0 H0 (seqOf d) where
  go := fun ρ H S xs i x e s h hx => by
    obtain ⟨a', vs, ea, h1, h2⟩ := seq_lst s (r.mono0 e) h ht
    cases ea
    obtain ⟨v, hv, rv⟩ := h2.get hx
    refine ⟨⟨vs, v, h1, hv⟩, fun x' H' ⟨e1, e2⟩ => ?_⟩
    subst e1
    have := e2 vs h1
    rw [hv] at this
    cases this
    exact ⟨Ext.refl, s, rv⟩
  stop := fun ρ H S xs i e s h hx => by
    obtain ⟨a', vs, ea, h1, h2⟩ := seq_lst s (r.mono0 e) h ht
    cases ea
    exact ⟨vs, h1, by rw [← h2.length]; exact hx⟩
theorem jok_tup {K : PySem.W.Frag} {mg : Str → Option Value} {ρ0 : Adr} {H0 : Hp} {ys : List D} {a : Addr} (r : DR K mg ρ0 H0 (.tup ys) (.ref a)) : JOk K mg (Itt K a) ρ0 H0 (seqOf (.tup ys)) where
  go := fun ρ H S xs i x e s h hx => by
    cases h
    obtain ⟨a', vs, ea, h1, h2⟩ := seq_tup (r.mono0 e)
    cases ea
    obtain ⟨v, hv, rv⟩ := h2.get hx
    refine ⟨⟨vs, v, h1, hv⟩, fun x' H' ⟨e1, e2⟩ => ?_⟩
    subst e1
    have := e2 vs h1
    rw [hv] at this
    cases this
    exact ⟨Ext.refl, s, rv⟩
  stop := fun ρ H S xs i e s h hx => by
    cases h
    obtain ⟨a', vs, ea, h1, h2⟩ := seq_tup (r.mono0 e)
    cases ea
    exact ⟨vs, h1, by rw [← h2.length]; exact hx⟩
section
variable {X : Cx} {W : WX} {A B : Sm} {tg e e2 : Expr} {p pos : Pos}
/-- over a list or a tuple -/
theorem it_seq (he : PE X e (xE X W A)) : PI X tg e (xI X W A seqOf) := by
  refine ⟨fun pins s σ H R I ⟨ρ, σd, S, er, sr, q⟩ => ?_⟩
  refine thn (he.run pins s σ H _ I ⟨ρ, σd, S, er, sr, q.run⟩) fun v s1 ⟨x, H1, I1, r1, d, S1, ρ1, x1, s1', r, hi, q1⟩ => ?_
  obtain ⟨xs, hxs⟩ := Option.isSome_iff_exists.mp hi
  cases ht : isTupD d with
  | true =>
    cases d with
    | tup ys =>
      cases hxs
      obtain ⟨a, vs, rfl, h1, h2⟩ := seq_tup r
      cases r1
      obtain ⟨its, rv, p, hz⟩ := I1.tuple h1
      refine wpAny_pyIter_tuple (show s1.heap.IsTuple a its.toArray from p) ?_
      refine ⟨s1.heap.objs.size, [s1.heap.objs.size], _, _, H1, rfl, I1.kept (t' := s1.toks) fun b o e => Heap.get?_push_of_some _ e, turn_tuple a _, ⟨_, Heap.get?_push_size _ rfl, rfl, rfl⟩, fun b hb => ?_, q1 _ (jok_tup r)⟩
      have e : b = s1.heap.objs.size := by simpa using hb
      subst e
      exact I1.fpOk (Nat.le_refl _) (I1.hok.fresh (Nat.le_refl _))
    | _ => cases ht
  | false =>
    obtain ⟨a, vs, rfl, h1, h2⟩ := seq_lst s1' r hxs ht
    cases r1
    obtain ⟨its, rv, p, hz⟩ := I1.list h1
    refine wpAny_pyIter_list p.isList ?_
    refine ⟨s1.heap.objs.size, [s1.heap.objs.size], _, _, H1, rfl, I1.kept (t' := s1.toks) fun b o e => Heap.get?_push_of_some _ e, turn_list a _, ⟨_, Heap.get?_push_size _ rfl, rfl, rfl⟩, fun b hb => ?_, q1 _ (jok_list r ht)⟩
    have e : b = s1.heap.objs.size := by simpa using hb
    subst e
    exact I1.fpOk (Nat.le_refl _) (I1.hok.fresh (Nat.le_refl _))
/-- ints from lo on -/
def rngL (lo : Int) (n : Nat) : List D := (List.range n).map fun (i : Nat) => D.int (lo + (i : Int))
theorem jok_rng {K : PySem.W.Frag} {mg : Str → Option Value} {ρ0 : Adr} {H0 : Hp} {lo : Int} {n : Nat} : JOk K mg (Itr lo n) ρ0 H0 (fun _ => some (rngL lo n)) where
  go := fun ρ H S xs i x e s h hx => by
    cases h
    unfold rngL at hx
    have hi : i < n := by
      have := (List.getElem?_eq_some_iff.mp hx).1
      simpa using this
    rw [List.getElem?_map, List.getElem?_range hi] at hx
    cases hx
    refine ⟨hi, fun x' H' ⟨e1, e2⟩ => ?_⟩
    subst e1 e2
    exact ⟨Ext.refl, s, .int _⟩
  stop := fun ρ H S xs i e s h hx => by
    cases h
    have : n ≤ i := by simpa [rngL] using hx
    exact this
def big62 (i : Int) : Bool := decide (-4611686018427387904 ≤ i) && decide (i < 4611686018427387904)
theorem big62_of {i : Int} (h : big62 i = true) : -(2 ^ 62) ≤ i ∧ i < 2 ^ 62 := by
  unfold big62 at h
  simp only [Bool.and_eq_true, decide_eq_true_eq] at h
  omega
def iRg1 : Itms := fun d _ => match d with
  | .tup [.int j] => if big62 j then some (rngL 0 j.toNat) else none
  | _ => none
def iRg2 : Itms := fun d _ => match d with
  | .tup [.int i, .int j] => if big62 i && big62 j then some (rngL i (j - i).toNat) else none
  | _ => none
theorem IQ.runA {ρ : Adr} {H : Hp} {σ : L2.St} {r : Res} {items : Itms} {R : It → Hp → Prop} (h : IQ X.K X.mg ρ H σ W r items R) (hi : ∀ d S, (items d S).isSome = true → ∃ ds, d = .tup ds) :
    RQA X.K X.mg ρ H σ W r (fun vs H1 => ∃ ds S1 ρ1, Ext ρ H ρ1 H1 ∧ SR X.K X.mg ρ1 H1 S1 ∧ DRs X.K X.mg ρ1 H1 ds vs ∧ (items (.tup ds) S1).isSome = true ∧ ∀ J, JOk X.K X.mg J ρ1 H1 (items (.tup ds)) → R J H1) := by
  cases r with
  | ok d S =>
    obtain ⟨ds, rfl⟩ := hi d S h.1
    exact ⟨ds, rfl, fun ρ' H' vs x s q => ⟨ds, S, ρ', x, s, q, h.1, fun J j => h.2 ρ' H' J x s j⟩⟩
  | exc c fs vs S => exact h
  | bad => exact h
theorem it_rg1 {a : Expr} {M : Sm} (ha : PA X [a] (xA X W M)) (hm : X.mg "range" = none) (hg : Gl X "range" := by rfl) (hs : starEach [a] X.env = [(false, eval a X.env)] := by rfl) : PI X tg (.Call (.Name "range" p) [a] [] pos) (xI X W M iRg1) :=
  piImp (pi_range1 hg hm ha hs) fun σ H R ⟨ρ, σd, S, er, sr, q⟩ => ⟨ρ, σd, S, er, sr, (q.runA (fun d S h => by
    unfold iRg1 at h
    split at h
    · exact ⟨_, rfl⟩
    · cases h)).mono fun vs H1 ⟨ds, S1, ρ1, x1, s1, r1, hi, q1⟩ => by
    unfold iRg1 at hi
    split at hi
    · rename_i j e
      cases e
      split at hi
      · rename_i hb
        cases r1 with
        | cons r2 r3 =>
          cases r3
          cases r2
          obtain ⟨b1, b2⟩ := big62_of hb
          refine ⟨j, rfl, b1, b2, q1 _ ?_⟩
          have e : iRg1 (.tup [.int j]) = fun _ => some (rngL 0 j.toNat) := by funext S; unfold iRg1; dsimp only; rw [if_pos hb]
          rw [e]
          exact jok_rng
      · cases hi
    · cases hi⟩
theorem it_rg2 {a b : Expr} {M : Sm} (ha : PA X [a, b] (xA X W M)) (hm : X.mg "range" = none) (hg : Gl X "range" := by rfl) (hs : starEach [a, b] X.env = [(false, eval a X.env), (false, eval b X.env)] := by rfl) (hs2 : starEach [b] X.env = [(false, eval b X.env)] := by rfl) :
    PI X tg (.Call (.Name "range" p) [a, b] [] pos) (xI X W M iRg2) :=
  piImp (pi_range2 hg hm ha hs hs2) fun σ H R ⟨ρ, σd, S, er, sr, q⟩ => ⟨ρ, σd, S, er, sr, (q.runA (fun d S h => by
    unfold iRg2 at h
    split at h
    · exact ⟨_, rfl⟩
    · cases h)).mono fun vs H1 ⟨ds, S1, ρ1, x1, s1, r1, hi, q1⟩ => by
    unfold iRg2 at hi
    split at hi
    · rename_i i j e
      cases e
      split at hi
      · rename_i hb
        obtain ⟨hb1, hb2⟩ := Bool.and_eq_true_iff.mp hb
        cases r1 with
        | cons r2 r3 =>
          cases r3 with
          | cons r3 r4 =>
            cases r4
            cases r2
            cases r3
            obtain ⟨b1, b2⟩ := big62_of hb1
            obtain ⟨b3, b4⟩ := big62_of hb2
            refine ⟨i, j, rfl, ⟨b1, b2, b3, b4⟩, q1 _ ?_⟩
            have e : iRg2 (.tup [.int i, .int j]) = fun _ => some (rngL i (j - i).toNat) := by funext S; unfold iRg2; dsimp only; rw [if_pos hb]
            rw [e]
            exact jok_rng
      · cases hi
    · cases hi⟩
end
end Ev
end

section
set_option maxHeartbeats 4000000
namespace Ev
open PySem PySem.Spec PyProof.Rows L2
open Classical
/-- the turns of a comprehension: the items that are left -/
noncomputable def lcGo (it : Store → Option (List D)) (xs : List D) (T : Tgt) (C E : Sm) (σd : Env1) : List D → Store → Res
  | [], S => if it S = some xs then .ok (.tup []) S else .bad
  | d :: r, S => if it S = some xs then (match T d σd with
    | some σ2 => (match C σ2 S with
      | .ok (.bl true) S2 => (match E σ2 S2 with
        | .ok y S3 => (match lcGo it xs T C E σd r S3 with
          | .ok (.tup ys) S4 => .ok (.tup (y :: ys)) S4
          | _ => .bad)
        | _ => .bad)
      | .ok (.bl false) S2 => lcGo it xs T C E σd r S2
      | _ => .bad)
    | none => .bad) else .bad
/-- the slots of its own names forgotten -/
def wipeD (σd : Env1) : List Nat → Env1
  | [] => σd
  | v :: vs => (wipeD σd vs).set v none
noncomputable def evLc (own : Bool) (A : Sm) (items : Itms) (T : Tgt) (C E : Sm) (vs : List Nat) : Sm := fun σd S => (A σd S).bind fun d S1 => match items d S1 with
  | some xs => (match lcGo (items d) xs T C E (wipeD σd vs) xs S1 with
    | .ok (.tup ys) S2 => mkL own ys S2
    | _ => .bad)
  | none => .bad
theorem wipeD_len (σd : Env1) : ∀ vs, (wipeD σd vs).length = σd.length
  | [] => rfl
  | v :: vs => by rw [wipeD, List.length_set, wipeD_len σd vs]
theorem wipeD_some {σd : Env1} {i : Nat} {d : D} : ∀ {vs : List Nat}, (wipeD σd vs)[i]? = some (some d) → σd[i]? = some (some d) ∧ i ∉ vs
  | [], h => ⟨h, by simp⟩
  | v :: vs, h => by
    unfold wipeD at h
    by_cases hi : v = i
    · subst hi
      by_cases hv : v < (wipeD σd vs).length
      · rw [List.getElem?_set_self hv] at h; cases h
      · rw [List.getElem?_eq_none (by simpa using hv)] at h; cases h
    · rw [List.getElem?_set_ne hi] at h
      obtain ⟨h1, h2⟩ := wipeD_some h
      exact ⟨h1, by simp only [List.mem_cons, not_or]; exact ⟨fun e => hi e.symm, h2⟩⟩
theorem wipe_at {σ : L2.St} {i : Nat} : ∀ {vs : List Nat}, i ∉ vs → (wipe σ vs)[i]? = σ[i]?
  | [], _ => rfl
  | v :: vs, h => by
    unfold wipe
    rw [List.getElem?_set_ne fun e => h (by rw [e]; exact List.mem_cons_self), wipe_at fun z => h (List.mem_cons_of_mem _ z)]
theorem wipe_in {σ : L2.St} {i : Nat} : ∀ {vs : List Nat}, i ∈ vs → i < σ.length → (wipe σ vs)[i]? = some none
  | v :: vs, h, hl => by
    unfold wipe
    by_cases e : v = i
    · subst e
      exact List.getElem?_set_self (by rw [wipe_length]; exact hl)
    · rw [List.getElem?_set_ne e]
      exact wipe_in ((List.mem_cons.mp h).resolve_left fun z => e z.symm) hl
theorem wipe_only {σ σ' : L2.St} {sl vs : List Nat} (o : Only sl (wipe σ vs) σ') (hs : ∀ i ∈ sl, i ∈ vs) : wipe σ' vs = wipe σ vs := by
  apply List.ext_getElem?
  intro i
  by_cases hi : i ∈ vs
  · by_cases hl : i < σ.length
    · rw [wipe_in hi hl, wipe_in hi (by rw [o.1, wipe_length]; exact hl)]
    · rw [List.getElem?_eq_none (by rw [wipe_length, o.1, wipe_length]; omega), List.getElem?_eq_none (by rw [wipe_length]; omega)]
  · rw [wipe_at hi, o.2 i fun z => hi (hs i z)]
theorem ER.wipe {K : PySem.W.Frag} {mg : Str → Option Value} {cv : Option CV} {ρ : Adr} {H : Hp} {σd : Env1} {σ : L2.St} (er : ER K mg cv ρ H σd σ) (vs : List Nat) : ER K mg none ρ H (wipeD σd vs) (wipe σ vs) :=
  ⟨by rw [wipeD_len, wipe_length, er.len], (fun _ _ _ h => by cases h), fun i d h => by
    obtain ⟨h1, h2⟩ := wipeD_some h
    obtain ⟨v, h3, h4⟩ := er.at_ i d h1
    exact ⟨v, by rw [wipe_at h2]; exact h3, h4⟩⟩
theorem cv_blk {X : Cx} {s : Shared} {H : Hp} {scope : Scope} {cenv : Env} {fp : List Addr} : cvOf (X.blk s H scope cenv fp) = none := by
  unfold cvOf
  rw [if_neg (by show ¬ X.stack.length = X.stack.length + 1; omega)]
section
variable {X : Cx} {W : WX} {C : Sm} {c : Expr}
theorem ptsImp {ifs : List Expr} {t t' : TT} (h : PTs X ifs t) (i : ∀ σ H Q, t' σ H Q → t σ H Q) : PTs X ifs t' := ⟨fun pins s σ H Q I q => h.run pins s σ H Q I (i σ H Q q)⟩
theorem ts_nil : PTs X [] (xT X W (evC (.bl true))) := ptsImp pts_nil fun σ H Q ⟨ρ, σd, S, er, sr, q⟩ => by
  obtain ⟨k, e, q⟩ := RQ.here q sr (.bl true)
  cases e
  exact q
theorem ts_one (h : PT X c (xT X W C)) : PTs X [c] (xT X W C) := pts_one h
end
/-- nothing may be raised -/
abbrev W0 : WX := fun _ _ _ _ => False
theorem lcT {X : Cx} {W : WX} {A : Sm} {items : Itms} {T : Tgt} {C E : Sm} {own : Bool} {vs sl : List Nat} (hsl : ∀ i ∈ sl, i ∈ vs) {σ : L2.St} {H : Hp} {Q : V → Hp → Prop} (hq : xE X W (evLc own A items T C E vs) σ H Q) :
    tLc (xI X W A items) (xG X.K X.mg none T sl) (fun σ H Q => tE X.K X.mg none W0 C σ H fun x H' => ∃ k, x = .bl k ∧ Q k H') (tE X.K X.mg none W0 E) vs σ H Q := by
  obtain ⟨ρ, σd, S, er, sr, q⟩ := hq
  refine ⟨ρ, σd, S, er, sr, ?_⟩
  have q : RQ X.K X.mg ρ H σ W ((A σd S).bind fun d S1 => match items d S1 with
    | some xs => (match lcGo (items d) xs T C E (wipeD σd vs) xs S1 with
      | .ok (.tup ys) S2 => mkL own ys S2
      | _ => .bad)
    | none => .bad) Q := q
  cases hA : A σd S with
  | bad => rw [hA] at q; exact q
  | exc c fs ws S1 => rw [hA] at q; exact q
  | ok d S1 =>
    rw [hA] at q
    simp only [Res.bind] at q
    cases hx : items d S1 with
    | none => rw [hx] at q; exact False.elim q
    | some xs =>
      rw [hx] at q
      simp only at q
      cases hgo : lcGo (items d) xs T C E (wipeD σd vs) xs S1 with
      | bad => rw [hgo] at q; exact False.elim q
      | exc c fs ws S2 => rw [hgo] at q; exact False.elim q
      | ok dt Sf =>
        rw [hgo] at q
        cases dt with
        | tup ys =>
          simp only at q
          refine ⟨by rw [hx]; rfl, fun ρ1 H1 J x1 s1 jk p hp => ?_⟩
          -- within
          let Wv : Nat → Nat → Hp → Prop := fun i m H2 => m = xs.length - i ∧ i ≤ xs.length ∧ ∃ ρ2 S2 acc accV ys', SR X.K X.mg ρ2 H2 S2 ∧ Ext0 ρ1 H1 ρ2 H2 ∧ ρ2.x = p :: ρ1.x ∧ (∀ a ∈ ρ1.x, H2 a = H1 a) ∧ H2 p = some (.lst accV) ∧ DRs X.K X.mg ρ2 H2 acc accV ∧
            lcGo (items d) xs T C E (wipeD σd vs) (xs.drop i) S2 = .ok (.tup ys') Sf ∧ acc ++ ys' = ys
          have hlen : ys.length ≤ 16777216 := by
            unfold mkL at q
            split at q
            · assumption
            · exact False.elim q
          have nd : p ∉ ρ1.x := fun z => by
            obtain ⟨o, e, _⟩ := (s1.nx p z).2.2.2
            rw [hp] at e; cases e
          refine ⟨Wv, ⟨xs.length, by simp, Nat.zero_le _, ?_⟩, ?_⟩
          · obtain ⟨s2, e2⟩ := s1.addx (o := .lst []) hp (.inl ⟨_, rfl⟩)
            exact ⟨ρ1.addx p, S1, [], [], ys, s2, e2, rfl, fun a ha => by
              obtain ⟨o, e, _⟩ := (s1.nx a ha).2.2.2
              exact upd_ne (ne_of_none e hp), upd_same, .nil, by rw [List.drop_zero]; exact hgo, rfl⟩
          · rintro i m H2 ⟨rfl, hile, ρ2, S2, acc, accV, ys', s2, e2, hx2, kx, hHp, racc, hg2, hys⟩
            by_cases hlt : i < xs.length
            · -- one more turn
              have hxi : xs[i]? = some xs[i] := List.getElem?_eq_getElem hlt
              have hdrop : xs.drop i = xs[i] :: xs.drop (i + 1) := List.drop_eq_getElem_cons hlt
              rw [hdrop] at hg2
              unfold lcGo at hg2
              split at hg2
              · rename_i hit
                obtain ⟨jgo, jy⟩ := jk.go ρ2 H2 S2 xs i xs[i] e2 s2 hit hxi
                refine .inr ⟨jgo, fun H' => Wv (i + 1) (xs.length - (i + 1)) H', fun H' w => ⟨_, by omega, w⟩, fun x H' y => ?_⟩
                obtain ⟨x3, s3, r3⟩ := jy x H' y
                split at hg2
                · rename_i σ2 hT
                  refine ⟨ρ2, wipeD σd vs, S2, xs[i], σ2, ((er.mono0 (x1.toExt0.trans (e2.trans x3.toExt0))).wipe vs), s3, r3, hT, fun σ' er' o' => ⟨wipe_only o' hsl, ρ2, σ2, S2, er', s3, ?_⟩⟩
                  split at hg2
                  · rename_i S3 hC
                    rw [hC]
                    refine fun ρ4 H4 v4 x4 s4 r4 => ?_
                    cases r4
                    refine ⟨true, rfl, iteT ⟨ρ4, σ2, S3, er'.mono x4, s4, ?_⟩⟩
                    split at hg2
                    · rename_i y4 S4 hE
                      rw [hE]
                      refine fun ρ5 H5 v5 x5 s5 r5 => ?_
                      have hpx : p ∈ ρ2.x := by rw [hx2]; exact List.mem_cons_self
                      have xx5 : ρ5.x = p :: ρ1.x := by rw [x5.xx, x4.xx, x3.xx, hx2]
                      have hH5 : H5 p = some (.lst accV) := by
                        rw [x5.kx p (by rw [x4.xx, x3.xx]; exact hpx), x4.kx p (by rw [x3.xx]; exact hpx), x3.kx p hpx]
                        exact hHp
                      have racc5 := ((racc.mono x3).mono x4).mono x5
                      split at hg2
                      · rename_i ys2 S5 hgo2
                        cases hg2
                        refine ⟨accV, hH5, ?_, rfl, hlt, ?_⟩
                        · have : acc.length < ys.length := by rw [← hys, List.length_append, List.length_cons]; omega
                          rw [← racc.length, sizeLine_eq]; omega
                        · obtain ⟨s6, e6⟩ := s5.setx (p := p) (o := .lst (accV ++ [v5])) (by rw [xx5]; exact List.mem_cons_self) (.inl ⟨_, rfl⟩)
                          refine ⟨ρ5, S4, acc ++ [y4], accV ++ [v5], ys2, s6, (((e2.trans x3.toExt0).trans x4.toExt0).trans x5.toExt0).trans e6, xx5, fun a ha => ?_, upd_same, (racc5.append (.cons r5 .nil)).mono0 e6, hgo2, by rw [← hys, List.append_assoc]; rfl⟩
                          have hane : a ≠ p := fun z => nd (by rw [← z]; exact ha)
                          have hax : a ∈ ρ2.x := by rw [hx2]; exact List.mem_cons_of_mem _ ha
                          rw [upd_ne hane, x5.kx a (by rw [x4.xx, x3.xx]; exact hax), x4.kx a (by rw [x3.xx]; exact hax), x3.kx a hax]
                          exact kx a ha
                      · cases hg2
                    · cases hg2
                  · rename_i S3 hC
                    rw [hC]
                    refine fun ρ4 H4 v4 x4 s4 r4 => ?_
                    cases r4
                    refine ⟨false, rfl, ?_⟩
                    refine iteF ?_
                    have hpx : p ∈ ρ2.x := by rw [hx2]; exact List.mem_cons_self
                    refine ⟨rfl, hlt, ρ4, S3, acc, accV, ys', s4, (e2.trans x3.toExt0).trans x4.toExt0, by rw [x4.xx, x3.xx, hx2], fun a ha => ?_, ?_, (racc.mono x3).mono x4, hg2, hys⟩
                    · have hax : a ∈ ρ2.x := by rw [hx2]; exact List.mem_cons_of_mem _ ha
                      rw [x4.kx a (by rw [x3.xx]; exact hax), x3.kx a hax]
                      exact kx a ha
                    · rw [x4.kx p (by rw [x3.xx]; exact hpx), x3.kx p hpx]
                      exact hHp
                  · cases hg2
                · cases hg2
              · cases hg2
            · -- the end
              have hie : i = xs.length := by omega
              subst hie
              rw [List.drop_length] at hg2
              unfold lcGo at hg2
              split at hg2
              · rename_i hit
                cases hg2
                rw [List.append_nil] at hys
                subst hys
                refine .inl ⟨jk.stop ρ2 H2 Sf xs _ e2 s2 hit (Nat.le_refl _), ?_⟩
                unfold mkL at q
                rw [if_pos hlen] at q
                split at q
                · split at q
                  · rename_i hpu
                    have hpx : p ∈ ρ2.x := by rw [hx2]; exact List.mem_cons_self
                    have hpc : (Cell.lst acc).pure = true := hpu
                    have ee : Ext0 ρ2 H2 ⟨ρ2.r ++ [p], ρ2.t, ρ2.fx, ρ1.x⟩ H2 := ⟨fun _ _ h _ => h, fun a u _ n q => by
                      rcases q with q | q | q | q
                      · rcases List.mem_append.mp q with q | q
                        · exact n (.inl q)
                        · exact n (.inr (.inr (.inr (by rw [show a = p by simpa using q]; exact hpx))))
                      · exact n (.inr (.inl q))
                      · exact n (.inr (.inr (.inl q)))
                      · exact n (.inr (.inr (.inr (by rw [hx2]; exact List.mem_cons_of_mem _ q)))), fun _ _ h => snoc_get h, fun _ _ h => h, rfl⟩
                    obtain ⟨s4, e4⟩ := s2.xcell (c := .lst acc) hx2 nd hpc ⟨accV, hHp, racc.mono0 ee⟩
                    have xt : Ext ρ1 H1 ⟨ρ2.r ++ [p], ρ2.t, ρ2.fx, ρ1.x⟩ H2 := ⟨e2.trans e4, rfl, kx⟩
                    refine q.at2 (x1.trans xt) s4 (.ref ?_)
                    show (ρ2.r ++ [p])[Sf.cs.length]? = some p
                    rw [← s2.lr]; exact snoc_last
                  · exact False.elim q
                · obtain ⟨s4, e4⟩ := s2.unx (x := ρ1.x) (fun a ha => by rw [hx2]; exact List.mem_cons_of_mem _ ha)
                  have xt : Ext ρ1 H1 (ρ2.setx ρ1.x) H2 := ⟨e2.trans e4, rfl, kx⟩
                  refine q.at2 (x1.trans xt) s4 (.lst hHp ?_ (racc.mono0 e4))
                  obtain ⟨m1, m2, m3, _⟩ := s2.nx p (by rw [hx2]; exact List.mem_cons_self)
                  rintro (z | z | z | z)
                  · exact m1 z
                  · exact m2 z
                  · obtain ⟨qq, z⟩ := z; exact m3 qq z
                  · exact nd z
              · cases hg2
        | _ => exact False.elim q
theorem x_lc {X : Cx} {W : WX} {A : Sm} {items : Itms} {T : Tgt} {C E : Sm} {own : Bool} {elt tg iter : Expr} {ifs : List Expr} {scope : Scope} {onames : List (Str × Nat)} {sl : List Nat} {pos : Pos} (cn : Cn X) (hN : X.N.Nodup) (hi : PI X tg iter (xI X W A items)) (ok : BlkOk X.N X.env.scope scope onames)
    (hsl : ∀ i ∈ sl, i ∈ onames.map (·.2))
    (hg : ∀ (s : Shared) (H : Hp) (C : Addr) (cl : List (Str × Addr)) (fp : List Addr), PG (X.blk s H scope (compEnvC scope cl C X.env) fp) tg (xG X.K X.mg none T sl))
    (ht : ∀ (s : Shared) (H : Hp) (A : Addr) (cl : List (Str × Addr)) (fp : List Addr), PTs (X.blk s H scope (compEnvC scope cl A X.env) fp) ifs (xT (X.blk s H scope (compEnvC scope cl A X.env) fp) W0 C))
    (he : ∀ (s : Shared) (H : Hp) (C : Addr) (cl : List (Str × Addr)) (fp : List Addr), PE (X.blk s H scope (compEnvC scope cl C X.env) fp) elt (xE (X.blk s H scope (compEnvC scope cl C X.env) fp) W0 E))
    (hs : ∀ x, foldedSetIterable iter X.env x = pure x := by intro _; rfl) :
    PE X (.ListComp elt [⟨tg, iter, ifs, 0⟩] scope pos) (xE X W (evLc own A items T C E (onames.map (·.2)))) := by
  have ht' : ∀ (s : Shared) (H : Hp) (A : Addr) (cl : List (Str × Addr)) (fp : List Addr), PTs (X.blk s H scope (compEnvC scope cl A X.env) fp) ifs (fun σ H Q => tE X.K X.mg none W0 C σ H fun x H' => ∃ k, x = .bl k ∧ Q k H') := fun s H A cl fp => by
    have := ht s H A cl fp
    unfold xT xE at this
    rw [cv_blk] at this
    exact this
  have he' : ∀ (s : Shared) (H : Hp) (C : Addr) (cl : List (Str × Addr)) (fp : List Addr), PE (X.blk s H scope (compEnvC scope cl C X.env) fp) elt (tE X.K X.mg none W0 E) := fun s H A cl fp => by
    have := he s H A cl fp
    unfold xE at this
    rw [cv_blk] at this
    exact this
  exact peImp (pe_lc cn.calm hN hi ok hg ht' he' hs) fun σ H Q q => lcT hsl q
end Ev
end

section
set_option maxHeartbeats 4000000
namespace Ev
open PySem PySem.Spec PyProof.Rows L2
open Classical
/-- what a statement comes to -/
inductive SRes where
  | nx (σ : Env1) (S : Store)
  | bk (σ : Env1) (S : Store)
  | ct (σ : Env1) (S : Store)
  | rt (d : D) (S : Store)
  | exc (c : Str) (fs : List Str) (vs : List D) (σ : Env1) (S : Store)
  | bad
  deriving Inhabited
abbrev Sst := Env1 → Store → SRes
section
variable (K : PySem.W.Frag) (mg : Str → Option Value) (cv : Option CV)
def SQ (ρ : Adr) (H : Hp) (W : WX) (r : SRes) (Z : Ends) : Prop := match r with
  | .nx σd S => ∀ ρ' H' σ, Ext ρ H ρ' H' → SR K mg ρ' H' S → ER K mg cv ρ' H' σd σ → Z.nx σ H'
  | .bk σd S => ∀ ρ' H' σ, Ext ρ H ρ' H' → SR K mg ρ' H' S → ER K mg cv ρ' H' σd σ → Z.bk σ H'
  | .ct σd S => ∀ ρ' H' σ, Ext ρ H ρ' H' → SR K mg ρ' H' S → ER K mg cv ρ' H' σd σ → Z.ct σ H'
  | .rt d S => ∀ ρ' H' v, Ext ρ H ρ' H' → SR K mg ρ' H' S → DR K mg ρ' H' d v → Z.rt v H'
  | .exc c fs vs σd S => ∀ ρ' H' C dx fvs σ, Ext ρ H ρ' H' → SR K mg ρ' H' S → ER K mg cv ρ' H' σd σ → mg c = some (.ref C) → H' dx = some (.xd fvs) → ¬ ρ'.has dx → fvs.map (·.1) = fs → DRs K mg ρ' H' vs (fvs.map (·.2)) → W (.ref C) (some dx) σ H'
  | .bad => False
def tS (W : WX) (M : Sst) : TS := fun Z σ H => ∃ ρ σd S, ER K mg cv ρ H σd σ ∧ SR K mg ρ H S ∧ SQ K mg cv ρ H W (M σd S) Z
end
abbrev xS (X : Cx) (W : WX) (M : Sst) : TS := tS X.K X.mg (cvOf X) W M
theorem psImp {X : Cx} {st : Stmt} {t t' : TS} (h : PS X st t) (i : ∀ Z σ H, t' Z σ H → t Z σ H) : PS X st t' := ⟨fun pins s σ H Z I q => h.run pins s σ H Z I (i Z σ H q)⟩
theorem pssImp {X : Cx} {st : List Stmt} {t t' : TS} (h : PSs X st t) (i : ∀ Z σ H, t' Z σ H → t Z σ H) : PSs X st t' := ⟨fun pins s σ H Z I q => h.run pins s σ H Z I (i Z σ H q)⟩
section
variable {K : PySem.W.Frag} {mg : Str → Option Value} {cv : Option CV} {ρ ρ' : Adr} {H H' : Hp} {W : WX} {σd : Env1} {S : Store}
theorem SQ.ext {r : SRes} {Z : Ends} (e : Ext ρ H ρ' H') (h : SQ K mg cv ρ H W r Z) : SQ K mg cv ρ' H' W r Z := by
  cases r with
  | nx σd S => exact fun ρ2 H2 σ e2 s2 r2 => h ρ2 H2 σ (e.trans e2) s2 r2
  | bk σd S => exact fun ρ2 H2 σ e2 s2 r2 => h ρ2 H2 σ (e.trans e2) s2 r2
  | ct σd S => exact fun ρ2 H2 σ e2 s2 r2 => h ρ2 H2 σ (e.trans e2) s2 r2
  | rt d S => exact fun ρ2 H2 σ e2 s2 r2 => h ρ2 H2 σ (e.trans e2) s2 r2
  | exc c fs vs σd S => exact fun ρ2 H2 C dx fvs σ e2 => h ρ2 H2 C dx fvs σ (e.trans e2)
  | bad => exact h
/-- an evaluation, then a statement's end -/
def Res.go (r : Res) (σd : Env1) (k : D → Store → SRes) : SRes := match r with
  | .ok d S => k d S
  | .exc c fs vs S => .exc c fs vs σd S
  | .bad => .bad
theorem SQ.go {r : Res} {σ : L2.St} {k : D → Store → SRes} {Z : Ends} (er : ER K mg cv ρ H σd σ) (h : SQ K mg cv ρ H W (r.go σd k) Z) :
    RQ K mg ρ H σ W r (fun v H1 => ∃ d S1 ρ1, r = .ok d S1 ∧ Ext ρ H ρ1 H1 ∧ SR K mg ρ1 H1 S1 ∧ DR K mg ρ1 H1 d v ∧ ER K mg cv ρ1 H1 σd σ ∧ SQ K mg cv ρ1 H1 W (k d S1) Z) := by
  cases r with
  | ok d S => exact fun ρ' H' v e s r => ⟨d, S, ρ', rfl, e, s, r, er.mono e, h.ext e⟩
  | exc c fs vs S => exact fun ρ' H' C dx fvs e s hm hd hn hf hv => h ρ' H' C dx fvs σ e s (er.mono e) hm hd hn hf hv
  | bad => exact h
theorem SQ.nxt {σ : L2.St} {Z : Ends} (h : SQ K mg cv ρ H W (.nx σd S) Z) (s : SR K mg ρ H S) (er : ER K mg cv ρ H σd σ) : Z.nx σ H := h ρ H σ Ext.refl s er
theorem SQ.nx2 {σ : L2.St} {Z : Ends} (h : SQ K mg cv ρ H W (.nx σd S) Z) (e : Ext ρ H ρ' H') (s : SR K mg ρ' H' S) (er : ER K mg cv ρ' H' σd σ) : Z.nx σ H' := h ρ' H' σ e s er
end
section
variable {X : Cx} {W : WX} {A B C : Sm} {M N : Sst} {e a b c : Expr} {st : Stmt} {rest : List Stmt} {pos : Pos}
def sNil : Sst := fun σd S => .nx σd S
def sSeq (M N : Sst) : Sst := fun σd S => match M σd S with
  | .nx σ1 S1 => N σ1 S1
  | r => r
theorem s_nil : PSs X [] (xS X W sNil) := pssImp pss_nil fun Z σ H ⟨ρ, σd, S, er, sr, q⟩ => q.nxt sr er
theorem s_cons (h1 : PS X st (xS X W M)) (h2 : PSs X rest (xS X W N)) : PSs X (st :: rest) (xS X W (sSeq M N)) := pssImp (pss_cons h1 h2) fun Z σ H ⟨ρ, σd, S, er, sr, q⟩ => ⟨ρ, σd, S, er, sr, by
  dsimp only [sSeq] at q
  cases hM : M σd S with
  | nx σ1 S1 =>
    rw [hM] at q
    exact fun ρ' H' σ' e s r => ⟨ρ', σ1, S1, r, s, q.ext e⟩
  | bk σ1 S1 => rw [hM] at q; exact q
  | ct σ1 S1 => rw [hM] at q; exact q
  | rt d S1 => rw [hM] at q; exact q
  | exc c fs vs σ1 S1 => rw [hM] at q; exact q
  | bad => rw [hM] at q; exact q⟩
theorem s_one (h1 : PS X st (xS X W M)) : PSs X [st] (xS X W M) := pss_one h1
def sPass : Sst := fun σd S => .nx σd S
def sBreak : Sst := fun σd S => .bk σd S
def sCont : Sst := fun σd S => .ct σd S
theorem s_pass : PS X (.Pass pos) (xS X W sPass) := psImp ps_pass fun Z σ H ⟨ρ, σd, S, er, sr, q⟩ => q.nxt sr er
theorem s_break : PS X (.Break pos) (xS X W sBreak) := psImp ps_break fun Z σ H ⟨ρ, σd, S, er, sr, q⟩ => q ρ H σ Ext.refl sr er
theorem s_continue : PS X (.Continue pos) (xS X W sCont) := psImp ps_continue fun Z σ H ⟨ρ, σd, S, er, sr, q⟩ => q ρ H σ Ext.refl sr er
def sExpr (A : Sm) : Sst := fun σd S => (A σd S).go σd fun _ S1 => .nx σd S1
theorem s_expr (he : PE X e (xE X W A)) (hs : swapsWith e none pos.line X.env = pure false := by rfl) : PS X (.Expr e pos) (xS X W (sExpr A)) := psImp (ps_expr he hs) fun Z σ H ⟨ρ, σd, S, er, sr, q⟩ =>
  ⟨ρ, σd, S, er, sr, (SQ.go er q).mono fun v H1 ⟨d, S1, ρ1, _, x1, s1, r1, er1, q1⟩ => q1.nxt s1 er1⟩
def sRet (A : Sm) : Sst := fun σd S => (A σd S).go σd fun d S1 => .rt d S1
theorem s_ret (he : PE X e (xE X W A)) : PS X (.Return (some e) pos) (xS X W (sRet A)) := psImp (ps_ret he) fun Z σ H ⟨ρ, σd, S, er, sr, q⟩ =>
  ⟨ρ, σd, S, er, sr, (SQ.go er q).mono fun v H1 ⟨d, S1, ρ1, _, x1, s1, r1, er1, q1⟩ => q1 ρ1 H1 v Ext.refl s1 r1⟩
def sRetN : Sst := fun _ S => .rt .non S
theorem s_retN : PS X (.Return none pos) (xS X W sRetN) := psImp ps_retN fun Z σ H ⟨ρ, σd, S, er, sr, q⟩ => q ρ H .non Ext.refl sr .non
def sIf (C : Sm) (M N : Sst) : Sst := fun σd S => (C σd S).go σd fun d S1 => match d with
  | .bl true => M σd S1
  | .bl false => N σd S1
  | _ => .bad
theorem s_if {p q : List Stmt} (hc : PT X c (xT X W C)) (ha : PSs X p (xS X W M)) (hb : PSs X q (xS X W N)) : PS X (.If c p q pos) (xS X W (sIf C M N)) := psImp (ps_if hc ha hb) fun Z σ H ⟨ρ, σd, S, er, sr, q⟩ =>
  ⟨ρ, σd, S, er, sr, (SQ.go er q).mono fun v H1 ⟨d, S1, ρ1, _, x1, s1, r1, er1, q1⟩ => by
    split at q1
    · cases r1
      exact ⟨true, rfl, iteT ⟨ρ1, σd, S1, er1, s1, q1⟩⟩
    · cases r1
      exact ⟨false, rfl, iteF ⟨ρ1, σd, S1, er1, s1, q1⟩⟩
    · exact False.elim q1⟩
/-- name = e -/
def sSet (i : Nat) (A : Sm) : Sst := fun σd S => (A σd S).go σd fun d S1 => .nx (σd.set i (some d)) S1
theorem s_set {i : Nat} {x : Str} {pos' : Pos} (hN : X.N.Nodup) (hi : X.N[i]? = some x) (hx : Loc X.env.scope x) (he : PE X e (xE X W A)) (hs : swapsWith e (some (.Name x pos')) pos.line X.env = pure false := by rfl) (hf : X.fn x = true ∨ X.env.scope.names.lookup x = some .local := by first | exact .inl rfl | exact .inr rfl | assumption) :
    PS X (.Assign [.Name x pos'] e pos) (xS X W (sSet i A)) := psImp (ps_set hN hi hx he hs hf) fun Z σ H ⟨ρ, σd, S, er, sr, q⟩ =>
  ⟨ρ, σd, S, er, sr, (SQ.go er q).mono fun v H1 ⟨d, S1, ρ1, _, x1, s1, r1, er1, q1⟩ => q1.nxt s1 (er1.set r1 i)⟩
/-- name = [..] on one line, the name a local -/
theorem s_setLc {A : Sm} {items : Itms} {T : Tgt} {C E : Sm} {own : Bool} {elt tg iter : Expr} {ifs : List Expr} {scope : Scope} {onames : List (Str × Nat)} {sl : List Nat} {cpos py : Pos} {i : Nat} {y : Str} (hy : X.N[i]? = some y) (hyl : X.env.scope.names.lookup y = some .local) (cn : Cn X) (hN : X.N.Nodup) (hi : PI X tg iter (xI X W A items)) (ok : BlkOk X.N X.env.scope scope onames)
    (hsl : ∀ i ∈ sl, i ∈ onames.map (·.2))
    (hg : ∀ (s : Shared) (H : Hp) (C : Addr) (cl : List (Str × Addr)) (fp : List Addr), PG (X.blk s H scope (compEnvC scope cl C X.env) fp) tg (xG X.K X.mg none T sl))
    (ht : ∀ (s : Shared) (H : Hp) (A : Addr) (cl : List (Str × Addr)) (fp : List Addr), PTs (X.blk s H scope (compEnvC scope cl A X.env) fp) ifs (xT (X.blk s H scope (compEnvC scope cl A X.env) fp) W0 C))
    (he : ∀ (s : Shared) (H : Hp) (C : Addr) (cl : List (Str × Addr)) (fp : List Addr), PE (X.blk s H scope (compEnvC scope cl C X.env) fp) elt (xE (X.blk s H scope (compEnvC scope cl C X.env) fp) W0 E))
    (hs : ∀ x, foldedSetIterable iter X.env x = pure x := by intro _; rfl) (hsw : swapsWith (.ListComp elt [⟨tg, iter, ifs, 0⟩] scope cpos) (some (.Name y py)) pos.line X.env = pure true := by rfl) :
    PS X (.Assign [.Name y py] (.ListComp elt [⟨tg, iter, ifs, 0⟩] scope cpos) pos) (xS X W (sSet i (evLc own A items T C E (onames.map (·.2))))) := by
  have ht' : ∀ (s : Shared) (H : Hp) (A : Addr) (cl : List (Str × Addr)) (fp : List Addr), PTs (X.blk s H scope (compEnvC scope cl A X.env) fp) ifs (fun σ H Q => tE X.K X.mg none W0 C σ H fun x H' => ∃ k, x = .bl k ∧ Q k H') := fun s H A cl fp => by
    have := ht s H A cl fp
    unfold xT xE at this
    rw [cv_blk] at this
    exact this
  have he' : ∀ (s : Shared) (H : Hp) (C : Addr) (cl : List (Str × Addr)) (fp : List Addr), PE (X.blk s H scope (compEnvC scope cl C X.env) fp) elt (tE X.K X.mg none W0 E) := fun s H A cl fp => by
    have := he s H A cl fp
    unfold xE at this
    rw [cv_blk] at this
    exact this
  exact psImp (ps_setLc cn.calm hN hy hyl hsw hi ok hg ht' he' hs) fun Z σ H ⟨ρ, σd, S, er, sr, q⟩ =>
    lcT hsl ⟨ρ, σd, S, er, sr, (SQ.go er q).mono fun v H1 ⟨d, S1, ρ1, _, x1, s1, r1, er1, q1⟩ => q1.nxt s1 (er1.set r1 i)⟩
/-- target = e -/
def sAsg (T : Tgt) (A : Sm) : Sst := fun σd S => (A σd S).go σd fun d S1 => match T d σd with
  | some σ1 => .nx σ1 S1
  | none => .bad
theorem s_asg {tg : Expr} {T : Tgt} {sl : List Nat} (he : PE X e (xE X W A)) (hg : PG X tg (xG X.K X.mg (cvOf X) T sl)) (hs : swapsWithSole [tg] e pos.line X.env = pure false := by rfl) (hw : swappedStores [tg] e X.env = pure none := by rfl)
    (h1 : (assignEach [tg] X.env).map (·.2) = [assign tg X.env] := by rfl) : PS X (.Assign [tg] e pos) (xS X W (sAsg T A)) := psImp (ps_asg he hg hs hw h1) fun Z σ H ⟨ρ, σd, S, er, sr, q⟩ =>
  ⟨ρ, σd, S, er, sr, (SQ.go er q).mono fun v H1 ⟨d, S1, ρ1, _, x1, s1, r1, er1, q1⟩ => by
    split at q1
    · exact ⟨ρ1, σd, S1, d, _, er1, s1, r1, by assumption, fun σ' er' _ => q1.nxt s1 er'⟩
    · exact False.elim q1⟩
/-- a, b = x, y -/
def sPar (is : List Nat) (M : Sm) : Sst := fun σd S => (M σd S).go σd fun d S1 => match d, is with
  | .tup [x, y], [i, j] => .nx ((σd.set i (some x)).set j (some y)) S1
  | .tup [x, y, z], [i, j, k] => .nx (((σd.set i (some x)).set j (some y)).set k (some z)) S1
  | _, _ => .bad
theorem SQ.goA {ρ : Adr} {H : Hp} {σd : Env1} {σ : L2.St} {r : Res} {k : List D → Store → SRes} {Z : Ends} (er : ER X.K X.mg (cvOf X) ρ H σd σ) (h : SQ X.K X.mg (cvOf X) ρ H W (r.go σd fun d S1 => match d with | .tup ds => k ds S1 | _ => .bad) Z) :
    RQA X.K X.mg ρ H σ W r (fun vs H1 => ∃ ds S1 ρ1, Ext ρ H ρ1 H1 ∧ SR X.K X.mg ρ1 H1 S1 ∧ DRs X.K X.mg ρ1 H1 ds vs ∧ ER X.K X.mg (cvOf X) ρ1 H1 σd σ ∧ SQ X.K X.mg (cvOf X) ρ1 H1 W (k ds S1) Z) := by
  cases r with
  | ok d S =>
    cases d with
    | tup ds => exact ⟨ds, rfl, fun ρ' H' vs e s r => ⟨ds, S, ρ', e, s, r, er.mono e, SQ.ext e h⟩⟩
    | _ => exact False.elim h
  | exc c fs vs S => exact fun ρ' H' C dx fvs e s hm hd hn hf hv => h ρ' H' C dx fvs σ e s (er.mono e) hm hd hn hf hv
  | bad => exact h
def sPar2 (i j : Nat) (M : Sm) : Sst := fun σd S => (M σd S).go σd fun d S1 => match d with
  | .tup ds => (match ds with
    | [x, y] => .nx ((σd.set i (some x)).set j (some y)) S1
    | _ => .bad)
  | _ => .bad
theorem s_par2 {i j : Nat} {x y : Str} {M : Sm} {px py pt : Pos} {kt k2 pt2} (hc : X.calm = true) (hN : X.N.Nodup) (hi : X.N[i]? = some x) (hj : X.N[j]? = some y) (hij : i ≠ j)
    (hx : X.env.scope.names.lookup x = some .local) (hy : X.env.scope.names.lookup y = some .local) (ha : PA X [a, b] (xA X W M))
    (hw : swappedStores [.Tuple [.Name x px, .Name y py] kt pt] (.Tuple [a, b] k2 pt2) X.env = pure (some [x, y]) := by rfl)
    (hs : swapsWithSole [.Tuple [.Name x px, .Name y py] kt pt] (.Tuple [a, b] k2 pt2) pos.line X.env = pure false := by rfl) :
    PS X (.Assign [.Tuple [.Name x px, .Name y py] kt pt] (.Tuple [a, b] k2 pt2) pos) (xS X W (sPar2 i j M)) := psImp (ps_par hc hN hi hj hij hx hy ha hw hs) fun Z σ H ⟨ρ, σd, S, er, sr, q⟩ =>
  ⟨ρ, σd, S, er, sr, (SQ.goA (k := fun ds S1 => match ds with | [x, y] => .nx ((σd.set i (some x)).set j (some y)) S1 | _ => .bad) er q).mono fun vs H1 ⟨ds, S1, ρ1, x1, s1, r1, er1, q1⟩ => by
    split at q1
    · cases r1 with
      | cons ra rb =>
        cases rb with
        | cons rb rc =>
          cases rc
          exact ⟨_, _, rfl, q1.nxt s1 ((er1.set ra i).set rb j)⟩
    · exact False.elim q1⟩
def sPar3 (i j l : Nat) (M : Sm) : Sst := fun σd S => (M σd S).go σd fun d S1 => match d with
  | .tup ds => (match ds with
    | [x, y, z] => .nx (((σd.set i (some x)).set j (some y)).set l (some z)) S1
    | _ => .bad)
  | _ => .bad
theorem s_par3 {i j l : Nat} {x y z : Str} {M : Sm} {px py pz pt : Pos} {kt k2 pt2} (hc : X.calm = true) (hN : X.N.Nodup) (hi : X.N[i]? = some x) (hj : X.N[j]? = some y) (hl : X.N[l]? = some z) (hij : i ≠ j) (hil : i ≠ l) (hjl : j ≠ l)
    (hx : X.env.scope.names.lookup x = some .local) (hy : X.env.scope.names.lookup y = some .local) (hz : X.env.scope.names.lookup z = some .local) (ha : PA X [a, b, c] (xA X W M))
    (hw : swappedStores [.Tuple [.Name x px, .Name y py, .Name z pz] kt pt] (.Tuple [a, b, c] k2 pt2) X.env = pure (some [x, y, z]) := by rfl)
    (hs : swapsWithSole [.Tuple [.Name x px, .Name y py, .Name z pz] kt pt] (.Tuple [a, b, c] k2 pt2) pos.line X.env = pure false := by rfl) :
    PS X (.Assign [.Tuple [.Name x px, .Name y py, .Name z pz] kt pt] (.Tuple [a, b, c] k2 pt2) pos) (xS X W (sPar3 i j l M)) := psImp (ps_par3 hc hN hi hj hl hij hil hjl hx hy hz ha hw hs) fun Z σ H ⟨ρ, σd, S, er, sr, q⟩ =>
  ⟨ρ, σd, S, er, sr, (SQ.goA (k := fun ds S1 => match ds with | [x, y, z] => .nx (((σd.set i (some x)).set j (some y)).set l (some z)) S1 | _ => .bad) er q).mono fun vs H1 ⟨ds, S1, ρ1, x1, s1, r1, er1, q1⟩ => by
    split at q1
    · cases r1 with
      | cons ra rb =>
        cases rb with
        | cons rb rc =>
          cases rc with
          | cons rc rd =>
            cases rd
            exact ⟨_, _, _, rfl, q1.nxt s1 (((er1.set ra i).set rb j).set rc l)⟩
    · exact False.elim q1⟩
noncomputable def forGo (it : Store → Option (List D)) (xs : List D) (T : Tgt) (B : Sst) : List D → Env1 → Store → SRes
  | [], σd, S => if it S = some xs then .nx σd S else .bad
  | d :: r, σd, S => if it S = some xs then (match T d σd with
    | some σ2 => (match B σ2 S with
      | .nx σ3 S3 => forGo it xs T B r σ3 S3
      | .ct σ3 S3 => forGo it xs T B r σ3 S3
      | .bk σ3 S3 => .nx σ3 S3
      | .rt v S3 => .rt v S3
      | .exc c fs vs σ3 S3 => .exc c fs vs σ3 S3
      | .bad => .bad)
    | none => .bad) else .bad
noncomputable def sFor (A : Sm) (items : Itms) (T : Tgt) (B : Sst) : Sst := fun σd S => (A σd S).go σd fun d S1 => match items d S1 with
  | some xs => forGo (items d) xs T B xs σd S1
  | none => .bad
theorem s_for {tg iter : Expr} {body : List Stmt} {items : Itms} {T : Tgt} {sl : List Nat} (hp : PassesOwn (model X.prog X.w) X.A X.env X.xe) (hc : X.calm = true) (hi : PI X tg iter (xI X W A items)) (hg : PG X tg (xG X.K X.mg (cvOf X) T sl)) (hb : PSs X body (xS X W M))
    (hs : ∀ x, foldedSetIterable iter X.env x = pure x := by intro _; rfl) : PS X (.For tg iter body [] pos) (xS X W (sFor A items T M)) := psImp (ps_for hp hc hi hg hb hs) fun Z σ H ⟨ρ, σd, S, er, sr, q⟩ => ⟨ρ, σd, S, er, sr, by
  have q : SQ X.K X.mg (cvOf X) ρ H W ((A σd S).go σd fun d S1 => match items d S1 with
    | some xs => forGo (items d) xs T M xs σd S1
    | none => .bad) Z := q
  cases hA : A σd S with
  | bad => rw [hA] at q; exact q
  | exc c fs vs S1 => rw [hA] at q; exact fun ρ' H' C dx fvs e s hm hd hn hf hv => q ρ' H' C dx fvs σ e s (er.mono e) hm hd hn hf hv
  | ok d S1 =>
    rw [hA] at q
    simp only [Res.go] at q
    cases hx : items d S1 with
    | none => rw [hx] at q; exact False.elim q
    | some xs =>
      rw [hx] at q
      simp only at q
      refine ⟨by rw [hx]; rfl, fun ρ1 H1 J x1 s1 jk => ?_⟩
      let Wv : Nat → Nat → L2.St → Hp → Prop := fun i m σ2 H2 => m = xs.length - i ∧ i ≤ xs.length ∧ ∃ ρ2 σd2 S2, Ext ρ1 H1 ρ2 H2 ∧ SR X.K X.mg ρ2 H2 S2 ∧ ER X.K X.mg (cvOf X) ρ2 H2 σd2 σ2 ∧ SQ X.K X.mg (cvOf X) ρ2 H2 W (forGo (items d) xs T M (xs.drop i) σd2 S2) Z
      refine ⟨Wv, ⟨xs.length, by simp, Nat.zero_le _, ρ1, σd, S1, Ext.refl, s1, er.mono x1, by rw [List.drop_zero]; exact q.ext x1⟩, ?_⟩
      rintro i m σ2 H2 ⟨rfl, hile, ρ2, σd2, S2, x2, s2, er2, q2⟩
      by_cases hlt : i < xs.length
      · have hxi : xs[i]? = some xs[i] := List.getElem?_eq_getElem hlt
        have hdrop : xs.drop i = xs[i] :: xs.drop (i + 1) := List.drop_eq_getElem_cons hlt
        rw [hdrop] at q2
        unfold forGo at q2
        split at q2
        · rename_i hit
          obtain ⟨jgo, jy⟩ := jk.go ρ2 H2 S2 xs i xs[i] x2.toExt0 s2 hit hxi
          refine .inr ⟨jgo, fun σ' H' => Wv (i + 1) (xs.length - (i + 1)) σ' H', fun σ' H' w => ⟨_, by omega, w⟩, fun x H' y => ?_⟩
          obtain ⟨x3, s3, r3⟩ := jy x H' y
          split at q2
          · rename_i σ3 hT
            refine ⟨ρ2, σd2, S2, xs[i], σ3, er2.mono x3, s3, r3, hT, fun σ' er' o' => ⟨ρ2, σ3, S2, er', s3, ?_⟩⟩
            have fin : ∀ {σ5 : Env1} {S5 : Store}, SQ X.K X.mg (cvOf X) ρ2 H2 W (forGo (items d) xs T M (xs.drop (i + 1)) σ5 S5) Z → ∀ ρ' H'' σ'', Ext ρ2 H' ρ' H'' → SR X.K X.mg ρ' H'' S5 → ER X.K X.mg (cvOf X) ρ' H'' σ5 σ'' → Wv (i + 1) (xs.length - (i + 1)) σ'' H'' := fun {σ5 S5} q5 ρ' H'' σ'' e5 s5 er5 =>
              ⟨rfl, hlt, ρ', σ5, S5, (x2.trans x3).trans e5, s5, er5, q5.ext (x3.trans e5)⟩
            cases hB : M σ3 S2 with
            | nx σ5 S5 => rw [hB] at q2; exact fin q2
            | ct σ5 S5 => rw [hB] at q2; exact fin q2
            | bk σ5 S5 => rw [hB] at q2; exact fun ρ' H'' σ'' e5 s5 er5 => SQ.nx2 q2 (x3.trans e5) s5 er5
            | rt v S5 => rw [hB] at q2; exact fun ρ' H'' v'' e5 s5 r5 => q2 ρ' H'' v'' (x3.trans e5) s5 r5
            | exc c fs vs σ5 S5 => rw [hB] at q2; exact SQ.ext x3 q2
            | bad => rw [hB] at q2; exact q2
          · exact False.elim q2
        · exact False.elim q2
      · have hie : i = xs.length := by omega
        subst hie
        rw [List.drop_length] at q2
        unfold forGo at q2
        split at q2
        · rename_i hit
          exact .inl ⟨jk.stop ρ2 H2 S2 xs _ x2.toExt0 s2 hit (Nat.le_refl _), q2.nxt s2 er2⟩
        · exact False.elim q2⟩
def whGo (C : Sm) (B : Sst) : Nat → Env1 → Store → SRes
  | 0, _, _ => .bad
  | n + 1, σd, S => (C σd S).go σd fun d S1 => match d with
    | .bl true => (match B σd S1 with
      | .nx σ3 S3 => whGo C B n σ3 S3
      | .ct σ3 S3 => whGo C B n σ3 S3
      | .bk σ3 S3 => .nx σ3 S3
      | .rt v S3 => .rt v S3
      | .exc c fs vs σ3 S3 => .exc c fs vs σ3 S3
      | .bad => .bad)
    | .bl false => .nx σd S1
    | _ => .bad
noncomputable def sWh (C : Sm) (B : Sst) : Sst := fun σd S => if h : ∃ n, whGo C B n σd S ≠ .bad then whGo C B (Classical.choose h) σd S else .bad
theorem s_while {body : List Stmt} (hp : PassesOwn (model X.prog X.w) X.A X.env X.xe) (hc : PT X c (xT X W C)) (hb : PSs X body (xS X W M)) : PS X (.While c body [] pos) (xS X W (sWh C M)) := psImp (ps_while hp hc hb) fun Z σ H ⟨ρ, σd, S, er, sr, q⟩ => by
  have q : SQ X.K X.mg (cvOf X) ρ H W (if h : ∃ n, whGo C M n σd S ≠ .bad then whGo C M (Classical.choose h) σd S else .bad) Z := q
  split at q
  · rename_i hn
    generalize Classical.choose hn = n at q
    refine ⟨fun m σ2 H2 => ∃ ρ2 σd2 S2, SR X.K X.mg ρ2 H2 S2 ∧ ER X.K X.mg (cvOf X) ρ2 H2 σd2 σ2 ∧ SQ X.K X.mg (cvOf X) ρ2 H2 W (whGo C M m σd2 S2) Z, ⟨n, ρ, σd, S, sr, er, q⟩, ?_⟩
    rintro m σ2 H2 ⟨ρ2, σd2, S2, s2, er2, q2⟩
    cases m with
    | zero => exact False.elim q2
    | succ m =>
      refine ⟨ρ2, σd2, S2, er2, s2, (SQ.go er2 q2).mono fun v H3 ⟨d, S3, ρ3, _, x3, s3, r3, er3, q3⟩ => ?_⟩
      split at q3
      · cases r3
        refine ⟨true, rfl, iteT ⟨fun σ' H' => ∃ ρ2 σd2 S2, SR X.K X.mg ρ2 H' S2 ∧ ER X.K X.mg (cvOf X) ρ2 H' σd2 σ' ∧ SQ X.K X.mg (cvOf X) ρ2 H' W (whGo C M m σd2 S2) Z, fun σ' H' w => ⟨m, Nat.lt_succ_self m, w⟩, ρ3, σd2, S3, er3, s3, ?_⟩⟩
        cases hB : M σd2 S3 with
        | nx σ5 S5 => rw [hB] at q3; exact fun ρ' H'' σ'' e5 s5 er5 => ⟨ρ', σ5, S5, s5, er5, q3.ext e5⟩
        | ct σ5 S5 => rw [hB] at q3; exact fun ρ' H'' σ'' e5 s5 er5 => ⟨ρ', σ5, S5, s5, er5, q3.ext e5⟩
        | bk σ5 S5 => rw [hB] at q3; exact q3
        | rt v S5 => rw [hB] at q3; exact q3
        | exc c fs vs σ5 S5 => rw [hB] at q3; exact q3
        | bad => rw [hB] at q3; exact q3
      · cases r3
        exact ⟨false, rfl, iteF (q3.nxt s3 er3)⟩
      · exact False.elim q3
  · exact False.elim q
end
end Ev
end

section
set_option maxHeartbeats 4000000
namespace Ev
open PySem PySem.Spec PyProof.Rows L2
open Classical
def Store.ent (S : Store) : Store := { S with mkr := none }
def Adr.ent (ρ : Adr) : Adr := { ρ with fx := { ρ.fx with k := none } }
def Store.ret (S' S : Store) : Store := { cs := S'.cs.take S.cs.length, os := S'.os.take S.os.length, vs := S.vs, mkr := S.mkr }
def Adr.ret (ρ' ρ : Adr) : Adr := { r := ρ'.r.take ρ.r.length, t := ρ'.t.take ρ.t.length, fx := ρ.fx, x := ρ.x }
mutual
/-- a def's own cells, by value -/
def frz (S : Store) (n : Nat) : D → D
  | .non => .non
  | .bl b => .bl b
  | .int i => .int i
  | .str x => .str x
  | .ty t => .ty t
  | .tup xs => .tup (frzs S n xs)
  | .lst xs => .lst (frzs S n xs)
  | .scr xs => .scr (frzs S n xs)
  | .dk ks vs => .dk ks (frzs S n vs)
  | .dt ks vs => .dt ks (frzs S n vs)
  | .ins c fs vs => .ins c fs (frzs S n vs)
  | .exn c fs vs => .exn c fs vs
  | .clo l ns => .clo l ns
  | .ref j => if j < n then .ref j else (match S.cs[j]? with
    | some (.lst xs) => .lst xs
    | some (.dk ks vs) => .dk ks vs
    | some (.dt ks vs) => .dt ks vs
    | _ => .ref j)
  | .obj j => .obj j
def frzs (S : Store) (n : Nat) : List D → List D
  | [] => []
  | d :: r => frz S n d :: frzs S n r
end
section
variable {K : PySem.W.Frag} {mg : Str → Option Value} {ρ ρ' : Adr} {H H' : Hp} {S S' : Store}
theorem cut_not (s : SR K mg ρ H S) {j n m : Nat} {a : Addr} (hj : ρ.r[j]? = some a) (h : ¬ j < n) : ¬ (ρ.cut n m).has a := by
  rintro (z | z | z | z)
  · obtain ⟨i, hi, e⟩ := List.mem_iff_getElem.mp z
    have z' : (ρ.r.take n)[i]? = some a := by rw [← e]; exact List.getElem?_eq_getElem hi
    have hin : i < n := by
      have := hi
      rw [show (ρ.cut n m).r = ρ.r.take n from rfl, List.length_take] at this
      omega
    rw [List.getElem?_take_of_lt hin] at z'
    have := nodup_get s.nr hj z'
    omega
  · exact s.dj a (List.mem_of_getElem? hj) (List.mem_of_mem_take z)
  · obtain ⟨q, z⟩ := z
    exact (s.nb _ z).1 (List.mem_of_getElem? hj)
  · exact (s.nx a z).1 (List.mem_of_getElem? hj)
mutual
theorem frz_ok (s : SR K mg ρ H S) {n m : Nat} : ∀ {d : D} {v : V}, DR K mg ρ H d v → (frz S n d).low n m = true → DR K mg (ρ.cut n m) H (frz S n d) v
  | _, _, .non, _ => by rw [frz]; exact .non
  | _, _, .bl b, _ => by rw [frz]; exact .bl b
  | _, _, .int i, _ => by rw [frz]; exact .int i
  | _, _, .str x, _ => by rw [frz]; exact .str x
  | _, _, .ty x, _ => by rw [frz]; exact .ty x
  | _, _, .tup h q r, e => by rw [frz] at e ⊢; exact .tup h (fun z => q (cut_has z)) (frzs_ok s r (by simpa [D.low] using e))
  | _, _, .tupK h r, e => by rw [frz] at e ⊢; exact .tupK h (frzs_ok s r (by simpa [D.low] using e))
  | _, _, .lst h q r, e => by rw [frz] at e ⊢; exact .lst h (fun z => q (cut_has z)) (frzs_ok s r (by simpa [D.low] using e))
  | _, _, .scr h q r, e => by rw [frz] at e ⊢; exact .scr h (fun z => q (cut_has z)) (frzs_ok s r (by simpa [D.low] using e))
  | _, _, .scrK h r, e => by rw [frz] at e ⊢; exact .scrK h (frzs_ok s r (by simpa [D.low] using e))
  | _, _, .dk h q a b r, e => by rw [frz] at e ⊢; exact .dk h (fun z => q (cut_has z)) a b (frzs_ok s r (by simpa [D.low] using e))
  | _, _, .dt h q a b r, e => by rw [frz] at e ⊢; exact .dt h (fun z => q (cut_has z)) a b (frzs_ok s r (by simpa [D.low] using e))
  | _, _, .ins h q x a b r, e => by rw [frz] at e ⊢; exact .ins h (fun z => q (cut_has z)) x a b (frzs_ok s r (by simpa [D.low] using e))
  | _, _, .clo h q h2 q2 k k2 k3, _ => by rw [frz]; exact .clo h (fun z => q (cut_has z)) h2 (fun z => q2 (cut_has z)) k k2 k3
  | .ref j, _, .ref h, e => by
    rw [frz] at e ⊢
    by_cases hj : j < n
    · rw [if_pos hj]
      exact .ref (by show (ρ.r.take n)[j]? = _; rw [List.getElem?_take_of_lt hj]; exact h)
    · rw [if_neg hj] at e ⊢
      have nh := cut_not s (m := m) h hj
      cases hc : S.cs[j]? with
      | none => rw [hc] at e; simp [D.low] at e; exact absurd e hj
      | some c =>
        rw [hc] at e
        have pc := s.pc c (List.mem_of_getElem? hc)
        have cr := s.cs j c _ hc h
        cases c with
        | lst xs =>
          obtain ⟨vs, h1, h2⟩ := cr
          exact .lst h1 nh (h2.cut (D.lows_pure pc))
        | dk ks ds =>
          obtain ⟨kvs, h1, h2, h3⟩ := cr
          exact .dk h1 nh h2 rfl (h3.cut (D.lows_pure pc))
        | dt ks ds =>
          obtain ⟨kvs, h1, h2, h3⟩ := cr
          exact .dt h1 nh h2 rfl (h3.cut (D.lows_pure pc))
        | scr xs => simp [D.low] at e; exact absurd e hj
  | .obj k, _, .obj h, e => by
    rw [frz] at e ⊢
    have hk : k < m := by simpa [D.low] using e
    exact .obj (by show (ρ.t.take m)[k]? = _; rw [List.getElem?_take_of_lt hk]; exact h)
theorem frzs_ok (s : SR K mg ρ H S) {n m : Nat} : ∀ {ds : List D} {vs : List V}, DRs K mg ρ H ds vs → D.lows n m (frzs S n ds) = true → DRs K mg (ρ.cut n m) H (frzs S n ds) vs
  | _, _, .nil, _ => by rw [frzs]; exact .nil
  | x :: xs, _, .cons h r, e => by
    rw [frzs] at e ⊢
    obtain ⟨a, b⟩ := Bool.and_eq_true_iff.mp (show ((frz S n x).low n m && D.lows n m (frzs S n xs)) = true by simpa [D.lows] using e)
    exact .cons (frz_ok s h a) (frzs_ok s r b)
end
theorem ent_ext : ExtC ρ H ρ.ent H := ⟨fun _ _ h _ _ => h, fun _ _ _ n _ => n, fun _ _ h => h, fun _ _ h => h, fun _ _ h => h⟩
theorem SR.ent (s : SR K mg ρ H S) : SR K mg ρ.ent H S.ent :=
  ⟨s.nr, s.nt, s.dj, s.lr, s.lt, fun n c a h1 h2 => (s.cs n c a h1 h2).monoC ent_ext rfl, fun n c a h1 h2 => (s.os n c a h1 h2).monoC ent_ext rfl, s.pc, s.tb, s.nb, s.nx, rfl, (fun _ z => nomatch z), fun n d h => let ⟨c, oc, v, h1, h2, h3, h4, h5⟩ := s.vs n d h; ⟨c, oc, v, h1, h2, h3, h4.monoC ent_ext, h5⟩⟩
/-- the objects of the caller are as low as before -/
def OsOk (S S' : Store) : Prop := S'.os.take S.os.length = S.os ∨ (S'.os.take S.os.length).all (fun c => D.lows S.cs.length S.os.length c.vs) = true
theorem SR.ret (s : SR K mg ρ H S) (s' : SR K mg ρ' H' S') (e : Ext ρ.ent H ρ' H') (ho : OsOk S S') : SR K mg (ρ'.ret ρ) H' (S'.ret S) ∧ Ext ρ H (ρ'.ret ρ) H' ∧ ExtC (ρ'.cut S.cs.length S.os.length) H' (ρ'.ret ρ) H' := by
  have hb : ρ'.fx.b = ρ.fx.b := by rw [e.fx]; rfl
  have hc : ρ'.fx.c = ρ.fx.c := by rw [e.fx]; rfl
  have hx : ρ'.x = ρ.x := e.xx
  have hn : ρ.r.length = S.cs.length := s.lr
  have hm : ρ.t.length = S.os.length := s.lt
  have sub : ∀ {a}, (ρ'.ret ρ).has a → (ρ'.cut S.cs.length S.os.length).has a := fun {a} z => by
    rcases z with z | z | z | z
    · exact .inl (by rw [← hn]; exact z)
    · exact .inr (.inl (by rw [← hm]; exact z))
    · exact .inr (.inr (.inl (by obtain ⟨q, z⟩ := z; exact ⟨q, by show (a, q) ∈ ρ'.fx.b; rw [hb]; exact z⟩)))
    · exact .inr (.inr (.inr (by show a ∈ ρ'.x; rw [hx]; exact z)))
  have ec : ExtC (ρ'.cut S.cs.length S.os.length) H' (ρ'.ret ρ) H' := ⟨fun _ _ h _ _ => h, fun _ _ _ n _ z => n (sub z), fun k a h => by show (ρ'.r.take ρ.r.length)[k]? = _; rw [hn]; exact h, fun k a h => by show (ρ'.t.take ρ.t.length)[k]? = _; rw [hm]; exact h,
    fun k a h => by show ρ.fx.c[k]? = _; rw [← hc]; exact h⟩
  have ex : Ext ρ H (ρ'.ret ρ) H' := ⟨⟨e.keep, fun a o h q z => e.nin a o h q (cut_has (sub z)), fun k a h => by
      have hk : k < ρ.r.length := (List.getElem?_eq_some_iff.mp h).1
      show (ρ'.r.take ρ.r.length)[k]? = _
      rw [List.getElem?_take_of_lt hk]; exact e.ar k a h, fun k a h => by
      have hk : k < ρ.t.length := (List.getElem?_eq_some_iff.mp h).1
      show (ρ'.t.take ρ.t.length)[k]? = _
      rw [List.getElem?_take_of_lt hk]; exact e.at_ k a h, rfl⟩, rfl, e.kx⟩
  refine ⟨⟨s'.nr.sublist (List.take_sublist _ _), s'.nt.sublist (List.take_sublist _ _), fun a h1 h2 => s'.dj a (List.mem_of_mem_take h1) (List.mem_of_mem_take h2), ?_, ?_, ?_, ?_, fun c hc => s'.pc c (List.mem_of_mem_take hc), ?_, ?_, ?_, s.mkr, s.kb, s.vs_mono ex.toExt0⟩, ex, ec⟩
  · show (ρ'.r.take ρ.r.length).length = (S'.cs.take S.cs.length).length
    rw [List.length_take, List.length_take, s'.lr, s.lr]
  · show (ρ'.t.take ρ.t.length).length = (S'.os.take S.os.length).length
    rw [List.length_take, List.length_take, s'.lt, s.lt]
  · intro k c a h1 h2
    have hk : k < S.cs.length := by
      have := (List.getElem?_eq_some_iff.mp (show (S'.cs.take S.cs.length)[k]? = some c from h1)).1
      rw [List.length_take] at this
      omega
    have h1' : S'.cs[k]? = some c := by rw [← List.getElem?_take_of_lt hk]; exact h1
    have h2' : ρ'.r[k]? = some a := by
      have h2 : (ρ'.r.take ρ.r.length)[k]? = some a := h2
      rw [List.getElem?_take_of_lt (by omega)] at h2
      exact h2
    exact ((s'.cs k c a h1' h2').cut (s'.pc c (List.mem_of_getElem? h1'))).monoC ec rfl
  · intro k c a h1 h2
    have hk : k < S.os.length := by
      have := (List.getElem?_eq_some_iff.mp (show (S'.os.take S.os.length)[k]? = some c from h1)).1
      rw [List.length_take] at this
      omega
    have h1' : S'.os[k]? = some c := by rw [← List.getElem?_take_of_lt hk]; exact h1
    have h2' : ρ'.t[k]? = some a := by
      have h2 : (ρ'.t.take ρ.t.length)[k]? = some a := h2
      rw [List.getElem?_take_of_lt (by omega)] at h2
      exact h2
    obtain ⟨C, dx, fvs, q1, q2, q3, q4⟩ := s'.os k c a h1' h2'
    refine ⟨C, dx, fvs, q1, q2, q3, (q4.cut ?_).monoC ec⟩
    rcases ho with ho | ho
    · have h3 : S.os[k]? = some c := by rw [← ho]; exact h1
      obtain ⟨a0, _, C0, dx0, fvs0, _, _, _, q⟩ := s.objc h3
      have := q.low
      rw [hn, hm] at this
      exact this
    · exact List.all_eq_true.mp ho c (List.mem_of_getElem? h1)
  · intro p hp
    exact s'.tb p (by rw [hb]; exact hp)
  · intro p hp
    have hp' : p ∈ ρ'.fx.b := by rw [hb]; exact hp
    exact ⟨fun z => (s'.nb p hp').1 (List.mem_of_mem_take z), fun z => (s'.nb p hp').2 (List.mem_of_mem_take z)⟩
  · intro a ha
    obtain ⟨n1, n2, n3, o⟩ := s'.nx a (by rw [hx]; exact ha)
    exact ⟨fun z => n1 (List.mem_of_mem_take z), fun z => n2 (List.mem_of_mem_take z), by rw [hb] at n3; exact n3, o⟩
end
/-- one of the callee's cells, the last of the caller's from now on -/
def Store.retO (S' S : Store) (c : Cell) : Store := { S'.ret S with cs := S'.cs.take S.cs.length ++ [c] }
def Adr.retO (ρ' ρ : Adr) (a : Addr) : Adr := { ρ'.ret ρ with r := ρ'.r.take ρ.r.length ++ [a] }
theorem SR.retO {K : PySem.W.Frag} {mg : Str → Option Value} {ρ ρ' : Adr} {H H' : Hp} {S S' : Store} {j : Nat} {c : Cell} {a : Addr} (s : SR K mg ρ H S) (s' : SR K mg ρ' H' S') (e : Ext ρ.ent H ρ' H') (ho : OsOk S S') (hj : S.cs.length ≤ j) (hc : S'.cs[j]? = some c) (ha : ρ'.r[j]? = some a) :
    SR K mg (ρ'.retO ρ a) H' (S'.retO S c) ∧ Ext ρ H (ρ'.retO ρ a) H' := by
  obtain ⟨s2, x2, c2⟩ := s.ret s' e ho
  have hb : ρ'.fx.b = ρ.fx.b := by rw [e.fx]; rfl
  have hcc : ρ'.fx.c = ρ.fx.c := by rw [e.fx]; rfl
  have hx : ρ'.x = ρ.x := e.xx
  have hn : ρ.r.length = S.cs.length := s.lr
  have nin : ¬ (ρ'.ret ρ).has a := fun z => by
    have := cut_not s' (n := S.cs.length) (m := S.os.length) ha (by omega)
    refine this ?_
    rcases z with z | z | z | z
    · exact .inl (by rw [← hn]; exact z)
    · exact .inr (.inl (by rw [← show ρ.t.length = S.os.length from s.lt]; exact z))
    · exact .inr (.inr (.inl (by obtain ⟨q, z⟩ := z; exact ⟨q, by show (a, q) ∈ ρ'.fx.b; rw [hb]; exact z⟩)))
    · exact .inr (.inr (.inr (by show a ∈ ρ'.x; rw [hx]; exact z)))
  have hin : ρ'.has a := .inl (List.mem_of_getElem? ha)
  have subHas : ∀ b, (ρ'.retO ρ a).has b → ρ'.has b := fun b z => by
    rcases z with z | z | z | z
    · rcases List.mem_append.mp z with z | z
      · exact .inl (List.mem_of_mem_take z)
      · rw [show b = a by simpa using z]; exact hin
    · exact .inr (.inl (List.mem_of_mem_take z))
    · obtain ⟨q, z⟩ := z; exact .inr (.inr (.inl ⟨q, by rw [hb]; exact z⟩))
    · exact .inr (.inr (.inr (by rw [hx]; exact z)))
  have sb : Sub ρ' (ρ'.retO ρ a) S.cs.length S.os.length := ⟨subHas, fun k b hk h => by
      show (ρ'.r.take ρ.r.length ++ [a])[k]? = _
      have : k < (ρ'.r.take ρ.r.length).length := by
        have := (List.getElem?_eq_some_iff.mp h).1
        rw [List.length_take]; omega
      rw [List.getElem?_append_left this, List.getElem?_take_of_lt (by omega)]; exact h,
    fun k b hk h => by show (ρ'.t.take ρ.t.length)[k]? = _; rw [List.getElem?_take_of_lt (by rw [show ρ.t.length = S.os.length from s.lt]; exact hk)]; exact h,
    fun k b h => by show ρ.fx.c[k]? = _; rw [← hcc]; exact h⟩
  -- a is new to the caller
  have ana : H a = none := by
    cases q : H a with
    | none => rfl
    | some o =>
      exfalso
      by_cases hh : ρ.has a
      · rcases hh with z | z | z | z
        · obtain ⟨i, hi, ei⟩ := List.mem_iff_getElem.mp z
          have h1 := e.ar i a (show ρ.r[i]? = some a by rw [← ei]; exact List.getElem?_eq_getElem hi)
          have := nodup_get s'.nr ha h1
          omega
        · obtain ⟨i, hi, ei⟩ := List.mem_iff_getElem.mp z
          have h1 := e.at_ i a (show ρ.t[i]? = some a by rw [← ei]; exact List.getElem?_eq_getElem hi)
          exact s'.dj a (List.mem_of_getElem? ha) (List.mem_of_getElem? h1)
        · obtain ⟨q', z⟩ := z
          exact (s'.nb (a, q') (by rw [hb]; exact z)).1 (List.mem_of_getElem? ha)
        · exact (s'.nx a (by rw [hx]; exact z)).1 (List.mem_of_getElem? ha)
      · exact e.nin a o q hh hin
  have ex : Ext ρ H (ρ'.retO ρ a) H' := ⟨⟨e.keep, fun b o h n z => e.nin b o h n (subHas b z), fun k b h => by
      show (ρ'.r.take ρ.r.length ++ [a])[k]? = _
      have h2 : (ρ'.r.take ρ.r.length)[k]? = some b := x2.ar k b h
      rw [List.getElem?_append_left (List.getElem?_eq_some_iff.mp h2).1]; exact h2, x2.at_, rfl⟩, rfl, e.kx⟩
  have take_len : (S'.cs.take S.cs.length).length = S.cs.length := by
    rw [List.length_take]
    have := (List.getElem?_eq_some_iff.mp hc).1
    omega
  have take_lenr : (ρ'.r.take ρ.r.length).length = S.cs.length := by
    rw [List.length_take]
    have := (List.getElem?_eq_some_iff.mp ha).1
    omega
  refine ⟨⟨?_, s2.nt, fun b h1 h2 => ?_, ?_, s2.lt, fun k c' b h1 h2 => ?_, fun k c' b h1 h2 => ?_, fun c' hc' => ?_, s2.tb, fun p hp => ⟨fun z => ?_, (s2.nb p hp).2⟩, fun b hb' => ?_, s2.mkr, s2.kb, s.vs_mono ex.toExt0⟩, ex⟩
  · show (ρ'.r.take ρ.r.length ++ [a]).Nodup
    rw [List.nodup_append]
    exact ⟨s2.nr, by simp, fun b hb1 b2 hb2 => by
      have : b2 = a := by simpa using hb2
      subst this; rintro rfl; exact nin (.inl hb1)⟩
  · rcases List.mem_append.mp h1 with q | q
    · exact s2.dj b q h2
    · rw [show b = a by simpa using q] at h2; exact nin (.inr (.inl h2))
  · show (ρ'.r.take ρ.r.length ++ [a]).length = (S'.cs.take S.cs.length ++ [c]).length
    rw [List.length_append, List.length_append, take_len, take_lenr]; rfl
  · have h1 : (S'.cs.take S.cs.length ++ [c])[k]? = some c' := h1
    have h2 : (ρ'.r.take ρ.r.length ++ [a])[k]? = some b := h2
    rcases get_snoc h1 with h3 | ⟨h3, rfl⟩
    · have hk := (List.getElem?_eq_some_iff.mp h3).1
      rw [take_len] at hk
      rw [List.getElem?_append_left (by rw [take_lenr]; exact hk), List.getElem?_take_of_lt (by omega)] at h2
      rw [List.getElem?_take_of_lt hk] at h3
      exact (s'.cs k c' b h3 h2).sub sb (s'.pc c' (List.mem_of_getElem? h3))
    · rw [take_len] at h3
      subst h3
      rcases get_snoc h2 with h2 | ⟨_, rfl⟩
      · have := (List.getElem?_eq_some_iff.mp h2).1
        omega
      · exact (s'.cs j c' b hc ha).sub sb (s'.pc c' (List.mem_of_getElem? hc))
  · have h1' : (S'.os.take S.os.length)[k]? = some c' := h1
    have hk : k < S.os.length := by
      have := (List.getElem?_eq_some_iff.mp h1').1
      rw [List.length_take] at this
      omega
    have h3 : S'.os[k]? = some c' := by rw [← List.getElem?_take_of_lt hk]; exact h1'
    have h4 : ρ'.t[k]? = some b := by
      have h2 : (ρ'.t.take ρ.t.length)[k]? = some b := h2
      rw [List.getElem?_take_of_lt (by rw [show ρ.t.length = S.os.length from s.lt]; exact hk)] at h2
      exact h2
    obtain ⟨C, dx, fvs, q1, q2, q3, q4⟩ := s'.os k c' b h3 h4
    refine ⟨C, dx, fvs, q1, q2, q3, q4.sub sb ?_⟩
    rcases ho with ho | ho
    · have h5 : S.os[k]? = some c' := by rw [← ho]; exact h1'
      obtain ⟨a0, _, C0, dx0, fvs0, _, _, _, q⟩ := s.objc h5
      have := q.low
      rw [hn, show ρ.t.length = S.os.length from s.lt] at this
      exact this
    · exact List.all_eq_true.mp ho c' (List.mem_of_getElem? h1')
  · rcases List.mem_append.mp hc' with z | z
    · exact s'.pc c' (List.mem_of_mem_take z)
    · rw [show c' = c by simpa using z]; exact s'.pc c (List.mem_of_getElem? hc)
  · rcases List.mem_append.mp z with z | z
    · exact (s2.nb p hp).1 z
    · exact nin (.inr (.inr (.inl ⟨p.2, by rw [← show p.1 = a by simpa using z]; exact hp⟩)))
  · obtain ⟨n1, n2, n3, o, h, me⟩ := s2.nx b hb'
    refine ⟨fun z => ?_, n2, n3, o, h, me⟩
    rcases List.mem_append.mp z with z | z
    · exact n1 z
    · exact nin (.inr (.inr (.inr (by rw [← show b = a by simpa using z]; exact hb'))))
def startD (n : Nat) (ds : List D) : Env1 := ds.map some ++ List.replicate (n - ds.length) none
/-- its value, to the caller whose store was S -/
noncomputable def fin (S : Store) (d : D) (S' : Store) : Res := if (frz S' S.cs.length d).low S.cs.length S.os.length = true ∧ OsOk S S' then .ok (frz S' S.cs.length d) (S'.ret S) else .bad
/-- .. a cell of its own lives on -/
noncomputable def finO (S : Store) (d : D) (S' : Store) : Res := match d with
  | .ref j => if S.cs.length ≤ j then (match S'.cs[j]? with
    | some c => if OsOk S S' then .ok (.ref S.cs.length) (S'.retO S c) else .bad
    | none => .bad) else fin S d S'
  | _ => fin S d S'
noncomputable def finX (S : Store) (c : Str) (fs : List Str) (vs : List D) (S' : Store) : Res := if D.lows S.cs.length S.os.length (frzs S' S.cs.length vs) = true ∧ OsOk S S' then .exc c fs (frzs S' S.cs.length vs) (S'.ret S) else .bad
noncomputable def endF (own : Bool) (S : Store) (r : SRes) : Res := match r with
  | .nx _ S' => fin S .non S'
  | .rt d S' => if own then finO S d S' else fin S d S'
  | .exc c fs vs _ S' => finX S c fs vs S'
  | _ => .bad
noncomputable def runF (own : Bool) (nn : Nat) (M : Sst) : List D → Store → Res := fun ds S => endF own S (M (startD nn ds) S.ent)
abbrev WE (E : XK) : WX := fun cls d _ H => E cls d H
/-- a def, at the level k: what it comes to is F -/
structure FnG (P : Program) (w : World) (K : PySem.W.Frag) (mg : Str → Option Value) (base : Heap) (k : Nat) (f : Addr) (fd : FuncData) (ps : List Str) (F : List D → Store → Res) : Prop where
  run : ∀ (A : Around) (outer : List Env) (s : Shared) (H : Hp) (args : Args) (us : List Value) (vs : List V) (ρ : Adr) (S : Store) (ds : List D) (Q : VK) (E : XK), Room k A → A.guards = some [] → Env0 P w K mg base A outer s H → BindsTo s fd args (ps.zip us) → Vals vs us → us.length = ps.length →
    SR K mg ρ H S → DRs K mg ρ H ds vs → RQ K mg ρ H [] (WE E) (F ds S) Q → codeAny (model P w) A (.call (.ref f) args) (L2.CR (L2.CX P w) outer P w H s Q E) s
theorem FnG.mono {P : Program} {w : World} {K : PySem.W.Frag} {mg : Str → Option Value} {base : Heap} {j k : Nat} {f : Addr} {fd : FuncData} {ps : List Str} {F : List D → Store → Res} (G : FnG P w K mg base j f fd ps F) (h : j ≤ k) : FnG P w K mg base k f fd ps F :=
  ⟨fun A outer s H args us vs ρ S ds Q E hr => G.run A outer s H args us vs ρ S ds Q E (hr.mono h)⟩
theorem start_at {N : List Str} {vs : List V} {ds : List D} {K : PySem.W.Frag} {mg : Str → Option Value} {ρ : Adr} {H : Hp} (r : DRs K mg ρ H ds vs) : ∀ (i : Nat) (d : D), (startD N.length ds)[i]? = some (some d) → ∃ v, (L2.start N vs)[i]? = some (some v) ∧ DR K mg ρ H d v := fun i d h => by
  unfold startD at h
  unfold L2.start
  by_cases hi : i < ds.length
  · rw [List.getElem?_append_left (by simpa using hi), List.getElem?_map] at h
    cases e : ds[i]? with
    | none => rw [e] at h; cases h
    | some x =>
      rw [e] at h
      cases h
      obtain ⟨v, h1, h2⟩ := r.get e
      have hi2 : i < vs.length := (List.getElem?_eq_some_iff.mp h1).1
      exact ⟨v, by rw [List.getElem?_append_left (by simpa using hi2), List.getElem?_map, h1]; rfl, h2⟩
  · rw [List.getElem?_append_right (by simpa using hi), List.getElem?_replicate] at h
    split at h <;> cases h
theorem fin_run {K : PySem.W.Frag} {mg : Str → Option Value} {ρ ρ' : Adr} {H H' : Hp} {S S' : Store} {σ : L2.St} {W : WX} {d : D} {v : V} {Q : VK} (s : SR K mg ρ H S) (q : RQ K mg ρ H σ W (fin S d S') Q) (e : Ext ρ.ent H ρ' H') (s' : SR K mg ρ' H' S') (r : DR K mg ρ' H' d v) : Q v H' := by
  unfold fin at q
  split at q
  · rename_i h
    obtain ⟨s2, x2, c2⟩ := s.ret s' e h.2
    exact q.at2 x2 s2 ((frz_ok s' r h.1).monoC c2)
  · exact False.elim q
theorem finO_run {K : PySem.W.Frag} {mg : Str → Option Value} {ρ ρ' : Adr} {H H' : Hp} {S S' : Store} {σ : L2.St} {W : WX} {d : D} {v : V} {Q : VK} (s : SR K mg ρ H S) (q : RQ K mg ρ H σ W (finO S d S') Q) (e : Ext ρ.ent H ρ' H') (s' : SR K mg ρ' H' S') (r : DR K mg ρ' H' d v) : Q v H' := by
  unfold finO at q
  split at q
  · split at q
    · rename_i j hj
      split at q
      · rename_i c hc
        split at q
        · rename_i ho
          cases r with
          | ref ha =>
            obtain ⟨s2, x2⟩ := s.retO s' e ho hj hc ha
            refine q.at2 x2 s2 (.ref ?_)
            show (ρ'.r.take ρ.r.length ++ [_])[S.cs.length]? = _
            have : (ρ'.r.take ρ.r.length).length = S.cs.length := by
              have := (List.getElem?_eq_some_iff.mp ha).1
              have := s.lr
              rw [List.length_take]; omega
            rw [← this]; exact snoc_last
        · exact False.elim q
      · exact False.elim q
    · exact fin_run s q e s' r
  · exact fin_run s q e s' r
theorem finX_run {K : PySem.W.Frag} {mg : Str → Option Value} {ρ ρ' : Adr} {H H' : Hp} {S S' : Store} {σ : L2.St} {W : WX} {c : Str} {fs : List Str} {vs : List D} {C dx : Addr} {fvs : List (Str × V)} {Q : VK} (s : SR K mg ρ H S) (q : RQ K mg ρ H σ W (finX S c fs vs S') Q) (e : Ext ρ.ent H ρ' H') (s' : SR K mg ρ' H' S')
    (hm : mg c = some (.ref C)) (hd : H' dx = some (.xd fvs)) (hn : ¬ ρ'.has dx) (hf : fvs.map (·.1) = fs) (r : DRs K mg ρ' H' vs (fvs.map (·.2))) : W (.ref C) (some dx) σ H' := by
  unfold finX at q
  split at q
  · rename_i h
    obtain ⟨s2, x2, c2⟩ := s.ret s' e h.2
    exact q _ H' C dx fvs x2 s2 hm hd (c2.nin _ _ hd (fun z => hn (cut_has z)) (fun z => by obtain ⟨_, _, e1, _⟩ := z; cases e1)) hf ((frzs_ok s' r h.1).monoC c2)
  · exact False.elim q
/-- THE RULE: a def, by its body -/
theorem fnG_of {P : Program} {w : World} {K : PySem.W.Frag} {mg : Str → Option Value} {base : Heap} {k : Nat} {f : Addr} {name qual : Str} {params : Arguments} {body : List Stmt} {scope : Scope} {dV kV doc pm cdv ct oc : Value} {an od : Option Addr} {osl : Array (Option Value)} {N ps : List Str} {nn : Nat} {own : Bool} {M : Sst}
    (lk : K.lookup f = some ⟨oc, od, .func (PySem.W.fnOf name qual params body scope dV kV doc pm an cdv ct), osl⟩) (hcd : PySem.W.codeIn K cdv qual = true) (Sc : FnScope N ps scope) (hnn : N.length = nn)
    (hbody : ∀ (A : Around) (outer : List Env) (s : Shared) (H : Hp) (E : XK), Room k (A.deeper (envOfC qual scope s.heap.objs.size f cdv)) → Cn (cxOf (L2.CX P w) P w K mg base N qual scope f cdv A outer s H E) → Takes (cxOf (L2.CX P w) P w K mg base N qual scope f cdv A outer s H E) (WE E) →
      PassesOwn (model P w) (cxOf (L2.CX P w) P w K mg base N qual scope f cdv A outer s H E).A (cxOf (L2.CX P w) P w K mg base N qual scope f cdv A outer s H E).env (cxOf (L2.CX P w) P w K mg base N qual scope f cdv A outer s H E).xe →
      PSs (cxOf (L2.CX P w) P w K mg base N qual scope f cdv A outer s H E) body (xS (cxOf (L2.CX P w) P w K mg base N qual scope f cdv A outer s H E) (WE E) M)) :
    FnG P w K mg base (k + 1) f (PySem.W.fnOf name qual params body scope dV kV doc pm an cdv ct) ps (runF own nn M) := by
  refine ⟨fun A outer s H args us vs ρ S ds Q E hr hg e0 hb hv hl sr hd q => ?_⟩
  refine LamX.run_ofS (N := N) lk hcd Sc hr e0 hb hv (by rw [hv.length]; exact hl) fun hr' => ?_
  refine ⟨_, hbody A outer s H E hr' ⟨rfl, ?_, hg⟩ (takes_of rfl rfl rfl rfl) (passes_of rfl), ρ.ent, startD nn ds, S.ent, ⟨?_, (fun m v z => nomatch z), ?_⟩, sr.ent, ?_⟩
  · have := hr'.un
    show (A.deeper _).units + 200 < cLine
    omega
  · unfold startD L2.start
    rw [List.length_append, List.length_append, List.length_map, List.length_map, List.length_replicate, List.length_replicate, hd.length, hnn]
  · intro i d h
    rw [← hnn] at h
    obtain ⟨v, h1, h2⟩ := start_at hd i d h
    exact ⟨v, h1, h2.monoC ent_ext⟩
  · unfold runF at q
    cases hM : M (startD nn ds) S.ent with
    | nx σ1 S1 => rw [hM] at q; exact fun ρ' H' σ e s' _ => fin_run sr q e s' .non
    | rt d S1 =>
      rw [hM] at q
      refine fun ρ' H' v e s' r => ?_
      cases own with
      | true => exact finO_run sr q e s' r
      | false => exact fin_run sr q e s' r
    | exc c fs ws σ1 S1 => rw [hM] at q; exact fun ρ' H' C dx fvs σ e s' _ hm hd hn hf r => finX_run (W := WE E) sr q e s' hm hd hn hf r
    | bk σ1 S1 => rw [hM] at q; exact False.elim q
    | ct σ1 S1 => rw [hM] at q; exact False.elim q
    | bad => rw [hM] at q; exact False.elim q
section
variable {X : Cx} {W : WX} {k : Nat} {f : Addr} {fd : FuncData} {ps : List Str} {F : List D → Store → Res} {x : Str} {p pos : Pos} {e : Expr} {es : List Expr} {M : Sm} {dds : List D} {dvs : List V} {ds : List Value}
def callF (n : Nat) (dds : List D) (F : List D → Store → Res) : List D → Store → Res := fun ds S => if (ds ++ dds).length = n then F (ds ++ dds) S else .bad
theorem RQ.toE {K : PySem.W.Frag} {mg : Str → Option Value} {ρ : Adr} {H : Hp} {σ : L2.St} {r : Res} {Q : VK} (q : RQ K mg ρ H σ W r Q) : RQ K mg ρ H [] (WE fun cls d H' => W cls d σ H') r Q := by
  cases r with
  | ok d S => exact q
  | exc c fs vs S => exact q
  | bad => exact q
theorem run_g {pins : List (Addr × Obj)} {σ : L2.St} {H : Hp} {s : Shared} {Q : VK} {us : List Value} {vs : List V} {ρ : Adr} {S : Store} {cs : List D} (G : FnG X.prog X.w X.K X.mg X.base k f fd ps F) (hr : Room k X.A) (cn : Cn X) (tk : Takes X W) (hb : L2.Binds X.K fd ps ds) (hdv : Vals dvs ds) (hdd : ∀ ρ H, DRs X.K X.mg ρ H dds dvs)
    (I : Inv X pins σ H s) (r : Vals vs us) (sr : SR X.K X.mg ρ H S) (dr : DRs X.K X.mg ρ H cs vs) (h : RQ X.K X.mg ρ H σ W (callF ps.length dds F cs S) Q) : wpAny (model X.prog X.w) X.A (call (.ref f) us) (EP X pins σ Q) X.xe s := by
  unfold callF at h
  split at h
  · rename_i hl
    have r2 : Vals (vs ++ dvs) (us ++ ds) := r.append hdv
    have d2 : DRs X.K X.mg ρ H (cs ++ dds) (vs ++ dvs) := dr.append (hdd ρ H)
    have hl2 : (us ++ ds).length = ps.length := by rw [← r2.length, ← d2.length]; exact hl
    refine wpAny_call (codeAny_mono (G.run X.A X.stack s H ⟨us, []⟩ (us ++ ds) (vs ++ dvs) ρ S (cs ++ dds) Q (fun cls d H' => W cls d σ H') hr cn.gd I.env0 (hb s us I.kIn hl2) r2 hl2 sr d2 h.toE) fun r s' hq => ?_)
    cases r with
    | error e => exact tk e s' (XE.of_call I (fun cls d H' h => h) hq)
    | ok fl =>
      cases fl with
      | ret u => exact I.after hq
      | next => exact False.elim hq
      | brk => exact False.elim hq
      | cont => exact False.elim hq
  · exact False.elim h
theorem x_callD (G : FnG X.prog X.w X.K X.mg X.base k f fd ps F) (hr : Room k X.A) (cn : Cn X) (tk : Takes X W) (hm : X.mg x = some (.ref f)) (hk : PySem.W.keepIn X.K (.ref f) = true) (hb : L2.Binds X.K fd ps ds) (hdv : Vals dvs ds) (hdd : ∀ ρ H, DRs X.K X.mg ρ H dds dvs)
    (ha : PA X (e :: es) (xA X W M)) (hg : Gl X x := by rfl) (hdb : (x == ("__debug__" : Str)) = false := by decide) (he : starEach (e :: es) X.env = (false, eval e X.env) :: starEach es X.env := by rfl) (hpl : (backTo pos (starEach es X.env)).any (·.1) = false := by rfl) :
    PE X (.Call (.Name x p) (e :: es) [] pos) (xE X W (evA M (callF ps.length dds F))) := by
  refine ⟨fun pins s σ H Q I ⟨ρ, σd, S, er, sr, q⟩ => ?_⟩
  refine wpAny_Call_Name_kw (ld_glob I hg hm ?_ hdb)
  refine PySem.W.callWith_K (h₀ := X.base) I.ok.mod.kin hk (thn (ha.run pos pins s σ H _ I ⟨ρ, σd, S, er, sr, RQA.bind q⟩) fun us s1 ⟨vs, H1, I1, r, ds1, S1, ρ1, x1, s1', r1, q1⟩ => ⟨I1.kIn, ?_⟩) he hpl
  exact run_g G hr cn tk hb hdv hdd I1 r s1' r1 q1
theorem x_call (G : FnG X.prog X.w X.K X.mg X.base k f fd ps F) (hr : Room k X.A) (cn : Cn X) (tk : Takes X W) (hm : X.mg x = some (.ref f)) (hk : PySem.W.keepIn X.K (.ref f) = true) (hb : L2.Binds X.K fd ps [])
    (ha : PA X (e :: es) (xA X W M)) (hg : Gl X x := by rfl) (hdb : (x == ("__debug__" : Str)) = false := by decide) (he : starEach (e :: es) X.env = (false, eval e X.env) :: starEach es X.env := by rfl) (hpl : (backTo pos (starEach es X.env)).any (·.1) = false := by rfl) :
    PE X (.Call (.Name x p) (e :: es) [] pos) (xE X W (evA M (callF ps.length [] F))) := x_callD G hr cn tk hm hk hb .nil (fun _ _ => .nil) ha hg hdb he hpl
theorem x_call0 (G : FnG X.prog X.w X.K X.mg X.base k f fd ps F) (hr : Room k X.A) (cn : Cn X) (tk : Takes X W) (hm : X.mg x = some (.ref f)) (hk : PySem.W.keepIn X.K (.ref f) = true) (hb : L2.Binds X.K fd ps []) (hg : Gl X x := by rfl) (hdb : (x == ("__debug__" : Str)) = false := by decide) :
    PE X (.Call (.Name x p) [] [] pos) (xE X W (fun _ S => callF ps.length [] F [] S)) := by
  refine ⟨fun pins s σ H Q I ⟨ρ, σd, S, er, sr, q⟩ => ?_⟩
  refine wpAny_Call_Name_kw (ld_glob I hg hm ?_ hdb)
  exact PySem.W.callWith_K0 I.kIn hk (run_g (us := []) G hr cn tk hb .nil (fun _ _ => .nil) I .nil sr .nil q)
end
end Ev
end

section
set_option maxHeartbeats 4000000
namespace Ev
open PySem PySem.Spec PyProof.Rows L2
open Classical
/-- what the written part says of a class C over ValueError whose __init__ is ValueError's: for C.__init__(self, ..) -/
structure PeI (K : PySem.W.Frag) (CP : Addr) : Prop where
  ga : PySem.W.specialIn K (.ref CP) "__getattribute__" = some (some (.builtin "type.__getattribute__"))
  rd : PySem.W.readsIn K CP (.type "type") = true
  fc : PySem.W.findCls K (.ref CP) (.type "type") "__init__" = some (.val (.builtin "ValueError.__init__"))
theorem pe_baseInit {X : Cx} {x : Str} {CP : Addr} {e : Expr} {es : List Expr} {ta : TA} {p1 p2 pos : Pos} {pl : Sem Bool} (F : PeI X.K CP) (hm : X.mg x = some (.ref CP)) (ha : PA X (e :: es) ta) (hg : Gl X x := by rfl) (hdb : (x == ("__debug__" : Str)) = false := by decide)
    (hc : eval (.Call (.Attribute (.Name x p1) "__init__" p2) (e :: es) [] pos) X.env = (do
      let ov ← eval (.Name x p1) X.env
      standAt p2.atName
      let (f, first) ← holding [ov] (getMethod ov "__init__" pl)
      callWith pos f first (backTo pos (starEach (e :: es) X.env)) (backToKw pos (keywordEach [] X.env))) := by rfl)
    (he : starEach (e :: es) X.env = (false, eval e X.env) :: starEach es X.env := by rfl) (hpl : (backTo pos (starEach es X.env)).any (·.1) = false := by rfl) :
    PE X (.Call (.Attribute (.Name x p1) "__init__" p2) (e :: es) [] pos) (tVeI X.K ta) := by
  refine ⟨fun pins s σ H Q I h => ?_⟩
  refine PySem.W.methodCall_KW (ld_glob I hg hm ?_ hdb) hc
  refine PySem.W.method_cls I.kIn F.ga (PySem.W.cls_value I.kIn F.rd F.fc (by decide +kernel) ?_)
  show wpAny _ _ (callWith pos (Value.builtin "ValueError.__init__") [] (backTo pos (starEach (e :: es) X.env)) []) _ _ _
  refine PyProof.Rows.callWith_method1 (thn (ha.run pos pins _ σ H _ (I.tok _) h) fun vs0 t1 ⟨vs, G1, J1, r1, a, C, ws, ev, hl, T, ea, q⟩ => ?_) he hpl
  subst ev
  cases r1 with
  | @cons _ w0 _ wr ra rr =>
    obtain rfl : w0 = Value.ref a := ra
    exact oinit_ok T J1 ea (by rw [← Paired.length rr, sizeLine_eq]; omega) fun t2 J2 => ⟨.non, G1, J2, rfl, q⟩
/-- self.f = .. for each field, from the slot i on -/
def tOsts (K : PySem.W.Frag) : List Str → Nat → TS
  | [], _ => tNext
  | f :: r, i => tSeq (tOst K f (tVar 0) (tVar i)) (tOsts K r (i + 1))
def tInit (K : PySem.W.Frag) (msg : Str) (fs : List Str) : TS := tSeq (tDrop (tVeI K (tCons (tVar 0) (tCons (tC (.str msg)) tNil)))) (tOsts K fs 1)
/-- an exception's __init__ -/
def initSp (K : PySem.W.Frag) (fs : List Str) : Sp := fun vs H Q _ => ∃ (a C : Addr) (ys : List V), vs = .ref a :: ys ∧ ys.length = fs.length ∧ OexC K C ∧ (∀ f ∈ fs, PySem.W.findIn K (.ref C) f = some none) ∧ H a = some (exo a C none) ∧
  ∀ dx, H dx = none → dx ≠ a → Q .non (upd (upd H dx (exd dx (fs.zip ys).reverse)) a (exo a C (some dx)))
theorem osts_run {K : PySem.W.Frag} {a C dx : Addr} (T : OexC K C) : ∀ (fs : List Str) (i : Nat) (ys : List V) (done : List (Str × V)) (σ : L2.St) (H : Hp) (Z : Ends), (∀ f ∈ fs, PySem.W.findIn K (.ref C) f = some none) → H a = some (exo a C (some dx)) → H dx = some (exd dx done) → dx ≠ a → done.length + fs.length ≤ 900 →
    ys.length = fs.length → σ[0]? = some (some (.ref a)) → (∀ j y, ys[j]? = some y → σ[i + j]? = some (some y)) → Z.nx σ (upd H dx (exd dx ((fs.zip ys).reverse ++ done))) → tOsts K fs i Z σ H
  | [], i, ys, done, σ, H, Z, _, ha, hd, _, _, hl, _, _, q => by
    have e : upd H dx (exd dx ((([] : List Str).zip ys).reverse ++ done)) = H := by
      funext b
      by_cases hb : b = dx
      · rw [hb, upd_same, hd]; rfl
      · rw [upd_ne hb]
    rw [e] at q
    exact q
  | f :: r, i, ys, done, σ, H, Z, hf, ha, hd, hne, hn, hl, h0, hs, q => by
    cases ys with
    | nil => cases hl
    | cons y ys =>
      refine ⟨y, hs 0 y rfl, .ref a, h0, a, C, rfl, T, hf f List.mem_cons_self, .inr ⟨dx, done, ha, hd, by have := hn; rw [List.length_cons] at this; omega, ?_⟩⟩
      refine osts_run T r (i + 1) ys ((f, y) :: done) σ _ Z (fun g hg => hf g (List.mem_cons_of_mem _ hg)) (by rw [upd_ne (Ne.symm hne)]; exact ha) upd_same hne (by rw [List.length_cons] at hn ⊢; omega) (by simpa using hl) h0 (fun j z hz => ?_) ?_
      · have := hs (j + 1) z (by simpa using hz)
        rwa [show i + (j + 1) = i + 1 + j by omega] at this
      · have e : upd (upd H dx (exd dx ((f, y) :: done))) dx (exd dx ((r.zip ys).reverse ++ (f, y) :: done)) = upd H dx (exd dx ((((f :: r).zip (y :: ys))).reverse ++ done)) := by
          rw [upd_upd, List.zip_cons_cons, List.reverse_cons, List.append_assoc]
          rfl
        show Z.nx σ (upd (upd H dx (exd dx ((f, y) :: done))) dx (exd dx ((r.zip ys).reverse ++ (f, y) :: done)))
        rw [e]
        exact q
theorem init_run {K : PySem.W.Frag} {msg : Str} {f : Str} {fs : List Str} {N : List Str} {vs : List V} {H : Hp} {Q : VK} {E : XK} (hN : vs.length = N.length) (hn : fs.length ≤ 800) (h : initSp K (f :: fs) vs H Q E) : tInit K msg (f :: fs) { nx := fun _ H' => Q .non H', rt := Q } (L2.start N vs) H := by
  obtain ⟨a, C, ys, rfl, hl, T, hf, ha, q⟩ := h
  have at_ : ∀ (j : Nat) (v : V), (V.ref a :: ys)[j]? = some v → (L2.start N (V.ref a :: ys))[j]? = some (some v) := fun j v hj => by
    unfold L2.start
    have hlt := (List.getElem?_eq_some_iff.mp hj).1
    rw [List.getElem?_append_left (by simpa using hlt), List.getElem?_map, hj]; rfl
  refine ⟨.ref a, at_ 0 _ rfl, a, C, [.str msg], rfl, (by show 1 ≤ 1000; decide), T, ha, ?_⟩
  cases ys with
  | nil => cases hl
  | cons y ys =>
    refine ⟨y, at_ 1 y rfl, .ref a, at_ 0 _ rfl, a, C, rfl, T, hf f List.mem_cons_self, .inl ⟨ha, fun dx hd hne => ?_⟩⟩
    refine osts_run (dx := dx) T fs 2 ys [(f, y)] _ _ _ (fun g hg => hf g (List.mem_cons_of_mem _ hg)) upd_same (by rw [upd_ne hne, upd_same]) hne (by rw [List.length_singleton]; omega) (by simpa using hl) (at_ 0 _ rfl) (fun j z hz => ?_) ?_
    · have := at_ (j + 2) z (by simpa using hz)
      rwa [show j + 2 = 2 + j by omega] at this
    · have e : upd (upd (upd H dx (exd dx [(f, y)])) a (exo a C (some dx))) dx (exd dx ((fs.zip ys).reverse ++ [(f, y)])) = upd (upd H dx (exd dx (((f :: fs).zip (y :: ys)).reverse))) a (exo a C (some dx)) := by
        funext b
        by_cases hb : b = dx
        · rw [hb, upd_same, upd_ne hne, upd_same, List.zip_cons_cons, List.reverse_cons]
        · rw [upd_ne hb]
          by_cases hba : b = a
          · rw [hba, upd_same, upd_same]
          · rw [upd_ne hba, upd_ne hb, upd_ne hba, upd_ne hb]
      show Q .non _
      rw [e]
      exact q dx hd hne
theorem init_fn {P : Program} {w : World} {K : PySem.W.Frag} {mg : Str → Option Value} {base : Heap} {f : Addr} {name qual : Str} {params : Arguments} {body : List Stmt} {scope : Scope} {dV kV doc pm cdv ct oc : Value} {an od : Option Addr} {osl : Array (Option Value)} {N : List Str} {msg f0 : Str} {fs : List Str}
    (lk : K.lookup f = some ⟨oc, od, .func (PySem.W.fnOf name qual params body scope dV kV doc pm an cdv ct), osl⟩) (hcd : PySem.W.codeIn K cdv qual = true) (Sc : FnScope N N scope) (hl : N.length = fs.length + 2) (hn : fs.length ≤ 800)
    (hbody : ∀ (A : Around) (outer : List Env) (s : Shared) (H : Hp) (E : XK), PSs (cxOf (L2.CX P w) P w K mg base N qual scope f cdv A outer s H E) body (tInit K msg (f0 :: fs))) :
    FnOk P w K mg base (L2.CX P w) 1 f (PySem.W.fnOf name qual params body scope dV kV doc pm an cdv ct) N (initSp K (f0 :: fs)) :=
  fn_of (k := 0) lk hcd Sc (fun vs H Q E ⟨a, C, ys, e, el, _⟩ => by rw [e, List.length_cons, el, hl]; rfl) fun A outer s H vs Q E hr h => ⟨_, hbody A outer s H E, init_run (by obtain ⟨a, C, ys, e, el, _⟩ := h; rw [e, List.length_cons, el, hl]; rfl) hn h⟩
/-- what is known of an exception class c -/
structure ExC (P : Program) (w : World) (K : PySem.W.Frag) (mg : Str → Option Value) (base : Heap) (c : Str) (C fI : Addr) (fd : FuncData) (fs : List Str) : Prop where
  cls : OexC K C
  ini : PySem.W.findIn K (.ref C) "__init__" = some (some (.ref fI))
  tyI : PySem.W.typeIn K (.ref fI) = some (.type "function")
  fn : FnOk P w K mg base (L2.CX P w) 1 fI fd ("self" :: fs) (initSp K fs)
  bnd : L2.Binds K fd ("self" :: fs) []
  mgc : mg c = some (.ref C)
  nof : ∀ f ∈ fs, PySem.W.findIn K (.ref C) f = some none
def sRaise (c : Str) (fs : List Str) (M : Sm) : Sst := fun σd S => (M σd S).go σd fun d S1 => match d with
  | .tup ds => if ds.length = fs.length then .exc c fs.reverse ds.reverse σd S1 else .bad
  | _ => .bad
theorem s_raise {X : Cx} {W : WX} {c : Str} {C fI : Addr} {fd : FuncData} {fs : List Str} {e : Expr} {es : List Expr} {M : Sm} {p cpos pos : Pos} (F : ExC X.prog X.w X.K X.mg X.base c C fI fd fs) (hfl : fs.length ≤ 900) (hr : Room 2 X.A) (cn : Cn X) (tk : Takes X W) (ha : PA X (e :: es) (xA X W M)) (hg : Gl X c := by rfl)
    (hdb : (c == ("__debug__" : Str)) = false := by decide) (he : starEach (e :: es) X.env = (false, eval e X.env) :: starEach es X.env := by rfl) (hpl : (backTo cpos (starEach es X.env)).any (·.1) = false := by rfl) :
    PS X (.Raise (some (.Call (.Name c p) (e :: es) [] cpos)) none pos) (xS X W (sRaise c fs M)) :=
  psImp (ps_raise cn.calm tk (pmk_oex F.cls F.ini F.tyI F.fn hr F.bnd .nil (passes_call tk fun _ _ _ _ z => False.elim z) hg F.mgc ha hdb he hpl)) fun Z σ H ⟨ρ, σd, S, er, sr, q⟩ =>
    ⟨ρ, σd, S, er, sr, (SQ.goA (k := fun ds S1 => if ds.length = fs.length then .exc c fs.reverse ds.reverse σd S1 else .bad) er q).mono fun vs H1 ⟨ds, S1, ρ1, x1, s1, r1, er1, q1⟩ => by
      split at q1
      · rename_i hl
        have hvl : vs.length = fs.length := by rw [← r1.length]; exact hl
        refine ⟨by omega, fun a ha => ?_⟩
        have hva : (vs ++ ([] : List V)) = vs := List.append_nil vs
        rw [hva]
        refine ⟨a, C, vs, rfl, hvl, F.cls, F.nof, upd_same, fun dx hd hne => ⟨rfl, dx, (fs.zip vs).reverse, upd_same, by rw [upd_ne hne, upd_same], ?_, ?_⟩⟩
        · rw [upd_ne hne] at hd; exact hd
        · have hd' : H1 dx = none := by rw [upd_ne hne] at hd; exact hd
          have e : upd (del (upd (upd (upd H1 a (exo a C none)) dx (exd dx (fs.zip vs).reverse)) a (exo a C (some dx))) a) dx (.xd (fs.zip vs).reverse) = upd H1 dx (.xd (fs.zip vs).reverse) := by
            funext b
            by_cases hb : b = dx
            · rw [hb, upd_same, upd_same]
            · rw [upd_ne hb, upd_ne hb]
              by_cases hba : b = a
              · rw [hba, del_same, ha]
              · rw [del_ne hba, upd_ne hba, upd_ne hb, upd_ne hba]
          rw [e]
          refine q1 ρ1 _ C dx _ σ (Ext.new s1 hd') (s1.upd_new hd') (er1.mono (Ext.new s1 hd')) F.mgc upd_same (s1.new hd') ?_ ?_
          · rw [List.map_reverse, zip_fst hvl.symm]
          · rw [List.map_reverse, zip_snd hvl.symm]
            exact (r1.mono (Ext.new s1 hd')).reverse
      · exact False.elim q1⟩
end Ev
end

section
set_option maxHeartbeats 4000000
namespace Ev
open PySem PySem.Spec PyProof.Rows L2
open Classical
/-- the ends of a clause whose name is the slot i -/
def asEnds (i : Nat) (Z : Ends) : Ends := { nx := fun τ G => Z.nx (τ.set i none) G, rt := Z.rt, bk := fun τ G => Z.bk (τ.set i none) G, ct := fun τ G => Z.ct (τ.set i none) G }
/-- what the clauses wish of an exception of the body, one after the other; the slot i is their name's -/
def wAll (K : PySem.W.Frag) (i : Nat) (Wout : WX) (Z : Ends) : List (Value × (Addr → Value → Option Addr → TS)) → WX
  | [] => Wout
  | (c, ts) :: r => fun cls d τ G => ∃ b, PySem.W.exmOne K cls c = some b ∧ (b = true → ∀ a, G a = none → ts a cls d (asEnds i Z) (τ.set i (some (.ref a))) G) ∧ (b = false → wAll K i Wout Z r cls d τ G)
inductive AllHds (X : Cx) (n : Str) : List ExceptHandler → List (Value × (Addr → Value → Option Addr → TS)) → Prop
  | nil : AllHds X n [] []
  | cons {x : Str} {c : Value} {ts : Addr → Value → Option Addr → TS} {st0 : Stmt} {rest : List Stmt} {np hpos : Pos} {more : List ExceptHandler} {l : List (Value × (Addr → Value → Option Addr → TS))} (hc : Names X x c)
      (hsu : ∀ (a : Addr) (ox : Obj) (cls : Value) (d : Option Addr) (pn : List (Addr × Obj)), Zc cls d ox → (∃ ws, ox.data = .fields ws) → PSs (X.suite a ((a, ox) :: pn)) (st0 :: rest) (ts a cls d)) (r : AllHds X n more l) :
      AllHds X n (.ExceptHandler (some (.Name x np)) (some n) (st0 :: rest) hpos :: more) ((c, ts) :: l)
section
variable {X : Cx} {n : Str} {i : Nat} {body : List Stmt} {hd0 : ExceptHandler} {hds : List ExceptHandler} {l : List (Value × (Addr → Value → Option Addr → TS))} {pos : Pos} {tb : WX → TS} {Wout : WX}
theorem ps_try_all (hs : X.stack = X.env :: X.outer) (hf : X.env.frame = some X.env.locals) (hN : X.N.Nodup) (hi : X.N[i]? = some n) (hln : X.env.kindOf n = some .local) (tk : Takes X Wout)
    (hb : ∀ (W : WX) (pn : List (Addr × Obj)) (xe : Value → Shared → Prop), Takes (X.tr pn xe) W → PassesOwn (model X.prog X.w) X.A X.env xe → PSs (X.tr pn xe) body (tb W))
    (hh : AllHds X n (hd0 :: hds) l) : PS X (.Try body (hd0 :: hds) [] [] pos) (fun Z σ H => tb (wAll X.K i Wout Z l) Z σ H) := by
  refine ⟨fun pins s σ H Z I hbeg => ?_⟩
  have okX := I.ok
  have frX : X.A.frames = some (X.env :: X.outer) := by rw [okX.frames, hs]
  have locN : Loc X.env.scope n := .inl hln
  refine wpAny_Try_except ?_
  refine wpAny_mono ((hb (wAll X.K i Wout Z l) (X.pn ++ pins) (fun ex t1 => wpAny (model X.prog X.w) X.A (noteFrame ex X.env) (fun _ t2 => wpAny (model X.prog X.w) X.A (setFlight ex none) (fun _ t3 =>
    wpAny (model X.prog X.w) X.A (handleBy ex X.env (hd0 :: hds)) (SP X pins Z) X.xe t3) X.xe t2) X.xe t1) (fun u t0 xx => ?_) PassesOwn.looking).run [] s σ H Z (I.toTry _) hbeg) (fun fl t1 hsp => ?_) (fun ex t1 he => he)
  · -- an exception has come
    obtain ⟨a, B, tI, pinsI, τ, G, cls, d, rfl, Jt, keepB, upB, skyB, noneA, osA, bareA, wish⟩ := xx
    have J : Inv X pins τ G tI := Jt.ofTry okX
    have skyX : Sky B (X.env :: X.outer) a (Zc cls d) X.env.locals t0.heap := by rw [← hs]; exact skyB
    show wpAny (model X.prog X.w) X.A (noteFrame (.ref a) X.env) _ _ _
    refine Sky.land Zc.steady frX hf skyX fun hp3 fly3 upp3 => ?_
    have J3 : Inv X pins τ G { t0 with heap := hp3 } := J.landed keepB fly3.1 (upB.trans upp3) osA bareA
    obtain ⟨ox3, ws3, get3, zc3, dat3⟩ := fly3.there
    have outFr : ∀ {hp : Heap} {ob : Obj} {ws : Array Value}, hp.FunFrames B (X.env :: X.outer) → hp.get? a = some ob → ob.data = .fields ws → a ∉ frs (X.env :: X.outer) := fun {hp ob ws} ffr e1 e2 hmem => by
      obtain ⟨_, ob2, e3, nof⟩ := ffr.mem hmem
      rw [e1] at e3; cases e3
      exact nof _ e2
    have outA := outFr fly3.2.2.1 get3 dat3
    have neL : a ≠ X.env.locals := fun z => outA (List.mem_filterMap.mpr ⟨X.env, List.mem_cons_self, by rw [hf, z]⟩)
    have neF : a ∉ X.fs := fun hmem => by
      obtain ⟨en, he, q⟩ := List.mem_filterMap.mp hmem
      exact outA (List.mem_filterMap.mpr ⟨en, List.mem_cons_of_mem _ he, q⟩)
    have Su3 := J3.suite get3 dat3 noneA neL neF
    have each : ∀ {hs2 : List ExceptHandler} {l2 : List (Value × (Addr → Value → Option Addr → TS))}, AllHds X n hs2 l2 → wAll X.K i Wout Z l2 cls d τ G →
        wpAny (model X.prog X.w) X.A (handleBy (.ref a) X.env hs2) (SP X pins Z) X.xe { t0 with heap := hp3 } := by
      intro hs2 l2 hk
      induction hk with
      | nil =>
        intro wsh
        refine wpAny_handleBy_nil ?_
        obtain ⟨_, _, _, ob, ws, T, _, _, e1, _, e2, e3, _⟩ := id fly3
        unfold PySem.passOn
        refine wpAny_bind (wpAny_field e1 e2 e3 ?_)
        rw [if_neg (show ¬ ((Value.ref T == Value.none) = true) from by simp)]
        have thrown : wpAny (model X.prog X.w) X.A (setFlight (.ref a) X.env.frame) (fun _ t4 => wpAny (model X.prog X.w) X.A (throw (.ref a) : Sem Flow) (SP X pins Z) X.xe t4) X.xe { t0 with heap := hp3 } := by
          rw [hf]
          refine HandSPX.setFlight_upZ fly3 fun hp4 fly4 upp4 => wpAny_throw (tk _ _ ?_)
          exact ⟨a, B, tI, pins, τ, G, cls, d, rfl, J, keepB, (upB.trans upp3).trans upp4, .inr (.inr (by rw [hs]; exact fly4)), noneA, osA, bareA, wsh⟩
        first
          | exact wpAny_bind (wpAny_pure (wpAny_bind thrown))
          | exact wpAny_bind thrown
      | @cons x c ts st0 rest np hpos more l3 hc hsu rr ih =>
        intro wsh
        obtain ⟨b, eb, yes, no⟩ := wsh
        refine wpAny_handleBy_cons (codeAny_handlers_test ?_) (by intro q; cases q)
        have lkT : PySem.W.Looks (model X.prog X.w) hp3 (typeOf (.ref a)) cls := fun A Q E t k q => wpAny_typeOf_ref (k _ _ get3) (by rw [zc3.1]; exact q)
        have lkM := PySem.W.exm_one (M := model X.prog X.w) (J3.kIn) lkT eb
        have named : ∀ {Q : Value → Shared → Prop} {E : Value → Shared → Prop}, Q c { t0 with heap := hp3 } → wpAny (model X.prog X.w) (X.A.mark (some (.ref a))) (eval (.Name x np) X.env) Q E { t0 with heap := hp3 } := fun {Q E} q => by
          obtain ⟨g1, g2, g3 | ⟨g3, g4, g5⟩⟩ := hc
          · exact ld_glob (X := X.suite a ((a, ox3) :: (X.pn ++ pins))) Su3 g1 g3 q g2
          · exact ld_blt (X := X.suite a ((a, ox3) :: (X.pn ++ pins))) Su3 g1 g3 g4 q g5 g2
        refine named (lkM.here ?_)
        cases b with
        | true =>
          refine codeAny_handlers_suite_as ?_
          refine HandSPX.lands_againZ fly3 fun hp4 fly4 upp4 => ?_
          have J4 : Inv X pins τ G { t0 with heap := hp4 } := J.landed keepB fly4.1 ((upB.trans upp3).trans upp4) osA bareA
          obtain ⟨ox4, ws4, get4, zc4, dat4⟩ := fly4.there
          have Su4 := J4.suite get4 dat4 noneA neL neF
          refine store_ok (X := X.suite a ((a, ox4) :: (X.pn ++ pins))) (v := .ref a) Su4 hN hi locN rfl (fun t5 Su5 => ?_) (.inr hln)
          refine wpAny_mono ((hsu a ox4 cls d (X.pn ++ pins) zc4 ⟨_, dat4⟩).run [] t5 _ G _ Su5 (yes rfl a noneA)) (fun fl t6 hsp => ?_) (fun _ _ z => False.elim z)
          have done : ∀ {τ6 : L2.St} {G6 : Hp} {Q : Shared → Prop}, Inv (X.suite a ((a, ox4) :: (X.pn ++ pins))) [] τ6 G6 t6 → (∀ t7, Inv X pins (τ6.set i none) G6 t7 → Q t7) →
              wpAny (model X.prog X.w) X.A (do bindName X.env n .none; unbindBehindTheSuite X.env n hpos) (fun _ t7 => Q t7) X.xe t6 := fun {τ6 G6 Q} Su6 hq => gone_ok (Su6.unsuite okX) hN hi hln hq
          cases fl with
          | next =>
            obtain ⟨τ6, G6, Su6, q6⟩ := hsp
            exact done Su6 fun t7 J7 => ⟨_, _, J7, q6⟩
          | brk =>
            obtain ⟨τ6, G6, Su6, q6⟩ := hsp
            exact done Su6 fun t7 J7 => ⟨_, _, J7, q6⟩
          | cont =>
            obtain ⟨τ6, G6, Su6, q6⟩ := hsp
            exact done Su6 fun t7 J7 => ⟨_, _, J7, q6⟩
          | ret u =>
            obtain ⟨v6, τ6, G6, Su6, r6, q6⟩ := hsp
            exact done Su6 fun t7 J7 => ⟨_, _, _, J7, r6, q6⟩
        | false =>
          show wpAny _ X.A (handleBy (.ref a) X.env more) _ _ _
          exact ih (no rfl)
    exact each hh wish
  · cases fl with
    | next =>
      obtain ⟨τ, G, Jt, q⟩ := hsp
      exact wpAny_execs_nil ⟨τ, G, Jt.ofTry okX, q⟩
    | brk =>
      obtain ⟨τ, G, Jt, q⟩ := hsp
      exact ⟨τ, G, Jt.ofTry okX, q⟩
    | cont =>
      obtain ⟨τ, G, Jt, q⟩ := hsp
      exact ⟨τ, G, Jt.ofTry okX, q⟩
    | ret u =>
      obtain ⟨v, τ, G, Jt, rv, q⟩ := hsp
      exact ⟨v, τ, G, Jt.ofTry okX, rv, q⟩
end
end Ev
end

section
set_option maxHeartbeats 4000000
namespace Ev
open PySem PySem.Spec PyProof.Rows L2
open Classical
/-- a clause: its class, the tag, the fields told -/
structure Hdl where
  c : Str
  tag : Str
  ff : List Str
def flds (fs : List Str) (vs : List D) : List Str → Option (List D)
  | [] => some []
  | f :: r => (match look f fs vs, flds fs vs r with
    | some d, some ds => some (d :: ds)
    | _, _ => none)
/-- the clauses, one after the other; kn: the classes known to be no kin of one another -/
def sHand (kn : List Str) (c : Str) (fs : List Str) (vs : List D) (σd : Env1) (S : Store) : List Hdl → SRes
  | [] => .exc c fs vs σd S
  | h :: r => if c ∈ kn ∧ h.c ∈ kn then (if c = h.c then (match flds fs vs h.ff with
    | some ds => if ds.length < 16777216 then .rt (.tup (.str h.tag :: ds)) S else .bad
    | none => .bad) else sHand kn c fs vs σd S r) else .bad
def sTryF (kn : List Str) (B : Sst) (hs : List Hdl) : Sst := fun σd S => match B σd S with
  | .exc c fs vs σ1 S1 => if σ1.length = σd.length then sHand kn c fs vs σ1 S1 hs else .bad
  | r => r
/-- the classes are no kin of one another -/
def Kin (K : PySem.W.Frag) (mg : Str → Option Value) (kn : List Str) : Prop := ∀ c ∈ kn, ∀ h ∈ kn, ∀ Cc Ch : Addr, mg c = some (.ref Cc) → mg h = some (.ref Ch) → PySem.W.exmOne K (.ref Cc) (.ref Ch) = some (decide (c = h))
def tFl (a : Addr) (cls : Value) (d : Option Addr) (C : Addr) (i : Nat) : List Str → TA
  | [] => tNil
  | f :: r => tCons (tXf a cls d C f (tVar i)) (tFl a cls d C i r)
def rTup : List V → Hp → VK → Prop := fun vs H Q => vs.length ≤ sizeLine ∧ ∀ p, H p = none → Q (.ref p) (upd H p (.tup vs))
def tsF (C : Addr) (i : Nat) (h : Hdl) (a : Addr) (cls : Value) (d : Option Addr) : TS := tRet (tCB rTup (tCons (tC (.str h.tag)) (tFl a cls d C i h.ff)))
inductive AllF (X : Cx) (n : Str) (i : Nat) : List ExceptHandler → List Hdl → Prop
  | nil : AllF X n i [] []
  | cons {h : Hdl} {C : Addr} {st0 : Stmt} {rest : List Stmt} {np hpos : Pos} {more : List ExceptHandler} {l : List Hdl} (hm : X.mg h.c = some (.ref C)) (hg : Gl X h.c) (hdb : (h.c == ("__debug__" : Str)) = false)
      (hsu : ∀ (a : Addr) (ox : Obj) (cls : Value) (d : Option Addr) (pn : List (Addr × Obj)), Zc cls d ox → (∃ ws, ox.data = .fields ws) → PSs (X.suite a ((a, ox) :: pn)) (st0 :: rest) (tsF C i h a cls d)) (r : AllF X n i more l) :
      AllF X n i (.ExceptHandler (some (.Name h.c np)) (some n) (st0 :: rest) hpos :: more) (h :: l)
/-- return (tag, n.f, ..) -/
theorem pss_retF {X : Cx} {es : List Expr} {C : Addr} {i k : Nat} {h : Hdl} {a : Addr} {cls : Value} {d : Option Addr} {pos rpos : Pos} (hp : PA X es (tCons (tC (.str h.tag)) (tFl a cls d C i h.ff))) : PSs X [.Return (some (.Tuple es k pos)) rpos] (tsF C i h a cls d) := pss_one (ps_ret (pe_tup hp))
theorem flds_v {K : PySem.W.Frag} {mg : Str → Option Value} {ρ : Adr} {H : Hp} : ∀ {fvs : List (Str × V)} {vs : List D} {f : Str} {d : D}, DRs K mg ρ H vs (fvs.map (·.2)) → look f (fvs.map (·.1)) vs = some d → ∃ v, fvs.lookup f = some v ∧ DR K mg ρ H d v
  | [], vs, f, d, r, h => by cases vs <;> simp [look] at h
  | p :: fvs, vs, f, d, r, h => by
    rw [List.map_cons] at r
    cases r with
    | cons r1 r2 =>
      rw [List.map_cons] at h
      simp only [look] at h
      split at h
      · rename_i e
        cases h
        subst e
        exact ⟨p.2, by simp [List.lookup], r1⟩
      · rename_i e
        obtain ⟨v, h1, h2⟩ := flds_v r2 h
        have : (f == p.1) = false := by
          rw [beq_eq_false_iff_ne]; exact fun z => e z.symm
        exact ⟨v, by simp [List.lookup, this]; exact h1, h2⟩
section
variable {X : Cx} {W : WX} {n : Str} {i : Nat} {kn : List Str}
theorem fl_run {a C dx : Addr} {fvs : List (Str × V)} {σ : L2.St} {ρ : Adr} {H : Hp} {vs : List D} (hσ : σ[i]? = some (some (.ref a))) (hd : H dx = some (.xd fvs)) (hv : DRs X.K X.mg ρ H vs (fvs.map (·.2))) :
    ∀ (ff : List Str) (ds : List D) (Q : List V → Hp → Prop), flds (fvs.map (·.1)) vs ff = some ds → (∀ us, DRs X.K X.mg ρ H ds us → Q us H) → tFl a (.ref C) (some dx) C i ff σ H Q
  | [], ds, Q, h, q => by
    cases h
    exact q [] .nil
  | f :: r, ds, Q, h, q => by
    unfold flds at h
    split at h
    · rename_i d ds' h1 h2
      cases h
      obtain ⟨v, hl, rv⟩ := flds_v hv h1
      refine ⟨.ref a, hσ, rfl, rfl, dx, fvs, v, rfl, hd, hl, ?_⟩
      exact fl_run hσ hd hv r ds' _ h2 fun us ru => q (v :: us) (.cons rv ru)
    · cases h
theorem hand_run (hk : Kin X.K X.mg kn) (hi : i < X.N.length) : ∀ {hds : List ExceptHandler} {hs : List Hdl}, AllF X n i hds hs → ∃ l, AllHds X n hds l ∧ ∀ (Z : Ends) (c : Str) (fs : List Str) (vs : List D) (σd : Env1) (S : Store) (ρ : Adr) (H : Hp) (C dx : Addr) (fvs : List (Str × V)) (σ : L2.St),
    SQ X.K X.mg (cvOf X) ρ H W (sHand kn c fs vs σd S hs) Z → SR X.K X.mg ρ H S → ER X.K X.mg (cvOf X) ρ H σd σ → σ.length = X.N.length → X.mg c = some (.ref C) → H dx = some (.xd fvs) → ¬ ρ.has dx → fvs.map (·.1) = fs → DRs X.K X.mg ρ H vs (fvs.map (·.2)) → wAll X.K i W Z l (.ref C) (some dx) σ H
  | _, _, .nil => ⟨[], .nil, fun Z c fs vs σd S ρ H C dx fvs σ q s er _ hm hd hn hf hv => q ρ H C dx fvs σ Ext.refl s er hm hd hn hf hv⟩
  | _, _, @AllF.cons _ _ _ h Ch st0 rest np hpos more l hmh hg hdb hsu r => by
    obtain ⟨l', a1, a2⟩ := hand_run hk hi r
    refine ⟨(.ref Ch, tsF Ch i h) :: l', .cons ⟨hg, hdb, .inl hmh⟩ hsu a1, fun Z c fs vs σd S ρ H C dx fvs σ q s er hl hm hd hn hf hv => ?_⟩
    unfold sHand at q
    split at q
    · rename_i hkn
      refine ⟨decide (c = h.c), hk c hkn.1 h.c hkn.2 C Ch hm hmh, fun hb a ha => ?_, fun hb => ?_⟩
      · have hc : c = h.c := of_decide_eq_true hb
        rw [if_pos hc] at q
        have hCC : C = Ch := by rw [hc, hmh] at hm; cases hm; rfl
        subst hCC
        split at q
        · rename_i ds hds
          split at q
          · rename_i hlen
            have hσ : (σ.set i (some (V.ref a)))[i]? = some (some (.ref a)) := List.getElem?_set_self (by rw [hl]; exact hi)
            show tCons (tC (.str h.tag)) (tFl a (.ref C) (some dx) C i h.ff) (σ.set i (some (V.ref a))) H (fun us H1 => rTup us H1 (asEnds i Z).rt)
            refine fl_run hσ hd hv h.ff ds _ (by rw [hf]; exact hds) fun us ru => ⟨?_, fun p hp => ?_⟩
            · rw [List.length_cons, ← ru.length, sizeLine_eq]; omega
            · exact q ρ (upd H p (.tup (.str h.tag :: us))) (.ref p) (Ext.new s hp) (s.upd_new hp) (.tup upd_same (s.new hp) (.cons (.str _) (ru.mono (Ext.new s hp))))
          · exact False.elim q
        · exact False.elim q
      · have hc : ¬ c = h.c := of_decide_eq_false hb
        rw [if_neg hc] at q
        exact a2 Z c fs vs σd S ρ H C dx fvs σ q s er hl hm hd hn hf hv
    · exact False.elim q
theorem s_tryF {B : Sst} {body : List Stmt} {hd0 : ExceptHandler} {hds : List ExceptHandler} {hs : List Hdl} {pos : Pos} (hst : X.stack = X.env :: X.outer) (hfr : X.env.frame = some X.env.locals) (hN : X.N.Nodup) (hi : X.N[i]? = some n) (hln : X.env.kindOf n = some .local) (tk : Takes X W) (hk : Kin X.K X.mg kn)
    (hb : ∀ (W' : WX) (pn : List (Addr × Obj)) (xe : Value → Shared → Prop), Takes (X.tr pn xe) W' → PassesOwn (model X.prog X.w) X.A X.env xe → PSs (X.tr pn xe) body (xS (X.tr pn xe) W' B))
    (hh : AllF X n i (hd0 :: hds) hs) : PS X (.Try body (hd0 :: hds) [] [] pos) (xS X W (sTryF kn B hs)) := by
  obtain ⟨l, a1, a2⟩ := hand_run (W := W) hk (List.getElem?_eq_some_iff.mp hi).1 hh
  refine ⟨fun pins s σ H Z I hq => ?_⟩
  refine (ps_try_all (i := i) (tb := fun W' => tS X.K X.mg (cvOf X) W' B) (Wout := W) hst hfr hN hi hln tk hb a1).run pins s σ H Z I ?_
  obtain ⟨ρ, σd, S, er, sr, q⟩ := hq
  refine ⟨ρ, σd, S, er, sr, ?_⟩
  unfold sTryF at q
  have hl : σd.length = X.N.length := er.len.trans I.len
  cases hB : B σd S with
  | nx σ1 S1 => rw [hB] at q; exact q
  | bk σ1 S1 => rw [hB] at q; exact q
  | ct σ1 S1 => rw [hB] at q; exact q
  | rt d S1 => rw [hB] at q; exact q
  | bad => rw [hB] at q; exact q
  | exc c fs vs σ1 S1 =>
    rw [hB] at q
    dsimp only at q
    split at q
    · rename_i hl1
      exact fun ρ' H' C dx fvs σ' e s1 er1 hm hd hn hf hv => a2 Z c fs vs σ1 S1 ρ' H' C dx fvs σ' (q.ext e) s1 er1 (er1.len.symm.trans (hl1.trans hl)) hm hd hn hf hv
    · exact False.elim q
end
end Ev
end

section
set_option maxHeartbeats 4000000
namespace Ev
open PySem PySem.Spec PyProof.Rows L2
open Classical
section
variable {X : Cx} {W : WX} {a b c e : Expr} {A B C : Sm} {pos p : Pos} {es : List Expr} {M : Sm}
/-- the name of a built-in type -/
theorem x_ty {x : Str} {T : String} (hm : X.mg x = none) (hg : Gl X x := by rfl) (hv : bootBuiltins x = some (.type T) := by decide +kernel) (hn : x ≠ "__name__" := by decide) (hdb : (x == ("__debug__" : Str)) = false := by decide) : PE X (.Name x pos) (xE X W (evC (.ty T))) :=
  x_c (v := .ty T) ⟨fun pins s σ H Q I h => ld_blt I hg hm hv ⟨.ty T, H, I, rfl, h⟩ hn hdb⟩ fun _ _ => .ty T
def tyN (d : D) (S : Store) : Option String := match d with
  | .non => some "NoneType"
  | .bl _ => some "bool"
  | .int _ => some "int"
  | .str _ => some "str"
  | .tup _ => some "tuple"
  | .lst _ => some "list"
  | .scr _ => some "list"
  | .dk _ _ => some "dict"
  | .dt _ _ => some "dict"
  | .ref n => (match S.cs[n]? with
    | some (.lst _) => some "list"
    | some (.scr _) => some "list"
    | some (.dk _ _) => some "dict"
    | some (.dt _ _) => some "dict"
    | none => none)
  | _ => none
theorem tyN_ok {K : PySem.W.Frag} {mg : Str → Option Value} {ρ : Adr} {H : Hp} {S : Store} {d : D} {v : V} {T : String} (s : SR K mg ρ H S) (r : DR K mg ρ H d v) (h : tyN d S = some T) : TyX K H v (.type T) := by
  cases r with
  | non => cases h; exact .base .non
  | bl b => cases h; exact .base (.bl b)
  | int i => cases h; exact .base (.int i)
  | str x => cases h; exact .base (.str x)
  | tup h1 h2 h3 => cases h; exact .base (.tup h1)
  | tupK h1 h2 => cases h; obtain ⟨o, its, n, e1, e2, _⟩ := h1; exact .kTuple e1 e2
  | lst h1 h2 h3 => cases h; exact .base (.lst h1)
  | scr h1 h2 h3 => cases h; exact .base (.frz h1)
  | scrK h1 h2 => cases h; obtain ⟨o, its, n, e1, e2, _⟩ := h1; exact .kList e1 e2
  | dk h1 => cases h; exact .base (.dK h1)
  | dt h1 => cases h; exact .base (.dT h1)
  | ref hr =>
    simp only [tyN] at h
    split at h
    · rename_i xs hc
      cases h
      obtain ⟨vs, h1, _⟩ := s.cs _ _ _ hc hr
      exact .base (.lst h1)
    · rename_i xs hc
      cases h
      obtain ⟨o, vs, h1, _⟩ := s.cs _ _ _ hc hr
      exact .base (.frz h1)
    · rename_i ks vs hc
      cases h
      obtain ⟨kvs, h1, _⟩ := s.cs _ _ _ hc hr
      exact .base (.dK h1)
    · rename_i ks vs hc
      cases h
      obtain ⟨kvs, h1, _⟩ := s.cs _ _ _ hc hr
      exact .base (.dT h1)
    · cases h
  | ty n => cases h
  | ins h1 => cases h
  | clo h1 => cases h
  | obj h1 => cases h
def isAny (T : String) : List D → Option Bool
  | [] => some false
  | .ty b :: r => (match kitB T b, isAny T r with
    | some k, some r => some (k || r)
    | _, _ => none)
  | _ => none
theorem isAny_ok {K : PySem.W.Frag} {mg : Str → Option Value} {ρ : Adr} {H : Hp} {T : String} : ∀ {ts : List D} {cs : List V} {r : Bool}, DRs K mg ρ H ts cs → isAny T ts = some r → ∃ us, Paired ClsV cs us ∧ PySem.W.kitAny K (.type T) us = some r
  | _, _, _, .nil, h => by cases h; exact ⟨[], .nil, rfl⟩
  | t :: ts, _, r, .cons h1 h2, h => by
    cases t with
    | ty b =>
      cases h1
      simp only [isAny] at h
      split at h
      · rename_i k r' e1 e2
        cases h
        obtain ⟨us, hu, hk⟩ := isAny_ok h2 e2
        exact ⟨_ :: us, .cons (.ty b) hu, kitAny_cons (kit_ty e1) (fun z => by rw [z, Bool.false_or]; exact hk) (fun z => by rw [z, Bool.true_or])⟩
      · cases h
    | _ => simp [isAny] at h
def dIsi : D → D → Store → Res := fun d t S => match tyN d S, t with
  | some T, .ty b => (match kitB T b with
    | some r => .ok (.bl r) S
    | none => .bad)
  | some T, .tup ts => (match isAny T ts with
    | some r => .ok (.bl r) S
    | none => .bad)
  | _, _ => .bad
/-- isinstance(x, T) .. of a tuple that is tracked or written -/
theorem call_isiA : CallR X (.builtin "isinstance") (fun xs H Q => rIsi X.K xs H Q ∨ rIsiT X.K xs H Q ∨ rIsiK X.K xs H Q) := fun pins s σ H xs us Q I r h => h.elim (fun h => call_isi pins s σ H xs us Q I r h) fun h => h.elim (fun h => call_isiT pins s σ H xs us Q I r h) fun h => call_isiK pins s σ H xs us Q I r h
theorem x_isi (hm : X.mg "isinstance" = none) (ha : PA X (e :: es) (xA X W M)) (hg : Gl X "isinstance" := by rfl) (he : starEach (e :: es) X.env = (false, eval e X.env) :: starEach es X.env := by rfl) (hpl : (backTo pos (starEach es X.env)).any (·.1) = false := by rfl) :
    PE X (.Call (.Name "isinstance" p) (e :: es) [] pos) (xE X W (evA M (twoL dIsi))) := x_blt call_isiA (fitTwo fun ρ H S σ d d' v v' Q s r r' q => by
      unfold dIsi at q
      split at q
      · rename_i T b hT
        split at q
        · rename_i k hk
          cases r'
          exact .inl ⟨v, .ty b, .type T, .type b, k, rfl, .ty b, tyN_ok s r hT, kit_ty hk, q.here s (.bl k)⟩
        · exact False.elim q
      · rename_i T ts hT
        split at q
        · rename_i k hk
          cases r' with
          | tup h1 h2 h3 =>
            obtain ⟨us, hu, hk2⟩ := isAny_ok h3 hk
            exact .inr (.inl ⟨v, _, _, .type T, us, k, rfl, h1, hu, tyN_ok s r hT, hk2, q.here s (.bl k)⟩)
          | tupK h1 h2 =>
            obtain ⟨us, hu, hk2⟩ := isAny_ok h2 hk
            obtain ⟨o, its, n, e1, e2, e3, _, e5⟩ := h1
            have e6 := ClsV.all hu e5
            obtain ⟨oc, od, dt, sl⟩ := o
            simp only at e2 e3
            subst e2 e3
            exact .inr (.inr ⟨v, _, od, us, n, sl, .type T, k, rfl, by rw [e1, ← e6], tyN_ok s r hT, hk2, q.here s (.bl k)⟩)
        · exact False.elim q
      · exact False.elim q) hm ha hg (by decide +kernel) (by decide) (by decide) he hpl
def dSet (o i v : D) (S : Store) : Option Store := match o with
  | .ref n => (match S.cs[n]? with
    | some (.lst xs) => (match i with
      | .int k => (match ixN xs.length k with
        | some j => if v.pure = true then some { S with cs := S.cs.set n (.lst (xs.set j v)) } else none
        | none => none)
      | _ => none)
    | some (.dk ks vs) => (match keyOf i with
      | some k => if v.pure = true ∧ ks.length < 16777216 ∧ D.pures (put k v ks vs).2 = true then some { S with cs := S.cs.set n (.dk (put k v ks vs).1 (put k v ks vs).2) } else none
      | none => none)
    | _ => none)
  | _ => none
def rSetA (o i v : V) (H : Hp) (Q : Hp → Prop) : Prop := rSetL o i v H Q ∨ rSetD o i v H Q
theorem set_any (cn : Cn X) : PSet X rSetA := fun pins s σ H o i v ov iv u Q I ro ri rv h => h.elim (fun h => set_list pins s σ H o i v ov iv u Q I ro ri rv h) (fun h => set_dict cn.hu1 pins s σ H o i v ov iv u Q I ro ri rv h)
theorem pures_set {xs : List D} {j : Nat} {v : D} (h : D.pures xs = true) (hv : v.pure = true) : D.pures (xs.set j v) = true := pures_iff.mpr fun x hx => (List.mem_or_eq_of_mem_set hx).elim (pures_iff.mp h x) fun e => by rw [e]; exact hv
theorem set_run {ρ : Adr} {H : Hp} {S S' : Store} {o i v : D} {x y z : V} {Q : Hp → Prop} (s : SR X.K X.mg ρ H S) (ro : DR X.K X.mg ρ H o x) (ri : DR X.K X.mg ρ H i y) (rv : DR X.K X.mg ρ H v z) (h : dSet o i v S = some S') (q : ∀ H', Ext ρ H ρ H' → SR X.K X.mg ρ H' S' → Q H') : rSetA x y z H Q := by
  unfold dSet at h
  split at h
  · rename_i n
    cases ro with
    | ref hr =>
      split at h
      · rename_i xs hc
        obtain ⟨us, h1, h2⟩ := s.cs _ _ _ hc hr
        split at h
        · rename_i k
          cases ri
          split at h
          · rename_i j hj
            split at h
            · rename_i hp
              cases h
              have hp0 := s.pc _ (List.mem_of_getElem? hc)
              obtain ⟨s2, e2⟩ := s.setCell (c := .lst (xs.set j v)) (o := .lst (us.set j z)) (pures_set hp0 hp) hr fun ρ' H' e qq => ⟨_, qq, (h2.mono e).set (rv.mono e) j⟩
              exact .inl ⟨_, us, k, j, rfl, rfl, h1, by rw [← h2.length]; exact hj, q _ e2 s2⟩
            · cases h
          · cases h
        · cases h
      · rename_i ks vs hc
        obtain ⟨kvs, h1, h2, h3⟩ := s.cs _ _ _ hc hr
        split at h
        · rename_i k hk
          split at h
          · rename_i hp
            cases h
            have ei := keyOf_v ri hk
            subst ei
            subst h2
            obtain ⟨g1, g2⟩ := put_v (k := k) (d := v) h3 rv
            obtain ⟨s2, e2⟩ := s.setCell (c := .dk (put k v (kvs.map fun (x : Key × V) => x.1) vs).1 (put k v (kvs.map fun (x : Key × V) => x.1) vs).2) (o := .dK (putK kvs k z)) (show Cell.pure _ = true from hp.2.2) hr fun ρ' H' e qq => ⟨_, qq, g1, g2.mono e⟩
            refine .inr ⟨_, _, rfl, DPut.k h1 ?_, q _ e2 s2⟩
            have := hp.2.1
            rw [List.length_map] at this
            rw [sizeLine_eq]; exact this
          · cases h
        · cases h
      · cases h
  · cases h
def sSub (O I A : Sm) : Sst := fun σd S => (A σd S).go σd fun v S1 => (O σd S1).go σd fun o S2 => (I σd S2).go σd fun i S3 => match dSet o i v S3 with
  | some S4 => .nx σd S4
  | none => .bad
theorem s_sub {O I : Sm} {o i : Expr} {tpos : Pos} (cn : Cn X) (he : PE X e (xE X W A)) (ho : PE X o (xE X W O)) (hi : PE X i (xE X W I)) (hs : swapsWithSole [.Subscript o i tpos] e pos.line X.env = pure false := by rfl) (hw : swappedStores [.Subscript o i tpos] e X.env = pure none := by rfl)
    (h1 : (assignEach [.Subscript o i tpos] X.env).map (·.2) = [assign (.Subscript o i tpos) X.env] := by rfl)
    (ha : ∀ v, assign (.Subscript o i tpos) X.env v = (do
      let ov ← holding [v] (eval o X.env)
      let iv ← holding [v, ov] (eval i X.env)
      standAt tpos
      holding [v, ov, iv] (setItem ov iv v)
      release [v, ov, iv] []) := by intro _; rfl) : PS X (.Assign [.Subscript o i tpos] e pos) (xS X W (sSub O I A)) :=
  psImp (ps_asg he (pg_sub ho hi (set_any cn) ha) hs hw h1) fun Z σ H ⟨ρ, σd, S, er, sr, q⟩ =>
    ⟨ρ, σd, S, er, sr, (SQ.go er q).mono fun v H1 ⟨d1, S1, ρ1, _, x1, s1, r1, er1, q1⟩ =>
      ⟨ρ1, σd, S1, er1, s1, (SQ.go er1 q1).mono fun o2 H2 ⟨d2, S2, ρ2, _, x2, s2, r2, er2, q2⟩ =>
        ⟨ρ2, σd, S2, er2, s2, (SQ.go er2 q2).mono fun i3 H3 ⟨d3, S3, ρ3, _, x3, s3, r3, er3, q3⟩ => by
          split at q3
          · exact set_run s3 (r2.mono x3) r3 ((r1.mono x2).mono x3) (by assumption) fun H' e s4 => q3.nx2 e s4 (er3.mono e)
          · exact False.elim q3⟩⟩⟩
end
end Ev
end

section
set_option maxHeartbeats 4000000
namespace Ev
open PySem PySem.Spec PyProof.Rows L2
open Classical
def RC (H : Hp) (b : Addr) : Prop := ∃ o, H b = some o ∧ CellF o
/-- without them -/
noncomputable def offC (H : Hp) : Hp := fun b => if RC H b then none else H b
/-- with those of H again -/
noncomputable def onC (H H' : Hp) : Hp := fun b => if RC H b then H b else H' b
theorem offC_of {H : Hp} {b : Addr} {o : HO} (h : H b = some o) (n : ¬ CellF o) : offC H b = some o := by
  unfold offC
  rw [if_neg fun z => by obtain ⟨o', e, c⟩ := z; rw [h] at e; cases e; exact n c]
  exact h
theorem offC_none {H : Hp} {b : Addr} (h : H b = none) : offC H b = none := by
  unfold offC
  split
  · rfl
  · exact h
theorem of_offC {H : Hp} {b : Addr} {o : HO} (h : offC H b = some o) : H b = some o ∧ ¬ RC H b := by
  unfold offC at h
  split at h
  · cases h
  · rename_i n; exact ⟨h, n⟩
theorem onC_of {H H' : Hp} (hf : ∀ b, RC H b → H' b = none) {b : Addr} {o : HO} (h : H' b = some o) : onC H H' b = some o := by
  unfold onC
  rw [if_neg fun z => by rw [hf b z] at h; cases h]
  exact h
theorem onC_rc {H H' : Hp} {b : Addr} (h : RC H b) : onC H H' b = H b := by unfold onC; rw [if_pos h]
theorem onC_no {H H' : Hp} {b : Addr} (h : ¬ RC H b) : onC H H' b = H' b := by unfold onC; rw [if_neg h]
theorem not_cellF {o : HO} (h : ∀ oc u, o ≠ .frz oc u) : ¬ CellF o := fun ⟨oc, x, e, _⟩ => h oc _ e
section
variable {P : Program} {w : World} {K : PySem.W.Frag} {mg : Str → Option Value} {base : Heap} {A : Around} {outer : List Env} {s s' : Shared} {H H' : Hp} {h h' B : Heap}
theorem hok_off (x : HOk P w H h) : HOk P w (offC H) h := fun b o e => by
  obtain ⟨e1, n⟩ := of_offC e
  exact (x b o e1).stay (fun c v _ q => q) (fun c q => offC_of q (not_cellF fun _ _ z => by cases z)) fun c xs q => offC_of q (not_cellF fun _ _ z => by cases z)
theorem env0_off (e : Env0 P w K mg base A outer s H) : Env0 P w K mg base A outer s (offC H) :=
  ⟨e.frames, e.mod, fun b o q => ⟨(e.bs b o q).1, offC_none (e.bs b o q).2⟩, e.bsz, e.funs, fun b hb => offC_none (e.frf b hb), hok_off e.hok, e.bare⟩
theorem hok_on (hf : ∀ b, RC H b → H' b = none) (x : HOk P w H' h) (k : ∀ b oc, H b = some (.frz oc cellU) → RC H b → h.get? b = some oc) : HOk P w (onC H H') h := fun b o e => by
  by_cases hb : RC H b
  · rw [onC_rc hb] at e
    obtain ⟨o', e', oc, y, rfl, hd⟩ := id hb
    rw [e] at e'
    cases e'
    have g := k b oc e hb
    exact ⟨g, trivial, ⟨oc, g⟩, fun _ _ _ _ => trivial⟩
  · rw [onC_no hb] at e
    exact (x b o e).stay (fun c v _ q => q) (fun c q => onC_of hf q) fun c xs q => onC_of hf q
theorem un_on {fs : List Addr} (u : Un fs [] (offC H) H' h h') (hnf : ∀ b, RC H b → b ∉ fs) (hf : ∀ b, RC H b → H' b = none) : Un fs [] H (onC H H') h h' where
  keep := fun b o q n hb hx => u.keep b o q (offC_none n) hb hx
  slot := fun b o q n hb hx => u.slot b o q (offC_none n) hb hx
  free := fun b o q n hx => by
    rw [onC_no fun z => by obtain ⟨o', e, _⟩ := z; rw [n] at e; cases e]
    exact u.free b o q (offC_none n) hx
  there := u.there
  tups := fun b xs q => onC_of hf (u.tups b xs (offC_of q (not_cellF fun _ _ z => by cases z)))
  frzs := fun b o v q => by
    by_cases hb : RC H b
    · rw [onC_rc hb]; exact q
    · exact onC_of hf (u.frzs b o v (offC_of q fun z => hb ⟨_, q, z⟩))
  tbls := fun b ps q => by
    obtain ⟨more, e⟩ := u.tbls b ps (offC_of q (not_cellF fun _ _ z => by cases z))
    exact ⟨more, onC_of hf e⟩
theorem ub_on {fs : List Addr} (u : UB fs (offC H) H' h B h') (hf : ∀ b, RC H b → H' b = none) : UB fs H (onC H H') h B h' where
  keep := fun b o q n hb => u.keep b o q (offC_none n) hb
  slot := u.slot
  free := fun b o q n => by
    rw [onC_no fun z => by obtain ⟨o', e, _⟩ := z; rw [n] at e; cases e]
    exact u.free b o q (offC_none n)
  there := u.there
  tups := fun b xs q => onC_of hf (u.tups b xs (offC_of q (not_cellF fun _ _ z => by cases z)))
  frzs := fun b o v q => by
    by_cases hb : RC H b
    · rw [onC_rc hb]; exact q
    · exact onC_of hf (u.frzs b o v (offC_of q fun z => hb ⟨_, q, z⟩))
  tbls := fun b ps q => by
    obtain ⟨more, e⟩ := u.tbls b ps (offC_of q (not_cellF fun _ _ z => by cases z))
    exact ⟨more, onC_of hf e⟩
end
section
variable {K : PySem.W.Frag} {mg : Str → Option Value} {ρ ρ' : Adr} {H H' : Hp} {S S' : Store}
theorem off_ext : ExtC ρ H ρ (offC H) := ⟨fun a o h n c => offC_of h c, fun _ _ _ n _ => n, fun _ _ h => h, fun _ _ h => h, fun _ _ h => h⟩
theorem SR.has_off (s : SR K mg ρ H S) {a : Addr} (h : ρ.has a) : offC H a = H a ∨ RC H a := by
  by_cases hb : RC H a
  · exact .inr hb
  · left; unfold offC; rw [if_neg hb]
def Store.off (S : Store) : Store := { S with mkr := none, vs := [] }
theorem SR.off (s : SR K mg ρ H S) : SR K mg ρ.ent (offC H) S.off := by
  have e := off_ext (ρ := ρ) (H := H)
  have e2 : ExtC ρ H ρ.ent (offC H) := ⟨e.keep, e.nin, e.ar, e.at_, e.cc⟩
  have at_ : ∀ {a o}, H a = some o → ¬ CellF o → offC H a = H a := fun {a o} h n => (offC_of h n).trans h.symm
  refine ⟨s.nr, s.nt, s.dj, s.lr, s.lt, fun n c a h1 h2 => ?_, fun n c a h1 h2 => ?_, s.pc, fun p hp => ?_, s.nb, fun a ha => ?_, rfl, (fun _ z => nomatch z), fun n d h => by simp [Store.off] at h⟩
  · have cr := s.cs n c a h1 h2
    refine cr.monoC e2 ?_
    cases c with
    | lst ds => obtain ⟨vs, q, _⟩ := cr; exact at_ q (not_cellF fun _ _ z => by cases z)
    | scr ds => obtain ⟨o, vs, q, _⟩ := cr; exact at_ q (fun ⟨oc, y, z, _⟩ => by cases z)
    | dk ks ds => obtain ⟨kvs, q, _⟩ := cr; exact at_ q (not_cellF fun _ _ z => by cases z)
    | dt ks ds => obtain ⟨kvs, q, _⟩ := cr; exact at_ q (not_cellF fun _ _ z => by cases z)
  · have cr := s.os n c a h1 h2
    refine cr.monoC e2 ?_
    obtain ⟨C, dx, fvs, q, _⟩ := cr
    exact at_ q (not_cellF fun _ _ z => by cases z)
  · obtain ⟨ps, h1, h2, h3⟩ := s.tb p hp
    refine ⟨ps, offC_of h1 (not_cellF fun _ _ z => by cases z), h2, fun pos cv hc => ?_⟩
    obtain ⟨c, e1, e2⟩ := h3 pos cv hc
    exact ⟨c, e1, offC_of e2 (fun ⟨oc, y, z, _⟩ => by cases z)⟩
  · obtain ⟨n1, n2, n3, o, h, ne⟩ := s.nx a ha
    exact ⟨n1, n2, n3, o, offC_of h ne.noCell, ne⟩
theorem SR.on (s' : SR K mg ρ' H' S') (hf : ∀ b, RC H b → H' b = none) : SR K mg ρ' (onC H H') S' ∧ ExtC ρ' H' ρ' (onC H H') := by
  have e : ExtC ρ' H' ρ' (onC H H') := ⟨fun a o h n c => onC_of hf h, fun _ _ _ n _ => n, fun _ _ h => h, fun _ _ h => h, fun _ _ h => h⟩
  have at_ : ∀ {a o}, H' a = some o → onC H H' a = H' a := fun {a o} h => (onC_of hf h).trans h.symm
  refine ⟨⟨s'.nr, s'.nt, s'.dj, s'.lr, s'.lt, fun n c a h1 h2 => ?_, fun n c a h1 h2 => ?_, s'.pc, fun p hp => ?_, s'.nb, fun a ha => ?_, s'.mkr, s'.kb, fun n d h => ?_⟩, e⟩
  · have cr := s'.cs n c a h1 h2
    obtain ⟨o, q⟩ := cr.there
    exact cr.monoC e (at_ q)
  · have cr := s'.os n c a h1 h2
    obtain ⟨o, q⟩ := cr.there
    exact cr.monoC e (at_ q)
  · obtain ⟨ps, h1, h2, h3⟩ := s'.tb p hp
    refine ⟨ps, onC_of hf h1, h2, fun pos cv hc => ?_⟩
    obtain ⟨c, e1, e2⟩ := h3 pos cv hc
    exact ⟨c, e1, onC_of hf e2⟩
  · obtain ⟨n1, n2, n3, o, h, ne⟩ := s'.nx a ha
    exact ⟨n1, n2, n3, o, onC_of hf h, ne⟩
  · obtain ⟨c, oc, v, h1, h2, h3, h4, h5⟩ := s'.vs n d h
    exact ⟨c, oc, v, h1, onC_of hf h2, h3, h4.monoC e, h5⟩
theorem Ext.on (s' : SR K mg ρ' H' S') (x : Ext ρ.ent (offC H) ρ' H') (hf : ∀ b, RC H b → H' b = none) : Ext ρ.ent H ρ' (onC H H') := by
  refine ⟨⟨fun a o h n => ?_, fun a o h n z => ?_, x.ar, x.at_, x.fx⟩, x.xx, fun a ha => ?_⟩
  · by_cases hb : RC H a
    · rw [onC_rc hb]; exact h
    · exact onC_of hf (x.keep a o (offC_of h fun z => hb ⟨o, h, z⟩) n)
  · by_cases hb : RC H a
    · obtain ⟨u, e⟩ := s'.has z
      rw [hf a hb] at e; cases e
    · exact x.nin a o (offC_of h fun z => hb ⟨o, h, z⟩) n z
  · by_cases hb : RC H a
    · exact onC_rc hb
    · rw [onC_no hb, x.kx a ha]
      unfold offC
      rw [if_neg hb]
end
/-- a lambda without parameters: its names are captured, or global -/
structure LamOk (l : LamI) : Prop where
  kind : l.scope.kind = .function
  co : l.scope.isCoroutine = false
  gen : l.scope.isGenerator = false
  own : ∀ y ∈ l.scope.names, y.2 ≠ .local ∧ y.2 ≠ .cell
  free : ∀ y ∈ l.scope.names, y.2 = .free → y.1 ∈ l.caps
  bind : ∀ (cl : List (Str × Addr)) (pm cv ctv : Value), bindArgs (PySem.W.kla_fn "<lambda>" l.q l.params l.body l.scope cl pm cv ctv) ⟨[], []⟩ = pure []
abbrev lamE (l : LamI) (L f c' : Addr) (cl : List (Str × Addr)) : Env := PySem.W.envX l.q l.scope L f (.ref c') cl
def lcx (P : Program) (w : World) (K : PySem.W.Frag) (mg : Str → Option Value) (base : Heap) (l : LamI) (f c' : Addr) (cl : List (Str × Addr)) (A : Around) (outer : List Env) (s : Shared) (H : Hp) (E : XK) : Cx where
  prog := P
  w := w
  K := K
  mg := mg
  base := base
  A := A.deeper (lamE l s.heap.objs.size f c' cl)
  N := l.caps
  s_0 := s
  H_0 := H
  env := lamE l s.heap.objs.size f c' cl
  outer := outer
  stack := lamE l s.heap.objs.size f c' cl :: outer
  ex := []
  fn := fun _ => false
  calm := true
  pn := []
  xe := fun e s' => wpAny (model P w) (A.deeper (lamE l s.heap.objs.size f c' cl)) (leaving (lamE l s.heap.objs.size f c' cl) e) (fun _ s'' => L2.CX P w outer H s E e s'') (fun e' s'' => L2.CX P w outer H s E e' s'') s'
theorem lam_inv {P : Program} {w : World} {K : PySem.W.Frag} {mg : Str → Option Value} {base : Heap} {l : LamI} {f c' : Addr} {cl : List (Str × Addr)} {A : Around} {outer : List Env} {s : Shared} {H : Hp} {E : XK} {h₁ : Heap} {tk : Nat} {vs : List V} (L : LamOk l) (e0 : Env0 P w K mg base A outer s H) (hd : A.handled = none)
    (inj : ∀ x y c, cl.lookup x = some c → cl.lookup y = some c → x = y) (cap : ∀ x c, cl.lookup x = some c → x ∈ l.caps) (hl : vs.length = l.caps.length)
    (cell : ∀ (j : Nat) x, l.caps[j]? = some x → ∃ c v u, cl.lookup x = some c ∧ vs[j]? = some v ∧ RelV v u ∧ s.heap.IsCell c (some u) ∧ H c = none)
    (hns : h₁.Ns s.heap.objs.size fun y => ([] : List (Str × Value)).reverse.lookup y) (kp : ∀ b o, s.heap.get? b = some o → h₁.get? b = some o) :
    Inv (lcx P w K mg base l f c' cl A outer s H E) [] (vs.map some) H { s with heap := h₁, toks := tk } := by
  have isC : ∀ {y : Str} {c : Addr}, cl.lookup y = some c → ∃ u, s.heap.IsCell c (some u) ∧ H c = none := fun {y c} e => by
    obtain ⟨j, hj, ej⟩ := List.mem_iff_getElem.mp (cap y c e)
    obtain ⟨c2, v, u, e2, _, _, h4, h5⟩ := cell j y (by rw [← ej]; exact List.getElem?_eq_getElem hj)
    rw [e] at e2; cases e2
    exact ⟨u, h4, h5⟩
  have up : ∀ {c : Addr} {v : Option Value}, s.heap.IsCell c v → h₁.IsCell c v := fun {c v} ⟨o, ho, hd⟩ => ⟨o, kp _ _ ho, hd⟩
  have noE : ∀ b : Addr, b ∉ (lcx P w K mg base l f c' cl A outer s H E).ex := fun b z => absurd (show b ∈ ([] : List Addr) from z) (by simp)
  have has : ∀ {y : Str}, l.scope.names.lookup y = some .free → ∃ c, cl.lookup y = some c := fun {y} hy => by
    obtain ⟨j, hj, ej⟩ := List.mem_iff_getElem.mp (L.free _ (PySem.mem_of_lookup hy) rfl)
    have ej : l.caps[j] = y := ej
    obtain ⟨c, _, _, e, _⟩ := cell j y (by rw [← ej]; exact List.getElem?_eq_getElem hj)
    exact ⟨c, e⟩
  refine ⟨⟨e0.mod, L.kind, rfl, rfl, Nat.le_refl _, fun y z c e1 e2 => inj y z c e1 e2, fun y hy => ?_, fun y c z _ => ?_, fun _ => hd, Around.frames_deeper e0.frames, .inr ⟨rfl, rfl⟩, fun b z => absurd z (noE b), e0.bs, e0.bsz, fun b _ _ => noE b,
      fun b z => absurd z (noE b), e0.funs, e0.frf⟩,
    rfl, e0.bare, Un.kept kp, ⟨_, hns, fun i y v e1 e2 e3 => ?_⟩, fun y c e => ?_, e0.hok.fresh (Nat.le_refl _), fun y c e => ?_, fun q hq => absurd (show q ∈ ([] : List (Addr × Obj)) ++ [] from hq) (by simp), e0.hok.kept kp, by rw [List.length_map]; exact hl⟩
  · have hy : l.scope.names.lookup y = some .cell ∨ l.scope.names.lookup y = some .free := hy
    rcases hy with hy | hy
    · exact absurd rfl (L.own _ (PySem.mem_of_lookup hy)).2
    · exact has hy
  · have z : false = true := z
    cases z
  · have e3 : Vis l.scope y := e3
    rcases e3 with k | k | k
    · exact absurd rfl (L.own _ (PySem.mem_of_lookup k)).1
    · exact absurd rfl (L.own _ (PySem.mem_of_lookup k)).2
    · obtain ⟨c, v2, u, e4, e5, e6, e7, _⟩ := cell i y e1
      rw [List.getElem?_map, e5] at e2
      cases e2
      exact ⟨u, e6, .inr ⟨.inr k, c, e4, up e7⟩⟩
  · obtain ⟨u, h4, _⟩ := isC e
    exact ⟨_, up h4⟩
  · exact (isC e).elim fun u h => h.2
noncomputable def endE (S : Store) (r : Res) : Res := match r with
  | .ok d S' => fin S d S'
  | .exc c fs vs S' => finX S c fs vs S'
  | .bad => .bad
noncomputable def runL (B : Sm) : List D → Store → Res := fun cs S => endE S (B (cs.map some) S.off)
structure LamG (P : Program) (w : World) (K : PySem.W.Frag) (mg : Str → Option Value) (base : Heap) (k : Nat) (l : LamI) (B : Sm) : Prop where
  ok : LamOk l
  run : ∀ (f c' : Addr) (cl : List (Str × Addr)) (A : Around) (outer : List Env) (s : Shared) (H : Hp) (E : XK), Room k (A.deeper (lamE l s.heap.objs.size f c' cl)) → Cn (lcx P w K mg base l f c' cl A outer s H E) → Takes (lcx P w K mg base l f c' cl A outer s H E) (WE E) →
    PE (lcx P w K mg base l f c' cl A outer s H E) l.body (xE (lcx P w K mg base l f c' cl A outer s H E) (WE E) B)
/-- what the captured names hold -/
def capV (S : Store) : List Nat → Option (List D)
  | [] => some []
  | n :: r => (match S.vs[n]?, capV S r with
    | some (some d), some ds => some (d :: ds)
    | _, _ => none)
theorem capV_v {K : PySem.W.Frag} {mg : Str → Option Value} {ρ : Adr} {H : Hp} {S : Store} (s : SR K mg ρ H S) : ∀ {ns : List Nat} {cs : List D}, capV S ns = some cs → ∃ vs, DRs K mg ρ H cs vs ∧ ∀ (j n : Nat), ns[j]? = some n → ∃ c oc v x, ρ.fx.c[n]? = some c ∧ H c = some (.frz oc cellU) ∧ vs[j]? = some v ∧ oc.data = .cell (some x) ∧ RelV v x
  | [], cs, h => by cases h; exact ⟨[], .nil, fun j n hj => by simp at hj⟩
  | n :: r, cs, h => by
    unfold capV at h
    split at h
    · rename_i d ds h1 h2
      cases h
      obtain ⟨vs, q1, q2⟩ := capV_v s h2
      obtain ⟨c, oc, v, e1, e2, e3, e4, x, e5, e6⟩ := s.vs n d h1
      refine ⟨v :: vs, .cons e4 q1, fun j m hj => ?_⟩
      cases j with
      | zero => cases hj; exact ⟨c, oc, v, x, e1, e2, rfl, e5, e6⟩
      | succ j => exact q2 j m (by simpa using hj)
    · cases h
theorem capV_len {S : Store} : ∀ {ns : List Nat} {cs : List D}, capV S ns = some cs → cs.length = ns.length
  | [], cs, h => by cases h; rfl
  | n :: r, cs, h => by
    unfold capV at h
    split at h
    · rename_i d ds h1 h2
      cases h
      rw [List.length_cons, List.length_cons, capV_len h2]
    · cases h
end Ev
end

section
set_option maxHeartbeats 4000000
namespace Ev
open PySem PySem.Spec PyProof.Rows L2
open Classical
section
variable {X : Cx} {W : WX} {k : Nat} {l : LamI} {B : Sm} {ns : List Nat} {cs : List D} {pins : List (Addr × Obj)} {σ : L2.St} {H : Hp} {s : Shared} {ρ : Adr} {S : Store}
/-- x() where x is a lambda -/
theorem run_lam {f : Addr} {Q : VK} (G : LamG X.prog X.w X.K X.mg X.base k l B) (hr : Room (k + 1) X.A) (cn : Cn X) (tk : Takes X W) (I : Inv X pins σ H s) (sr : SR X.K X.mg ρ H S) (r : DR X.K X.mg ρ H (.clo l ns) (.ref f)) (hc : capV S ns = some cs) (hl : ns.length = l.caps.length)
    (h : RQ X.K X.mg ρ H σ W (runL B cs S) Q) : wpAny (model X.prog X.w) X.A (call (.ref f) []) (EP X pins σ Q) X.xe s := by
  cases r with
  | @clo _ c' _ _ cl pm ctv u hf nf hco nco kc inj cap =>
    have hf2 : s.heap.get? f = some (PySem.W.kla_obj "<lambda>" l.q l.params l.body l.scope cl pm c' ctv) := (show ObjOk X.prog X.w H s.heap f (.frz _ u) from I.hok f _ hf).1
    obtain ⟨⟨oc, ws, t, hoc, hdc, hvc⟩, _, _⟩ := (show ObjOk X.prog X.w H s.heap c' (LamX.CodeO c' l.q) from I.hok c' _ hco)
    obtain ⟨vs, dv, cv⟩ := capV_v sr hc
    have e0 := env0_off I.env0
    have s0 := sr.off
    have x0 : ExtC ρ H ρ.ent (offC H) := let e := off_ext (ρ := ρ) (H := H); ⟨e.keep, e.nin, e.ar, e.at_, e.cc⟩
    have rcO : ∀ b, RC H b → ∃ ob, s.heap.get? b = some ob := fun b ⟨o, e, oc, y, eo, _⟩ => by
      subst eo
      exact ⟨oc, (show ObjOk X.prog X.w H s.heap b (.frz oc cellU) from I.hok b _ e).1⟩
    have rcG : ∀ b ob, H b = some (.frz ob cellU) → s.heap.get? b = some ob := fun b ob e => (show ObjOk X.prog X.w H s.heap b (.frz ob cellU) from I.hok b _ e).1
    have rcF : ∀ b, RC H b → b ∉ frs X.stack := fun b ⟨o, e, _⟩ hb => by
      rw [I.env0.frf b hb] at e; cases e
    have rcN : ∀ b, RC H b → offC H b = none := fun b hb => by unfold offC; rw [if_pos hb]
    have vl : vs.length = l.caps.length := by rw [← dv.length, capV_len hc, hl]
    refine wpAny_call (codeAny_mono (R := L2.CR (L2.CX X.prog X.w) X.stack X.prog X.w (offC H) s (fun v H' => (∀ b, RC H b → H' b = none) → Q v (onC H H')) (fun cls d H' => (∀ b, RC H b → H' b = none) → W cls d σ (onC H H'))) ?_ fun res s' hq => ?_)
    · -- the lambda runs
      refine PySem.W.kla_callFunE hr.depth hf2 rfl G.ok.co G.ok.gen rfl ⟨c', oc, ws, t, rfl, hoc, hdc, hvc⟩ ?_
      rw [G.ok.bind]
      refine wpAny_pure (wpAny_newFunctionEnv (fun y hy => (G.ok.own y hy).2) (fun y hy => absurd hy (by simp)) (fun h₁ hns hsb => ⟨I.nolimit.fresh _ hsb, ?_⟩) G.ok.kind)
      show codeAny _ _ (.expr l.body (lamE l s.heap.objs.size f c' cl)) _ _
      have kp : ∀ b o, s.heap.get? b = some o → h₁.get? b = some o := fun b o e => hsb.extBut b o (Nat.ne_of_lt (Heap.lt_size e)) (Heap.get?_push_of_some _ e)
      have J : Inv (lcx X.prog X.w X.K X.mg X.base l f c' cl X.A X.stack s (offC H) (fun cls d H' => (∀ b, RC H b → H' b = none) → W cls d σ (onC H H'))) [] (vs.map some) (offC H) { s with heap := h₁, toks := s.toks + ([] : List (Str × Value)).length } :=
        lam_inv G.ok e0 hr.hd inj cap vl (fun j x hx => by
          obtain ⟨n, c, e1, e2, e3⟩ := kc j x hx
          obtain ⟨c2, ob, v, y, e4, e5, e6, e7, e8⟩ := cv j n e1
          rw [e3] at e4; cases e4
          exact ⟨c, v, y, e2, e6, e8, ⟨ob, rcG c ob e5, e7⟩, rcN c ⟨_, e5, ob, _, rfl, e7⟩⟩) hns kp
      refine PySem.W.kla_codeExpr (wpAny_mono ((G.run f c' cl X.A X.stack s (offC H) _ (hr.deeper _) ⟨rfl, ?_, cn.gd⟩ (takes_of rfl rfl rfl rfl)).run [] _ _ (offC H) (fun v H' => (∀ b, RC H b → H' b = none) → Q v (onC H H')) J ?_) (fun v s' hq => ?_) fun e s' hq => hq)
      · have := (hr.deeper (lamE l s.heap.objs.size f c' cl)).un
        show (X.A.deeper _).units + 200 < cLine
        omega
      · refine ⟨ρ.ent, cs.map some, S.off, ⟨by rw [List.length_map, List.length_map, dv.length], (fun m v z => nomatch z), fun i d hd => ?_⟩, s0, ?_⟩
        · rw [List.getElem?_map] at hd
          cases e : cs[i]? with
          | none => rw [e] at hd; cases hd
          | some x =>
            rw [e] at hd
            cases hd
            obtain ⟨v, h1, h2⟩ := dv.get e
            exact ⟨v, by rw [List.getElem?_map, h1]; rfl, h2.monoC x0⟩
        · unfold runL at h
          cases hB : B (cs.map some) S.off with
          | bad => rw [hB] at h; exact h
          | ok d S1 =>
            rw [hB] at h
            intro ρ' H' v e s' rv hfr
            obtain ⟨s2, e2⟩ := s'.on (H := H) hfr
            exact fin_run sr h (Ext.on s' e hfr) s2 (rv.monoC e2)
          | exc c fs ds S1 =>
            rw [hB] at h
            intro ρ' H' C dx fvs e s' hm hd hn hfv rv hfr
            obtain ⟨s2, e2⟩ := s'.on (H := H) hfr
            exact finX_run (Q := Q) sr h (Ext.on s' e hfr) s2 hm (onC_of hfr hd) hn hfv (rv.monoC e2)
      · obtain ⟨v2, H', J', rv, q⟩ := hq
        exact ⟨v2, H', J'.os, J'.bare, J'.base, J'.hok, rv, q⟩
    · -- behind it
      cases res with
      | error e =>
        obtain ⟨a, Bh, H', cls, d, rfl, fly, hok, ub, na, os, bare, w⟩ := hq
        have hfr : ∀ b, RC H b → H' b = none := fun b hb => let ⟨ob, e⟩ := rcO b hb; ub.free b ob e (rcN b hb)
        refine tk _ s' (XE.of_call (E := fun cls d H' => W cls d σ H') I (fun cls d H' h => h) ?_)
        refine ⟨a, Bh, onC H H', cls, d, rfl, fly, hok_on hfr hok (fun b ob e hb => ub.keep b ob (rcG b ob e) (rcN b hb) (rcF b hb)), ub_on ub hfr, ?_, os, bare, w hfr⟩
        by_cases ha : RC H a
        · exfalso
          obtain ⟨o, e1, ob, y, rfl, hd⟩ := id ha
          have g1 := ub.keep a ob (rcG a ob e1) (rcN a ha) (rcF a ha)
          have g2 := fly.1 a ob g1
          obtain ⟨ox, xs, g3, _, g4⟩ := fly.there
          rw [g2] at g3; cases g3
          rw [hd] at g4; cases g4
        · rw [onC_no ha]; exact na
      | ok fl =>
        cases fl with
        | ret u =>
          obtain ⟨v, H', os, bare, un, hok, rv, q⟩ := hq
          have hfr : ∀ b, RC H b → H' b = none := fun b hb => let ⟨ob, e⟩ := rcO b hb; un.free b ob e (rcN b hb) (by simp)
          refine I.after ⟨v, onC H H', os, bare, un_on un rcF hfr, hok_on hfr hok (fun b ob e hb => un.keep b ob (rcG b ob e) (rcN b hb) (rcF b hb) (by simp)), rv, q hfr⟩
        | next => exact False.elim hq
        | brk => exact False.elim hq
        | cont => exact False.elim hq
/-- a table of what the lambdas come to -/
def TabOk (P : Program) (w : World) (K : PySem.W.Frag) (mg : Str → Option Value) (base : Heap) (k : Nat) (tab : LamI → List D → Store → Res) : Prop := ∀ l cs S, tab l cs S = .bad ∨ ∃ B, LamG P w K mg base k l B ∧ tab l cs S = runL B cs S
/-- x(), x a local name -/
def evCallV (i : Nat) (tab : LamI → List D → Store → Res) : Sm := fun σd S => match σd[i]? with
  | some (some (.clo l ns)) => (match capV S ns with
    | some cs => if ns.length = l.caps.length then tab l cs S else .bad
    | none => .bad)
  | _ => .bad
theorem x_callV {tab : LamI → List D → Store → Res} {i : Nat} {a : Str} {p1 p2 : Pos} (T : TabOk X.prog X.w X.K X.mg X.base k tab) (hr : Room (k + 1) X.A) (cn : Cn X) (tk : Takes X W) (hv : PE X (.Name a p1) (tVar i)) : PE X (.Call (.Name a p1) [] [] p2) (xE X W (evCallV i tab)) := by
  refine ⟨fun pins s σ H Q I ⟨ρ, σd, S, er, sr, q⟩ => ?_⟩
  unfold evCallV at q
  split at q
  · rename_i l ns hi
    split at q
    · rename_i cs hc
      split at q
      · rename_i hl
        obtain ⟨v, hσ, rv⟩ := er.at_ i _ hi
        rcases T l cs S with hb | ⟨B, G, hb⟩
        · rw [hb] at q; exact False.elim q
        · rw [hb] at q
          refine wpAny_Call_Name_kw (thn (hv.run pins s σ H (fun u H1 => u = v ∧ H1 = H) I ⟨v, hσ, rfl, rfl⟩) fun u s1 ⟨v1, H1, I1, r1, e1, e2⟩ => ?_)
          subst e1 e2
          cases rv with
          | @clo f c' _ _ cl pm ctv uu hf nf hco nco kc inj cap =>
            obtain rfl : u = Value.ref f := r1
            have of1 : s1.heap.get? f = some (PySem.W.kla_obj "<lambda>" l.q l.params l.body l.scope cl pm c' ctv) := (show ObjOk X.prog X.w H1 s1.heap f (.frz _ uu) from I1.hok f _ hf).1
            refine PySem.W.callWith_F0 ⟨_, _, _, _, of1⟩ ?_
            exact run_lam G hr cn tk I1 sr (.clo hf nf hco nco kc inj cap) hc hl q
      · exact False.elim q
    · exact False.elim q
  · exact False.elim q
end
end Ev
end

section
set_option maxHeartbeats 4000000
namespace Ev
open PySem PySem.Spec PyProof.Rows L2
open Classical
section
variable {X : Cx} {pins : List (Addr × Obj)} {σ : L2.St} {H : Hp} {s : Shared} {ρ : Adr} {S : Store}
/-- a lambda is made: its object is known from now on -/
theorem lam_new {T : List (Addr × Str)} {c P : Addr} {q : Str} {params : Arguments} {body : Expr} {scope : Scope} {pos : Pos} {E : Value → Shared → Prop} {Q : Value → Shared → Prop} (I : Inv X pins σ H s) (TB : LamX.TabB X.base X.mg c P) (hcode : X.env.code = .ref c) (hq : X.env.qual ++ "<lambda>" = q)
    (hm : (P, q) ∈ T) (hu : ∀ p ∈ T, p.1 = P → p.2 = q) (hT : LamX.Tabs T H) (hdef : defaultsOf params X.env = ([], [])) (hfree : ∀ y ∈ scope.names, y.2 = .free → ∃ c, X.env.cells.lookup y.1 = some c)
    (h : ∀ (f c' : Addr) (pm ctv : Value) (H1 : Hp) (t1 : Shared), Inv X pins σ (upd H1 f (.frz (PySem.W.kla_obj "<lambda>" q params body scope (cloFrom X.env.cells scope.names []) pm c' ctv) cellU)) t1 → (∀ b o, H b = some o → b ≠ P → H1 b = some o) → (∃ ps, H1 P = some (.tbl ps)) → LamX.Tabs T H1 → H f = none → H1 f = none →
      H1 c' = some (LamX.CodeO c' q) → (H c' = none ∨ H c' = some (LamX.CodeO c' q)) → Q (.ref f) t1) :
    wpAny (model X.prog X.w) X.A (eval (.Lambda params body scope pos) X.env) Q E s := by
  obtain ⟨ps, hP, htr, hin⟩ := hT _ hm
  refine PySem.W.kla_eval hdef ?_
  rw [hq]
  have bP : s.heap.BuiltinsAt X.mg P := TB.bm.keeps I.bk
  have gP : s.heap.get? P = some { cls := .none, data := .fields ps } := I.hok P _ hP
  have track : ∀ {G : Hp} {hp : Heap} {tk : Nat} {ob : Obj}, ob.isFreed = false → Inv X pins σ G { s with heap := hp, toks := tk } → Inv X pins σ (upd G hp.objs.size (.frz ob cellU)) { s with heap := hp.push ob, toks := tk } := fun {G hp tk ob} fo J =>
    J.laid (a := hp.objs.size) (t' := tk) (h' := hp.push ob) (fun b u e => Heap.get?_push_of_some _ e) (Nat.le_refl _) ⟨Heap.get?_push_size _ fo, trivial, ⟨_, Heap.get?_push_size _ fo⟩, fun _ _ _ _ => trivial⟩
  cases hc : codeAmong pos ps.toList with
  | none =>
    refine PySem.W.kla_makeFunction (mg := X.mg) (c := c) (P := P) (ps := ps) (closure_ok hfree) I.ok.glob (I.mod.glob.keeps I.bk) hcode (TB.code.keeps I.bk) gP htr hc TB.gP bP fun c' ctv hp tk hx hge hlt hrec htb => ?_
    obtain ⟨c2, oc, ws, t, e2, hoc, hd, hv⟩ := hrec
    cases e2
    have nC : H c' = none := I.hok.fresh hge
    have nPc : P ≠ c' := ne_of_none hP nC
    have I1 := LamX.inv_table (q := q) (t' := tk) (more := #[rawInt pos.line, rawInt pos.col, .ref c']) (h' := hp) I hP (fun b o hb e => hx b o hb e) htb hge ⟨oc, ws, t, hoc, hd, hv⟩
    have eL : (ps ++ #[rawInt pos.line, rawInt pos.col, .ref c']).toList = ps.toList ++ [rawInt pos.line, rawInt pos.col, .ref c'] := by simp
    have kp : ∀ b o, H b = some o → b ≠ P → upd (upd H P (.tbl (ps ++ #[rawInt pos.line, rawInt pos.col, .ref c']))) c' (LamX.CodeO c' q) b = some o := fun b o e n => by rw [upd_ne (ne_of_none e nC), upd_ne n]; exact e
    have hsz : s.heap.objs.size ≤ hp.objs.size := Nat.le_trans hge (Nat.le_of_lt hlt)
    refine h hp.objs.size c' _ ctv _ _ (track rfl I1) kp ⟨_, by rw [upd_ne nPc, upd_same]⟩ (fun p hp => ?_) (I.hok.fresh hsz) ?_ upd_same (.inl nC)
    · by_cases hb : p.1 = P
      · rw [hu p hp hb, hb]
        refine ⟨_, by rw [upd_ne nPc, upd_same], by rw [eL]; exact PySem.TriplesOk_snoc _ _ _ _ htr, fun p' cv hcv => ?_⟩
        rw [eL] at hcv
        rcases LamX.among_app _ htr hcv with z | z
        · obtain ⟨c0, e1, e2⟩ := hin p' cv z
          exact ⟨c0, e1, kp _ _ e2 fun z => by rw [z, hP] at e2; cases e2⟩
        · exact ⟨c', z, upd_same⟩
      · obtain ⟨ps2, a1, a2, a3⟩ := hT p hp
        refine ⟨ps2, kp _ _ a1 hb, a2, fun p' cv hcv => ?_⟩
        obtain ⟨c0, e1, e2⟩ := a3 p' cv hcv
        exact ⟨c0, e1, kp _ _ e2 fun z => by rw [z, hP] at e2; cases e2⟩
    · have n1 : hp.objs.size ≠ c' := Nat.ne_of_gt hlt
      have n2 : hp.objs.size ≠ P := Nat.ne_of_gt (Nat.lt_of_lt_of_le (Heap.lt_size gP) hsz)
      rw [upd_ne n1, upd_ne n2]
      exact I.hok.fresh hsz
  | some cv =>
    obtain ⟨c', e, hco⟩ := hin pos cv hc
    subst e
    refine PySem.W.kla_makeFunctionHit (mg := X.mg) (c := c) (P := P) (ps := ps) (closure_ok hfree) I.ok.glob (I.mod.glob.keeps I.bk) hcode (TB.code.keeps I.bk) gP htr hc bP fun ctv hp tk hx hsz => ?_
    have I1 : Inv X pins σ H { s with heap := hp, toks := tk } := I.kept hx
    exact h hp.objs.size c' _ ctv H _ (track rfl I1) (fun b o e _ => e) ⟨ps, hP⟩ hT (I.hok.fresh hsz) (I.hok.fresh hsz) hco (.inr hco)
/-- the lambda l, its captured names at the slots -/
def evLam (l : LamI) (slots : List Nat) : Sm := fun _ S => match S.mkr with
  | some o => .ok (.clo l (slots.map (o + ·))) S
  | none => .bad
theorem lookup_cloFrom {cells : List (Str × Addr)} {x : Str} {c : Addr} : ∀ {names : List (Str × NameKind)} {acc : List (Str × Addr)}, (cloFrom cells names acc).lookup x = some c → acc.lookup x = some c ∨ ((x, NameKind.free) ∈ names ∧ c = (cells.lookup x).getD 0) := fun {names acc} h => by
  induction names generalizing acc with
  | nil => exact .inl h
  | cons p r ih =>
    obtain ⟨n, k⟩ := p
    unfold cloFrom at h
    split at h
    · rename_i hk
      have hk : k = .free := by simpa using hk
      subst hk
      rcases ih h with h | ⟨h1, h2⟩
      · rw [List.lookup_cons] at h
        by_cases e : x = n
        · subst e
          simp at h
          exact .inr ⟨List.mem_cons_self, h.symm⟩
        · have : (x == n) = false := by simpa using e
          rw [this] at h
          exact .inl h
      · exact .inr ⟨List.mem_cons_of_mem _ h1, h2⟩
    · rcases ih h with h | ⟨h1, h2⟩
      · exact .inl h
      · exact .inr ⟨List.mem_cons_of_mem _ h1, h2⟩
theorem x_lam {W : WX} {l : LamI} {slots : List Nat} {c P : Addr} {params : Arguments} {body : Expr} {scope : Scope} {pos : Pos} (TB : LamX.TabB X.base X.mg c P) (hcode : X.env.code = .ref c) (hst : X.stack.length = X.outer.length + 1)
    (hl : l.q = X.env.qual ++ "<lambda>" ∧ l.params = params ∧ l.body = body ∧ l.scope = scope) (hdef : defaultsOf params X.env = ([], [])) (hs : slots.length = l.caps.length)
    (hcap : ∀ (j : Nat) x, l.caps[j]? = some x → ∃ i, slots[j]? = some i ∧ X.N[i]? = some x ∧ X.fn x = true) (hfr : ∀ y ∈ scope.names, y.2 = .free → y.1 ∈ l.caps ∧ (X.env.scope.names.lookup y.1 = some .cell ∨ X.env.scope.names.lookup y.1 = some .free)) (hcf : ∀ x ∈ l.caps, (x, NameKind.free) ∈ scope.names) :
    PE X (.Lambda params body scope pos) (xE X W (evLam l slots)) := by
  refine ⟨fun pins s σ H Q I ⟨ρ, σd, S, er, sr, qq⟩ => ?_⟩
  unfold evLam at qq
  split at qq
  · rename_i o ho
    have hk : ∃ m, ρ.fx.k = some m ∧ m.o = o := by
      have := sr.mkr
      rw [ho] at this
      cases e : ρ.fx.k with
      | none => rw [e] at this; cases this
      | some m => rw [e] at this; cases this; exact ⟨m, rfl, rfl⟩
    obtain ⟨m, hm, hmo⟩ := hk
    obtain ⟨v, hcv, htab⟩ : ∃ v, cvOf X = some v ∧ v = ⟨X.N.map (fun x => if X.fn x = true then X.env.cells.lookup x else none), tabOf X, X.env.qual ++ "<lambda>"⟩ := by
      unfold cvOf
      rw [if_pos hst]
      exact ⟨_, rfl, rfl⟩
    obtain ⟨c1, c2, c3⟩ := er.cc m v hm hcv
    obtain ⟨kb1, kb2⟩ := sr.kb m hm
    obtain ⟨cc, tcode, TB2⟩ : ∃ c, X.env.code = .ref c ∧ LamX.TabB X.base X.mg c (tabOf X) := by
      have hex : ∃ P, ∃ c, X.env.code = .ref c ∧ LamX.TabB X.base X.mg c P := ⟨P, c, hcode, TB⟩
      unfold tabOf
      rw [dif_pos hex]
      exact Classical.choose_spec hex
    have eP : tabOf X = m.P := by rw [htab] at c1; exact c1
    have eq_ : X.env.qual ++ "<lambda>" = m.q := by rw [htab] at c2; exact c2
    rw [eP] at TB2
    have has : ∀ y ∈ scope.names, y.2 = .free → ∃ c, X.env.cells.lookup y.1 = some c := fun y hy e => by
      rcases (hfr y hy e).2 with k | k
      · exact I.ok.has _ (.inl k)
      · exact I.ok.has _ (.inr k)
    refine lam_new I TB2 tcode eq_ kb1 kb2 sr.tb hdef has fun f c' pm ctv H1 t1 I1 kp hP1 T1 hf hf1 hc1 hc0 => ?_
    have nf : ¬ ρ.has f := sr.new hf
    have nP : ∀ {a}, a ∈ ρ.r ∨ a ∈ ρ.t ∨ a ∈ ρ.x → a ≠ m.P := fun {a} ha z => by
      subst z
      rcases ha with ha | ha | ha
      · exact (sr.nb _ kb1).1 ha
      · exact (sr.nb _ kb1).2 ha
      · exact (sr.nx _ ha).2.2.1 _ kb1
    have ext1 : ∀ b o', H b = some o' → ¬ ρ.has b → upd H1 f (.frz (PySem.W.kla_obj "<lambda>" m.q params body scope (cloFrom X.env.cells scope.names []) pm c' ctv) cellU) b = some o' := fun b o' e n => by
      rw [upd_ne (ne_of_none e hf)]
      exact kp b o' e fun z => n (.inr (.inr (.inl ⟨m.q, by rw [z]; exact kb1⟩)))
    have same : ∀ {b o'}, H b = some o' → b ≠ m.P → upd H1 f (.frz (PySem.W.kla_obj "<lambda>" m.q params body scope (cloFrom X.env.cells scope.names []) pm c' ctv) cellU) b = some o' := fun {b o'} e n => by
      rw [upd_ne (ne_of_none e hf)]
      exact kp b o' e n
    have kx : ∀ a ∈ ρ.x, upd H1 f (.frz (PySem.W.kla_obj "<lambda>" m.q params body scope (cloFrom X.env.cells scope.names []) pm c' ctv) cellU) a = H a := fun a ha => by
      obtain ⟨u, e, _⟩ := (sr.nx a ha).2.2.2
      rw [same e (nP (.inr (.inr ha))), e]
    have ex : Ext ρ H ρ (upd H1 f (.frz (PySem.W.kla_obj "<lambda>" m.q params body scope (cloFrom X.env.cells scope.names []) pm c' ctv) cellU)) := ⟨⟨ext1, fun _ _ _ n => n, fun _ _ h => h, fun _ _ h => h, rfl⟩, rfl, kx⟩
    have sr2 : SR X.K X.mg ρ (upd H1 f (.frz (PySem.W.kla_obj "<lambda>" m.q params body scope (cloFrom X.env.cells scope.names []) pm c' ctv) cellU)) S := by
      refine ⟨sr.nr, sr.nt, sr.dj, sr.lr, sr.lt, fun n c a h1 h2 => ?_, fun n c a h1 h2 => ?_, sr.pc, fun p hp => ?_, sr.nb, fun a ha => ?_, sr.mkr, sr.kb, sr.vs_mono ex.toExt0⟩
      · have cr := sr.cs n c a h1 h2
        obtain ⟨u, e⟩ := cr.there
        exact cr.mono ex (by rw [same e (nP (.inl (List.mem_of_getElem? h2))), e])
      · have cr := sr.os n c a h1 h2
        obtain ⟨u, e⟩ := cr.there
        exact cr.mono ex (by rw [same e (nP (.inr (.inl (List.mem_of_getElem? h2)))), e])
      · obtain ⟨ps, a1, a2, a3⟩ := T1 p hp
        have up : ∀ {b o'}, H1 b = some o' → upd H1 f (.frz (PySem.W.kla_obj "<lambda>" m.q params body scope (cloFrom X.env.cells scope.names []) pm c' ctv) cellU) b = some o' := fun {b o'} e => by rw [upd_ne (ne_of_none e hf1)]; exact e
        refine ⟨ps, up a1, a2, fun pos cv hcv => ?_⟩
        obtain ⟨c0, e1, e2⟩ := a3 pos cv hcv
        exact ⟨c0, e1, up e2⟩
      · obtain ⟨n1, n2, n3, u, e, me⟩ := sr.nx a ha
        exact ⟨n1, n2, n3, u, by rw [kx a ha]; exact e, me⟩
    refine ⟨.ref f, _, I1, rfl, qq.at2 ex sr2 ?_⟩
    obtain ⟨l1, l2, l3, l4⟩ := hl
    have hq : l.q = m.q := l1.trans eq_
    refine .clo (l := l) (cl := cloFrom X.env.cells scope.names []) (pm := pm) (ctv := ctv) (c' := c') (u := cellU) (by rw [upd_same, hq, l2, l3, l4]) nf ?_ ?_ (fun j x hj => ?_) (fun x y c hx hy => ?_) (fun x c hx => ?_)
    · rw [hq]
      have : c' ≠ f := fun z => by rw [z, hf1] at hc1; cases hc1
      rw [upd_ne this]; exact hc1
    · rcases hc0 with hc0 | hc0
      · exact sr.new hc0
      · rintro (z | z | z | z)
        · obtain ⟨n, hn, e1⟩ := List.mem_iff_getElem.mp z
          have h2 : n < S.cs.length := by rw [← sr.lr]; exact hn
          have cr := sr.cs n _ c' (List.getElem?_eq_getElem h2) (by rw [← e1]; exact List.getElem?_eq_getElem hn)
          unfold LamX.CodeO at hc0
          cases hc : S.cs[n] <;> rw [hc] at cr
          · obtain ⟨_, q1, _⟩ := cr; rw [hc0] at q1; cases q1
          · obtain ⟨_, _, q1, _⟩ := cr; rw [hc0] at q1; cases q1
          · obtain ⟨_, q1, _⟩ := cr; rw [hc0] at q1; cases q1
          · obtain ⟨_, q1, _⟩ := cr; rw [hc0] at q1; cases q1
        · obtain ⟨n, hn, e1⟩ := List.mem_iff_getElem.mp z
          have h2 : n < S.os.length := by rw [← sr.lt]; exact hn
          obtain ⟨_, _, _, q1, _⟩ := sr.os n _ c' (List.getElem?_eq_getElem h2) (by rw [← e1]; exact List.getElem?_eq_getElem hn)
          unfold LamX.CodeO at hc0
          rw [hc0] at q1; cases q1
        · obtain ⟨q', z⟩ := z
          obtain ⟨ps, a1, _⟩ := sr.tb _ z
          unfold LamX.CodeO at hc0
          rw [hc0] at a1; cases a1
        · obtain ⟨u, e, me⟩ := (sr.nx _ z).2.2.2
          rw [hc0] at e
          exact me.noExt _ (Option.some.inj e).symm
    · obtain ⟨i, h1, h2, h3⟩ := hcap j x hj
      have hxf := hcf x (List.mem_of_getElem? hj)
      obtain ⟨c0, e0⟩ := has _ hxf rfl
      refine ⟨o + i, c0, by rw [List.getElem?_map, h1]; rfl, ?_, ?_⟩
      · obtain ⟨c9, e9⟩ := mem_lookup (cloFrom_has (cells := X.env.cells) (acc := []) hxf)
        rcases lookup_cloFrom e9 with z | ⟨_, z⟩
        · cases z
        · rw [e9, z, e0]; rfl
      · rw [← hmo]
        refine c3 i c0 ?_
        rw [htab]
        show (X.N.map _)[i]? = _
        rw [List.getElem?_map, h2]
        show some (if X.fn x = true then X.env.cells.lookup x else none) = _
        rw [if_pos h3, e0]
    · rcases lookup_cloFrom hx with z | ⟨z1, z2⟩
      · cases z
      · rcases lookup_cloFrom hy with w | ⟨w1, w2⟩
        · cases w
        · obtain ⟨c1', e1⟩ := has _ z1 rfl
          obtain ⟨c2', e2⟩ := has _ w1 rfl
          rw [show X.env.cells.lookup x = some c1' from e1] at z2
          rw [show X.env.cells.lookup y = some c2' from e2] at w2
          exact I.ok.inj x y c (by rw [show X.env.cells.lookup x = some c1' from e1, z2]; rfl) (by rw [show X.env.cells.lookup y = some c2' from e2, w2]; rfl)
    · rcases lookup_cloFrom hx with z | ⟨z1, z2⟩
      · cases z
      · exact (hfr _ z1 rfl).1
  · exact False.elim qq
end
end Ev
end

section
set_option maxHeartbeats 4000000
namespace Ev
open PySem PySem.Spec PyProof.Rows L2
open Classical
/-- with the cells T -/
noncomputable def inT (T : Addr → Prop) (h : Heap) (H : Hp) : Hp := fun b => if T b then (h.get? b).map (fun o => HO.frz o cellU) else H b
/-- without -/
noncomputable def exT (T : Addr → Prop) (H : Hp) : Hp := fun b => if T b then none else H b
section
variable {T : Addr → Prop} {P : Program} {w : World} {K : PySem.W.Frag} {mg : Str → Option Value} {base : Heap} {A : Around} {outer : List Env} {s s' : Shared} {H H' : Hp} {h h' B : Heap} {fs : List Addr}
/-- what the cells must be -/
structure TOk (T : Addr → Prop) (H : Hp) (h base : Heap) (fs : List Addr) : Prop where
  no : ∀ b, T b → H b = none
  ob : ∀ b, T b → ∃ o y, h.get? b = some o ∧ o.data = .cell y
  fr : ∀ b, T b → b ∉ fs
  bs : ∀ b, T b → base.get? b = none
theorem inT_of (t : TOk T H h base fs) {b : Addr} {o : HO} (e : H b = some o) : inT T h H b = some o := by
  unfold inT
  rw [if_neg fun z => by rw [t.no b z] at e; cases e]
  exact e
theorem inT_T {b : Addr} {o : Obj} (z : T b) (e : h.get? b = some o) : inT T h H b = some (.frz o cellU) := by
  unfold inT
  rw [if_pos z, e]; rfl
theorem inT_no {b : Addr} (z : ¬ T b) : inT T h H b = H b := by unfold inT; rw [if_neg z]
theorem exT_no {b : Addr} (z : ¬ T b) : exT T H b = H b := by unfold exT; rw [if_neg z]
theorem exT_T {b : Addr} (z : T b) : exT T H b = none := by unfold exT; rw [if_pos z]
theorem env0_in (t : TOk T H s.heap base (frs outer)) (e : Env0 P w K mg base A outer s H) : Env0 P w K mg base A outer s (inT T s.heap H) := by
  refine ⟨e.frames, e.mod, fun b o q => ⟨(e.bs b o q).1, ?_⟩, e.bsz, e.funs, fun b hb => ?_, fun b o q => ?_, e.bare⟩
  · rw [inT_no fun z => by rw [t.bs b z] at q; cases q]; exact (e.bs b o q).2
  · rw [inT_no fun z => t.fr b z hb]; exact e.frf b hb
  · by_cases z : T b
    · obtain ⟨ob, y, g, d⟩ := t.ob b z
      rw [inT_T z g] at q
      cases q
      exact ⟨g, trivial, ⟨ob, g⟩, fun _ _ _ _ => trivial⟩
    · rw [inT_no z] at q
      exact (e.hok b o q).stay (fun c v _ q => q) (fun c q => inT_of t q) fun c xs q => inT_of t q
/-- the cells stand as they stood -/
def Stood (T : Addr → Prop) (h : Heap) (H' : Hp) : Prop := ∀ b, T b → ∃ o, h.get? b = some o ∧ H' b = some (.frz o cellU)
theorem stood_un (t : TOk T H h base fs) (u : Un fs [] (inT T h H) H' h h') : Stood T h H' := fun b z => by
  obtain ⟨o, y, g, d⟩ := t.ob b z
  exact ⟨o, g, u.frzs b o _ (inT_T z g)⟩
theorem stood_ub (t : TOk T H h base fs) (u : UB fs (inT T h H) H' h B h') : Stood T h H' := fun b z => by
  obtain ⟨o, y, g, d⟩ := t.ob b z
  exact ⟨o, g, u.frzs b o _ (inT_T z g)⟩
theorem exT_of (st : Stood T h H') {b : Addr} {o : HO} (e : H' b = some o) (n : ∀ oc u, o ≠ .frz oc u) : exT T H' b = some o := by
  rw [exT_no fun z => by obtain ⟨oc, _, q⟩ := st b z; rw [q] at e; cases e; exact n _ _ rfl]
  exact e
theorem hok_ex (st : Stood T h H') (x : HOk P w H' h') : HOk P w (exT T H') h' := fun b o e => by
  have nz : ¬ T b := fun z => by rw [exT_T z] at e; cases e
  rw [exT_no nz] at e
  exact (x b o e).stay (fun c v _ q => q) (fun c q => exT_of st q fun _ _ z => by cases z) fun c xs q => exT_of st q fun _ _ z => by cases z
theorem un_ex (t : TOk T H h base fs) (u : Un fs [] (inT T h H) H' h h') (x : HOk P w H' h') : Un fs [] H (exT T H') h h' where
  keep := fun b o q n hb hx => by
    by_cases z : T b
    · obtain ⟨oc, g, e⟩ := stood_un t u b z
      rw [q] at g; cases g
      exact (show ObjOk P w H' h' b (.frz o cellU) from x b _ e).1
    · exact u.keep b o q (by rw [inT_no z]; exact n) hb hx
  slot := fun b o q n hb hx => u.slot b o q (by rw [inT_no fun z => t.fr b z hb]; exact n) hb hx
  free := fun b o q n hx => by
    by_cases z : T b
    · exact exT_T z
    · rw [exT_no z]; exact u.free b o q (by rw [inT_no z]; exact n) hx
  there := u.there
  tups := fun b xs q => by rw [exT_no fun z => by rw [t.no b z] at q; cases q]; exact u.tups b xs (inT_of t q)
  frzs := fun b o v q => by rw [exT_no fun z => by rw [t.no b z] at q; cases q]; exact u.frzs b o v (inT_of t q)
  tbls := fun b ps q => by rw [exT_no fun z => by rw [t.no b z] at q; cases q]; exact u.tbls b ps (inT_of t q)
theorem ub_ex (t : TOk T H h base fs) (u : UB fs (inT T h H) H' h B h') (x : HOk P w H' B) : UB fs H (exT T H') h B h' where
  keep := fun b o q n hb => by
    by_cases z : T b
    · obtain ⟨oc, g, e⟩ := stood_ub t u b z
      rw [q] at g; cases g
      exact (show ObjOk P w H' B b (.frz o cellU) from x b _ e).1
    · exact u.keep b o q (by rw [inT_no z]; exact n) hb
  slot := u.slot
  free := fun b o q n => by
    by_cases z : T b
    · exact exT_T z
    · rw [exT_no z]; exact u.free b o q (by rw [inT_no z]; exact n)
  there := u.there
  tups := fun b xs q => by rw [exT_no fun z => by rw [t.no b z] at q; cases q]; exact u.tups b xs (inT_of t q)
  frzs := fun b o v q => by rw [exT_no fun z => by rw [t.no b z] at q; cases q]; exact u.frzs b o v (inT_of t q)
  tbls := fun b ps q => by rw [exT_no fun z => by rw [t.no b z] at q; cases q]; exact u.tbls b ps (inT_of t q)
end
def mask (sl : List Nat) : Nat → Env1 → Env1
  | _, [] => []
  | i, d :: r => (if i ∈ sl then d else none) :: mask sl (i + 1) r
theorem mask_at {sl : List Nat} : ∀ {σd : Env1} {i j : Nat} {d : D}, (mask sl i σd)[j]? = some (some d) → i + j ∈ sl ∧ σd[j]? = some (some d)
  | [], i, j, d, h => by simp [mask] at h
  | x :: r, i, 0, d, h => by
    simp only [mask, List.getElem?_cons_zero] at h
    split at h
    · cases h; exact ⟨by assumption, rfl⟩
    · cases h
  | x :: r, i, j + 1, d, h => by
    simp only [mask, List.getElem?_cons_succ] at h
    obtain ⟨h1, h2⟩ := mask_at h
    exact ⟨by rw [show i + (j + 1) = i + 1 + j by omega]; exact h1, by simpa using h2⟩
def Store.entC (S : Store) (sl : List Nat) (σd : Env1) : Store := { S with mkr := none, vs := mask sl 0 σd }
def Store.back (S1 S : Store) : Store := { S1 with mkr := S.mkr, vs := S.vs }
def Adr.back (ρ1 ρ : Adr) : Adr := { ρ1 with fx := ρ.fx }
def callC (sl : List Nat) (n : Nat) (F : List D → Store → Res) (σd : Env1) (ds : List D) (S : Store) : Res := match S.mkr with
  | some 0 => if ds.length = n then (match F ds (S.entC sl σd) with
    | .ok d S1 => .ok d (S1.back S)
    | .exc c fs vs S1 => .exc c fs vs (S1.back S)
    | .bad => .bad) else .bad
  | _ => .bad
section
variable {X : Cx} {W : WX} {pins : List (Addr × Obj)} {σ : L2.St} {σd : Env1} {H H' : Hp} {s : Shared} {ρ ρ' : Adr} {S S1 : Store} {T : Addr → Prop}
theorem SR.back (s0 : SR X.K X.mg ρ H S) (e : Ext ρ.ent (inT T s.heap H) ρ' H') (t : TOk T H s.heap X.base (frs X.stack)) (s1 : SR X.K X.mg ρ' H' S1) (st : Stood T s.heap H') :
    SR X.K X.mg (ρ'.back ρ) (exT T H') (S1.back S) ∧ Ext ρ H (ρ'.back ρ) (exT T H') ∧ ExtC ρ' H' (ρ'.back ρ) (exT T H') := by
  have hb : ρ'.fx.b = ρ.fx.b := by rw [e.fx]; rfl
  have hc : ρ'.fx.c = ρ.fx.c := by rw [e.fx]; rfl
  have has : ∀ {a}, (ρ'.back ρ).has a → ρ'.has a := fun {a} z => by
    rcases z with z | z | z | z
    · exact .inl z
    · exact .inr (.inl z)
    · obtain ⟨q, z⟩ := z; exact .inr (.inr (.inl ⟨q, by rw [hb]; exact z⟩))
    · exact .inr (.inr (.inr z))
  have nT : ∀ {a o}, H' a = some o → ¬ CellF o → exT T H' a = some o := fun {a o} h n => by
    rw [exT_no fun z => by
      obtain ⟨oc, g, q⟩ := st a z
      obtain ⟨o2, y, g2, d⟩ := t.ob a z
      rw [g] at g2; cases g2
      rw [q] at h; cases h
      exact n ⟨oc, y, rfl, d⟩]
    exact h
  have ec : ExtC ρ' H' (ρ'.back ρ) (exT T H') := ⟨fun a o h _ n => nT h n, fun a o h q _ z => q (has z), fun _ _ h => h, fun _ _ h => h, fun n a h => by show ρ.fx.c[n]? = _; rw [← hc]; exact h⟩
  have Tno : ∀ {a o}, H a = some o → ¬ T a := fun {a o} h z => by rw [t.no a z] at h; cases h
  have ex : Ext ρ H (ρ'.back ρ) (exT T H') := ⟨⟨fun a o h n => by rw [exT_no (Tno h)]; exact e.keep a o (inT_of t h) n, fun a o h n z => e.nin a o (inT_of t h) n (has z), e.ar, e.at_, rfl⟩, e.xx, fun a ha => by
    obtain ⟨o, h, _⟩ := (s0.nx a ha).2.2.2
    rw [exT_no (Tno h), e.kx a ha]
    exact inT_no (Tno h)⟩
  refine ⟨⟨s1.nr, s1.nt, s1.dj, s1.lr, s1.lt, fun n c a h1 h2 => ?_, fun n c a h1 h2 => ?_, s1.pc, fun p hp => ?_, fun p hp => s1.nb p (by rw [hb]; exact hp), fun a ha => ?_, s0.mkr, s0.kb, s0.vs_mono ex.toExt0⟩, ex, ec⟩
  · have cr := s1.cs n c a h1 h2
    refine cr.monoC ec ?_
    cases c with
    | lst ds => obtain ⟨vs, q, _⟩ := cr; exact (nT q (not_cellF fun _ _ z => by cases z)).trans q.symm
    | scr ds => obtain ⟨o, vs, q, _⟩ := cr; exact (nT q (fun ⟨oc, y, z, _⟩ => by cases z)).trans q.symm
    | dk ks ds => obtain ⟨kvs, q, _⟩ := cr; exact (nT q (not_cellF fun _ _ z => by cases z)).trans q.symm
    | dt ks ds => obtain ⟨kvs, q, _⟩ := cr; exact (nT q (not_cellF fun _ _ z => by cases z)).trans q.symm
  · have cr := s1.os n c a h1 h2
    refine cr.monoC ec ?_
    obtain ⟨C, dx, fvs, q, _⟩ := cr
    exact (nT q (not_cellF fun _ _ z => by cases z)).trans q.symm
  · obtain ⟨ps, h1, h2, h3⟩ := s1.tb p (by rw [hb]; exact hp)
    refine ⟨ps, nT h1 (not_cellF fun _ _ z => by cases z), h2, fun pos cv hcv => ?_⟩
    obtain ⟨c, e1, e2⟩ := h3 pos cv hcv
    exact ⟨c, e1, nT e2 (fun ⟨oc, y, z, _⟩ => by cases z)⟩
  · obtain ⟨n1, n2, n3, o, h, me⟩ := s1.nx a ha
    exact ⟨n1, n2, fun q z => n3 q (by rw [hb]; exact z), o, nT h me.noCell, me⟩
/-- the slots sl are captured names of the frame -/
def SlOk (X : Cx) (sl : List Nat) : Prop := ∀ i ∈ sl, ∃ x, X.N[i]? = some x ∧ X.fn x = true ∧ X.env.scope.names.lookup x = some .cell
def TC (X : Cx) (sl : List Nat) (σd : Env1) (b : Addr) : Prop := ∃ i x d, i ∈ sl ∧ X.N[i]? = some x ∧ σd[i]? = some (some d) ∧ X.env.cells.lookup x = some b ∧ X.env.scope.names.lookup x = some .cell ∧ X.fn x = true
theorem tc_cell {sl : List Nat} (I : Inv X pins σ H s) (er : ER X.K X.mg (cvOf X) ρ H σd σ) {b : Addr} (t : TC X sl σd b) : ∃ (i : Nat) (d : D) (v : V) (o : Obj) (u : Value), σd[i]? = some (some d) ∧ DR X.K X.mg ρ H d v ∧ s.heap.get? b = some o ∧ o.data = .cell (some u) ∧ RelV v u := by
  obtain ⟨i, x, d, hi, hN, hd, hc, hk, hf⟩ := t
  obtain ⟨v, h1, h2⟩ := er.at_ i d hd
  obtain ⟨m, _, hl⟩ := I.loc
  obtain ⟨u, r, lk⟩ := hl i x v hN h1 (.inr (.inl hk))
  rcases lk with ⟨k, _⟩ | ⟨_, c, e, o, g, dd⟩
  · have k : X.env.scope.names.lookup x = some .local := k
    rw [hk] at k; cases k
  · rw [hc] at e; cases e
    exact ⟨i, d, v, o, u, hd, h2, g, dd, r⟩
theorem tok_of {sl : List Nat} (I : Inv X pins σ H s) (er : ER X.K X.mg (cvOf X) ρ H σd σ) : TOk (TC X sl σd) H s.heap X.base (frs X.stack) := by
  refine ⟨fun b t => ?_, fun b t => ?_, fun b t hb => ?_, fun b t => ?_⟩
  · obtain ⟨i, x, d, hi, hN, hd, hc, hk, hf⟩ := t
    exact I.freeC x b hc
  · obtain ⟨_, _, _, o, u, _, _, g, dd, _⟩ := tc_cell I er t
    exact ⟨o, _, g, dd⟩
  · obtain ⟨i, x, d, hi, hN, hd, hc, hk, hf⟩ := id t
    have ge := I.ok.cab x b hf hc
    rcases List.mem_cons.mp (I.stkSub b hb) with z | z
    · exact I.cne x b hc z
    · have := (I.ok.funs.mem z).2
      obtain ⟨o, g, _⟩ := this
      exact absurd (Heap.lt_size g) (Nat.not_lt.mpr ge)
  · obtain ⟨i, x, d, hi, hN, hd, hc, hk, hf⟩ := t
    have ge := I.ok.cab x b hf hc
    cases e : X.base.get? b with
    | none => rfl
    | some o => exact absurd (Heap.lt_size e) (Nat.not_lt.mpr (Nat.le_trans I.ok.bsz ge))
theorem sr_entC {sl : List Nat} {m : MK} (I : Inv X pins σ H s) (er : ER X.K X.mg (cvOf X) ρ H σd σ) (sr : SR X.K X.mg ρ H S) (hst : X.stack.length = X.outer.length + 1) (hsl : SlOk X sl) (hm : ρ.fx.k = some m) (h0 : m.o = 0) :
    SR X.K X.mg ρ.ent (inT (TC X sl σd) s.heap H) (S.entC sl σd) ∧ ExtC ρ H ρ.ent (inT (TC X sl σd) s.heap H) := by
  have t := tok_of (sl := sl) I er
  have ec : ExtC ρ H ρ.ent (inT (TC X sl σd) s.heap H) := ⟨fun a o h _ _ => inT_of t h, fun _ _ _ n _ => n, fun _ _ h => h, fun _ _ h => h, fun _ _ h => h⟩
  have at_ : ∀ {a o}, H a = some o → inT (TC X sl σd) s.heap H a = H a := fun {a o} h => (inT_of t h).trans h.symm
  refine ⟨⟨sr.nr, sr.nt, sr.dj, sr.lr, sr.lt, fun n c a h1 h2 => ?_, fun n c a h1 h2 => ?_, sr.pc, fun p hp => ?_, sr.nb, fun a ha => ?_, rfl, (fun _ z => nomatch z), fun n d h => ?_⟩, ec⟩
  · have cr := sr.cs n c a h1 h2
    obtain ⟨o, q⟩ := cr.there
    exact cr.monoC ec (at_ q)
  · have cr := sr.os n c a h1 h2
    obtain ⟨o, q⟩ := cr.there
    exact cr.monoC ec (at_ q)
  · obtain ⟨ps, h1, h2, h3⟩ := sr.tb p hp
    refine ⟨ps, inT_of t h1, h2, fun pos cv hcv => ?_⟩
    obtain ⟨c, e1, e2⟩ := h3 pos cv hcv
    exact ⟨c, e1, inT_of t e2⟩
  · obtain ⟨n1, n2, n3, o, h, me⟩ := sr.nx a ha
    exact ⟨n1, n2, n3, o, inT_of t h, me⟩
  · obtain ⟨hin, hd⟩ := mask_at (show (mask sl 0 σd)[n]? = some (some d) from h)
    rw [Nat.zero_add] at hin
    obtain ⟨x, hN, hf, hk⟩ := hsl n hin
    obtain ⟨c, hc⟩ := I.ok.has x (.inl hk)
    have tc : TC X sl σd c := ⟨n, x, d, hin, hN, hd, hc, hk, hf⟩
    obtain ⟨v, h1, h2⟩ := er.at_ n d hd
    obtain ⟨m', _, hl⟩ := I.loc
    obtain ⟨u, r, lk⟩ := hl n x v hN h1 (.inr (.inl hk))
    rcases lk with ⟨k, _⟩ | ⟨_, c2, e, o, g, dd⟩
    · have k : X.env.scope.names.lookup x = some .local := k
      rw [hk] at k; cases k
    · rw [hc] at e; cases e
      have hcv : cvOf X = some ⟨X.N.map (fun x => if X.fn x = true then X.env.cells.lookup x else none), tabOf X, X.env.qual ++ "<lambda>"⟩ := by
        unfold cvOf; rw [if_pos hst]
      obtain ⟨_, _, c3⟩ := er.cc m _ hm hcv
      have := c3 n c (by
        show (X.N.map _)[n]? = _
        rw [List.getElem?_map, hN]
        show some (if X.fn x = true then X.env.cells.lookup x else none) = _
        rw [if_pos hf, hc])
      rw [h0, Nat.zero_add] at this
      exact ⟨c, o, v, this, inT_T tc g, sr.new (t.no c tc), h2.monoC ec, u, dd, r⟩
/-- f(e, ..) that hands lambdas on -/
theorem x_callC {k : Nat} {f : Addr} {fd : FuncData} {ps : List Str} {F : List D → Store → Res} {x : Str} {p pos : Pos} {e : Expr} {es : List Expr} {M : Sm} {sl : List Nat} (G : FnG X.prog X.w X.K X.mg X.base k f fd ps F) (hr : Room k X.A) (cn : Cn X) (tk : Takes X W) (hm : X.mg x = some (.ref f)) (hk : PySem.W.keepIn X.K (.ref f) = true) (hb : L2.Binds X.K fd ps [])
    (hst : X.stack.length = X.outer.length + 1) (hsl : SlOk X sl) (ha : PA X (e :: es) (xA X W M)) (hg : Gl X x := by rfl) (hdb : (x == ("__debug__" : Str)) = false := by decide) (he : starEach (e :: es) X.env = (false, eval e X.env) :: starEach es X.env := by rfl) (hpl : (backTo pos (starEach es X.env)).any (·.1) = false := by rfl) :
    PE X (.Call (.Name x p) (e :: es) [] pos) (xE X W (fun σd S => (M σd S).bindA (callC sl ps.length F σd))) := by
  refine ⟨fun pins s σ H Q I ⟨ρ, σd, S, er, sr, q⟩ => ?_⟩
  refine wpAny_Call_Name_kw (ld_glob I hg hm ?_ hdb)
  refine PySem.W.callWith_K (h₀ := X.base) I.ok.mod.kin hk (thn (ha.run pos pins s σ H (fun vs H1 => ∃ ds S1 ρ1, Ext ρ H ρ1 H1 ∧ SR X.K X.mg ρ1 H1 S1 ∧ DRs X.K X.mg ρ1 H1 ds vs ∧ RQ X.K X.mg ρ1 H1 σ W (callC sl ps.length F σd ds S1) Q) I ⟨ρ, σd, S, er, sr, RQA.bind q⟩) fun us s1 ⟨vs, H1, I1, r, ds, S1, ρ1, x1, s1', r1, q1⟩ => ⟨I1.kIn, ?_⟩) he hpl
  show wpAny _ _ (call (.ref f) us) _ _ _
  have er1 := er.mono x1
  unfold callC at q1
  split at q1
  · rename_i hmk
    split at q1
    · rename_i hl
      obtain ⟨m, hmm, hmo⟩ : ∃ m, ρ1.fx.k = some m ∧ m.o = 0 := by
        have := s1'.mkr
        rw [hmk] at this
        cases e : ρ1.fx.k with
        | none => rw [e] at this; cases this
        | some m => rw [e] at this; exact ⟨m, rfl, (Option.some.inj this).symm⟩
      have t := tok_of (sl := sl) I1 er1
      obtain ⟨s2, ec⟩ := sr_entC I1 er1 s1' hst hsl hmm hmo
      have e0 := env0_in t I1.env0
      have hl2 : us.length = ps.length := by rw [← r.length, ← r1.length]; exact hl
      have hb2 := hb s1 us I1.kIn (by rw [List.append_nil]; exact hl2)
      rw [List.append_nil] at hb2
      refine wpAny_call (codeAny_mono (G.run X.A X.stack s1 (inT (TC X sl σd) s1.heap H1) ⟨us, []⟩ us vs ρ1.ent (S1.entC sl σd) ds (fun v H' => Stood (TC X sl σd) s1.heap H' → Q v (exT (TC X sl σd) H')) (fun cls d H' => Stood (TC X sl σd) s1.heap H' → W cls d σ (exT (TC X sl σd) H')) hr cn.gd e0 hb2 r hl2 s2 (r1.monoC ec) ?_) fun res t1 hq => ?_)
      · cases hF : F ds (S1.entC sl σd) with
        | bad => rw [hF] at q1; exact q1
        | ok d S3 =>
          rw [hF] at q1
          intro ρ' H' v e' s3 rv st
          obtain ⟨b1, b2, b3⟩ := SR.back s1' e' t s3 st
          exact q1.at2 b2 b1 (rv.monoC b3)
        | exc c fs ds S3 =>
          rw [hF] at q1
          intro ρ' H' C dx fvs e' s3 hmc hd hn hfv rv st
          obtain ⟨b1, b2, b3⟩ := SR.back s1' e' t s3 st
          refine q1 _ _ C dx fvs b2 b1 hmc ?_ ?_ hfv (rv.monoC b3)
          · exact b3.keep _ _ hd hn (not_cellF fun _ _ z => by cases z)
          · exact b3.nin _ _ hd hn (not_cellF fun _ _ z => by cases z)
      · cases res with
        | error ee =>
          obtain ⟨a, Bh, H', cls, d, rfl, fly, hok, ub, na, os, bare, w⟩ := hq
          have st := stood_ub t ub
          refine tk _ t1 (XE.of_call (E := fun cls d H' => W cls d σ H') I1 (fun cls d H' h => h) ?_)
          refine ⟨a, Bh, exT (TC X sl σd) H', cls, d, rfl, fly, hok_ex st hok, ub_ex t ub hok, ?_, os, bare, w st⟩
          unfold exT
          split
          · rfl
          · exact na
        | ok fl =>
          cases fl with
          | ret u =>
            obtain ⟨v, H', os, bare, un, hok, rv, q3⟩ := hq
            have st := stood_un t un
            exact I1.after ⟨v, exT (TC X sl σd) H', os, bare, un_ex t un hok, hok_ex st hok, rv, q3 st⟩
          | next => exact False.elim hq
          | brk => exact False.elim hq
          | cont => exact False.elim hq
    · exact False.elim q1
  · exact False.elim q1
end
end Ev
end

section
set_option maxHeartbeats 4000000
namespace Ev
open PySem PySem.Spec PyProof.Rows L2
open Classical
/-- a def of the head's facts, by its body -/
theorem FunD.g {P : Program} {w : World} {K : PySem.W.Frag} {mg : Str → Option Value} {base : Heap} {x qual : Str} {params : Arguments} {body : List Stmt} {scope : Scope} {dvs : List V} {kws : List (Str × V)} {f : Addr} {fd : FuncData} {N ps : List Str} {k nn : Nat} {own : Bool} {M : Sst}
    (F : FunD K x qual params body scope dvs kws f fd) (Sc : FnScope N ps scope) (hnn : N.length = nn)
    (hbody : ∀ (cdv : Value) (A : Around) (outer : List Env) (s : Shared) (H : Hp) (E : XK), Room k (A.deeper (envOfC qual scope s.heap.objs.size f cdv)) → Cn (cxOf (L2.CX P w) P w K mg base N qual scope f cdv A outer s H E) → Takes (cxOf (L2.CX P w) P w K mg base N qual scope f cdv A outer s H E) (WE E) →
      PassesOwn (model P w) (cxOf (L2.CX P w) P w K mg base N qual scope f cdv A outer s H E).A (cxOf (L2.CX P w) P w K mg base N qual scope f cdv A outer s H E).env (cxOf (L2.CX P w) P w K mg base N qual scope f cdv A outer s H E).xe →
      PSs (cxOf (L2.CX P w) P w K mg base N qual scope f cdv A outer s H E) body (xS (cxOf (L2.CX P w) P w K mg base N qual scope f cdv A outer s H E) (WE E) M)) :
    FnG P w K mg base (k + 1) f fd ps (runF own nn M) := by
  obtain ⟨oc, od, dV, kV, doc, pm, an, cdv, ct, osl, rfl, lk, hcd, _, _⟩ := F.ex
  exact fnG_of lk hcd Sc hnn fun A outer s H E => hbody cdv A outer s H E
/-- the store at the law's entry -/
def S0 : Store := ⟨[], [], [], some 0⟩
/-- the law's def: its body, in the frame that makes lambdas (c: its code object, t: that one's table) -/
structure LawB (P : Program) (w : World) (K : PySem.W.Frag) (mg : Str → Option Value) (base : Heap) (k : Nat) (fa : Addr) (N : List Str) (x : Str) (qual : Str) (params : Arguments) (body : List Stmt) (scope : Scope) (t : Addr) (M : Sst) : Prop where
  run : ∀ (cdv : Value) (A : Around) (outer : List Env) (s : Shared) (H : Hp) (E : XK), (∃ c, cdv = .ref c ∧ LamX.TabB base mg c t) → Room k (A.deeper (envOfC qual scope s.heap.objs.size fa cdv)) → Cn (cxOf (L2.CX P w) P w K mg base N qual scope fa cdv A outer s H E) → Takes (cxOf (L2.CX P w) P w K mg base N qual scope fa cdv A outer s H E) (WE E) →
      PassesOwn (model P w) (cxOf (L2.CX P w) P w K mg base N qual scope fa cdv A outer s H E).A (cxOf (L2.CX P w) P w K mg base N qual scope fa cdv A outer s H E).env (cxOf (L2.CX P w) P w K mg base N qual scope fa cdv A outer s H E).xe →
      PSs (cxOf (L2.CX P w) P w K mg base N qual scope fa cdv A outer s H E) body (xS (cxOf (L2.CX P w) P w K mg base N qual scope fa cdv A outer s H E) (WE E) M)
theorem codeHd_inj {h : Heap} {c P P' : Addr} (a : PySem.W.CodeHd h c P) (b : PySem.W.CodeHd h c P') : P = P' := by
  obtain ⟨o, vs, _, _, _, _, _, _, _, e1, _, e2, e3, _⟩ := a
  obtain ⟨o', vs', _, _, _, _, _, _, _, f1, _, f2, f3, _⟩ := b
  rw [e1] at f1; cases f1
  rw [e2] at f2; cases f2
  rw [e3] at f3; cases f3
  rfl
/-- the law's call, from a heap where the script and the table are known -/
theorem law_core {P : Program} {w : World} {K : PySem.W.Frag} {mg : Str → Option Value} {base : Heap} {k nn : Nat} {fa a c t : Addr} {fd : FuncData} {x : Str} {params : Arguments} {body : List Stmt} {scope : Scope} {N : List Str} {M : Sst} {s₁ : Shared} {H : Hp} {ns : List Int} {E : XK}
    (F : FunD K "law" "law" params body scope [] [] fa fd) (Sc : FnScope N [x] scope) (hnn : N.length = nn) (LB : LawB P w K mg base k fa N x "law" params body scope t M) (hcode : fd.code = .ref c) (TB : LamX.TabB base mg c t) (hr : Room (k + 1) callerA) (e0 : Env0 P w K mg base callerA [] s₁ H)
    (hb : BindsTo s₁ fd ⟨[.ref a], []⟩ [(x, .ref a)]) (ht : H t = some (.tbl #[])) (ha : (∃ o, H a = some (.frz o (.lst (ns.map V.int)))) ∨ LstK K a (ns.map V.int)) (hat : a ≠ t)
    (hM : ∃ S1, M (startD nn [.scr (ns.map D.int)]) S0 = .rt (.bl true) S1) :
    codeAny (model P w) callerA (.call (.ref fa) ⟨[.ref a], []⟩) (L2.CR (L2.CX P w) [] P w H s₁ (fun v _ => v = .bl true) E) s₁ := by
  obtain ⟨oc, od, dV, kV, doc, pm, an, cdv, ct, osl, rfl, lk, hcd, _, _⟩ := F.ex
  refine LamX.run_ofS (N := N) (ps := [x]) (us := [.ref a]) (vs := [.ref a]) lk hcd Sc hr e0 hb (.cons rfl .nil) rfl fun hr' => ?_
  have hcd2 : cdv = .ref c := hcode
  subst hcd2
  refine ⟨_, LB.run (.ref c) callerA [] s₁ H E ⟨c, rfl, TB⟩ hr' ⟨rfl, ?_, rfl⟩ (takes_of rfl rfl rfl rfl) (passes_of rfl), ?_⟩
  · have := hr'.un
    show (callerA.deeper _).units + 200 < cLine
    omega
  obtain ⟨S1, hS⟩ := hM
  generalize hX : cxOf (L2.CX P w) P w K mg base N "law" scope fa (Value.ref c) callerA [] s₁ H E = X
  have hcv : cvOf X = some ⟨X.N.map (fun x => if X.fn x = true then X.env.cells.lookup x else none), tabOf X, X.env.qual ++ "<lambda>"⟩ := by
    unfold cvOf
    rw [if_pos (by subst hX; rfl)]
  have htab : tabOf X = t := by
    have hex : ∃ P', ∃ c', X.env.code = .ref c' ∧ LamX.TabB X.base X.mg c' P' := by subst hX; exact ⟨t, c, rfl, TB⟩
    unfold tabOf
    rw [dif_pos hex]
    obtain ⟨c', e1, e2⟩ := Classical.choose_spec hex
    have e3 : c' = c := by
      have : X.env.code = .ref c := by subst hX; rfl
      rw [this] at e1; cases e1; rfl
    subst e3
    have e4 : X.base = base := by subst hX; rfl
    exact codeHd_inj e2.code (show PySem.W.CodeHd X.base c' t from by rw [e4]; exact TB.code)
  have hK : X.K = K := by subst hX; rfl
  have hmg : X.mg = mg := by subst hX; rfl
  have hN : X.N = N := by subst hX; rfl
  let ρ : Adr := ⟨[], [], ⟨X.N.map (fun y => (X.env.cells.lookup y).getD 0), some ⟨0, t, X.env.qual ++ "<lambda>"⟩, [(t, X.env.qual ++ "<lambda>")]⟩, []⟩
  have hasT : ∀ {b : Addr}, ρ.has b → b = t := fun {b} z => by
    rcases z with z | z | z | z
    · cases z
    · cases z
    · obtain ⟨q, z⟩ := z
      have z : (b, q) ∈ [(t, X.env.qual ++ "<lambda>")] := z
      simp at z
      exact z.1
    · cases z
  have intsR : ∀ (l : List Int), DRs K mg ρ H (l.map D.int) (l.map V.int) := fun l => by
    induction l with
    | nil => exact .nil
    | cons i r ih => exact .cons (.int i) ih
  have ds : DR K mg ρ H (.scr (ns.map D.int)) (.ref a) := by
    rcases ha with ⟨o, e⟩ | e
    · exact .scr e (fun z => hat (hasT z)) (intsR ns)
    · exact .scrK e (intsR ns)
  refine ⟨ρ, startD nn [.scr (ns.map D.int)], S0, ⟨?_, fun m v hm hv => ?_, fun i d h => ?_⟩, ?_, ?_⟩
  · unfold startD L2.start
    simp [hnn]
  · have hm : some (⟨0, t, X.env.qual ++ "<lambda>"⟩ : MK) = some m := hm
    cases hm
    rw [hcv] at hv
    cases hv
    refine ⟨htab, rfl, fun i c0 h => ?_⟩
    have h : (X.N.map (fun x => if X.fn x = true then X.env.cells.lookup x else none))[i]? = some (some c0) := h
    show (X.N.map (fun y => (X.env.cells.lookup y).getD 0))[0 + i]? = some c0
    rw [Nat.zero_add]
    rw [List.getElem?_map] at h ⊢
    cases e : X.N[i]? with
    | none => rw [e] at h; cases h
    | some y =>
      rw [e] at h
      have h : some (if X.fn y = true then X.env.cells.lookup y else none) = some (some c0) := h
      have h := Option.some.inj h
      split at h
      · show some ((X.env.cells.lookup y).getD 0) = some c0
        rw [h]; rfl
      · cases h
  · rw [hK, hmg]
    rw [← hnn] at h
    exact start_at (ρ := ρ) (H := H) (.cons ds .nil) i d h
  · rw [hK, hmg]
    refine ⟨List.nodup_nil, List.nodup_nil, (fun a z => nomatch z), rfl, rfl, (fun n c a z => by simp [S0] at z), (fun n c a z => by simp [S0] at z), (fun c z => by simp [S0] at z), fun p hp => ?_, fun p hp => ⟨(fun z => nomatch z), (fun z => nomatch z)⟩, (fun a z => nomatch z), rfl, fun m hm => ?_, fun n d z => by simp [S0] at z⟩
    · have hp : p ∈ [(t, X.env.qual ++ "<lambda>")] := hp
      simp at hp
      rw [hp]
      exact LamX.TabS.nil ht
    · have hm : some (⟨0, t, X.env.qual ++ "<lambda>"⟩ : MK) = some m := hm
      cases hm
      refine ⟨List.mem_singleton.mpr rfl, fun p hp _ => ?_⟩
      have hp : p ∈ [(t, X.env.qual ++ "<lambda>")] := hp
      simp at hp
      rw [hp]
  · rw [hS]
    intro ρ' H' v _ _ rv
    cases rv
    rfl
/-- what the head's facts give of the law -/
structure LawF (P : Program) (w : World) (K : PySem.W.Frag) (mg : Str → Option Value) (k nn : Nat) (fa : Addr) (N : List Str) (x : Str) (params : Arguments) (body : List Stmt) (scope : Scope) (M : Sst) (h : Heap) : Prop where
  fd : ∃ (fd : FuncData) (c t : Addr), FunD K "law" "law" params body scope [] [] fa fd ∧ fd.code = .ref c ∧ h.get? t = some { cls := .none, data := .fields #[] } ∧ K.lookup t = none ∧ PySem.W.CodeHd h c t ∧ (∀ (s : Shared) (u : Value), BindsTo s fd ⟨[u], []⟩ [(x, u)]) ∧
    ∀ base : Heap, K.In base → base.Ns mainGlobals mg → LawB P w K mg base k fa N x "law" params body scope t M
theorem law_end {P : Program} {w : World} {K : PySem.W.Frag} {mg mb : Str → Option Value} {k nn : Nat} {fa a : Addr} {x : Str} {params : Arguments} {body : List Stmt} {scope : Scope} {N : List Str} {M : Sst} {s₁ : Shared} {vs : List Value} {ns : List Int}
    (inK : K.In s₁.heap) (gNs : s₁.heap.Ns mainGlobals mg) (bNs : s₁.heap.Ns builtinsNs mb) (bBt : ∀ x : Str, x ≠ "__name__" → mb x = bootBuiltins x) (noL : s₁.heap.NoLimit) (noG : s₁.gens = #[])
    (bMod : ∃ (bm : Addr) (ob : Obj), mg "__builtins__" = some (.ref bm) ∧ bm ≠ builtinsNs ∧ s₁.heap.get? bm = some ob ∧ ob.cls = .type "module" ∧ ob.dict = some builtinsNs ∧ ob.data = .plain)
    (scr : s₁.heap.get? a = some { cls := .type "list", data := .seq vs.toArray }) (are : IntsAre vs ns) (few : ns.length ≤ sizeLine) (hr : Room (k + 1) callerA) (Sc : FnScope N [x] scope) (hnn : N.length = nn)
    (L : LawF P w K mg k nn fa N x params body scope M s₁.heap) (hM : ∃ S1, M (startD nn [.scr (ns.map D.int)]) S0 = .rt (.bl true) S1) :
    codeAny (model P w) callerA (.call (.ref fa) ⟨[.ref a], []⟩) (fun r t1 => r = .ok (.ret (.bool true)) ∧ OldK s₁.heap t1.heap ∧ t1.os = s₁.os ∧ AllBare t1.gens) s₁ := by
  obtain ⟨fd, c, t, F, hcode, tObj, tOut, tHd, hbind, LB⟩ := L.fd
  have rel := vals_ints are
  have sameLen := are.length
  have neAT : a ≠ t := fun z => by
    rw [z, tObj] at scr
    have y : Data.fields #[] = Data.seq vs.toArray _ := congrArg Obj.data (Option.some.inj scr)
    cases y
  -- G tracks the table, and the script where it is not the module's own
  have run : ∀ G : Hp, G t = some (.tbl #[]) → ((∃ o, G a = some (.frz o (.lst (ns.map V.int)))) ∨ LstK K a (ns.map V.int)) → HOk P w G s₁.heap → (∀ b, G b ≠ none → b = a ∨ b = t) → (G a ≠ none → K.lookup a = none) → (∀ b, b ≠ t → G b = none ∨ ∃ o xs, G b = some (.frz o (.lst xs))) →
      codeAny (model P w) callerA (.call (.ref fa) ⟨[.ref a], []⟩) (fun r t1 => r = .ok (.ret (.bool true)) ∧ OldK s₁.heap t1.heap ∧ t1.os = s₁.os ∧ AllBare t1.gens) s₁ := by
    intro G gT gA okG onlyG outG kindG
    have bare : ∀ {b : Addr} {o : Obj}, s₁.heap.get? b = some o → (∀ us n, o.data ≠ .seq us n) → o.data ≠ .fields #[] → G b = none := fun {b o} e n1 n2 => by
      cases q : G b with
      | none => rfl
      | some u =>
        exfalso
        rcases onlyG b (by rw [q]; exact fun z => nomatch z) with z | z
        · rw [z, scr] at e; cases e
          exact n1 _ _ rfl
        · rw [z, tObj] at e; cases e
          exact n2 rfl
    have seen : ∀ {b : Addr} {o : Obj}, s₁.heap.get? b = some o → G b = none → (hidT s₁.heap G).get? b = some o := fun e n => hidT_get e n
    have dict : ∀ {b : Addr} {m : Str → Option Value}, s₁.heap.Ns b m → (hidT s₁.heap G).Ns b m := fun {b m} ⟨o, es, ep, e, d, r⟩ => ⟨o, es, ep, seen e (bare e (fun us n z => by rw [d] at z; cases z) (fun z => by rw [d] at z; cases z)), d, r⟩
    have inB : K.In (hidT s₁.heap G) := fun b o e => seen (inK b o e) (by
      cases q : G b with
      | none => rfl
      | some u =>
        exfalso
        rcases onlyG b (by rw [q]; exact fun z => nomatch z) with z | z
        · rw [z] at q e
          rw [outG (by rw [q]; exact fun z => nomatch z)] at e; cases e
        · rw [z, tOut] at e; cases e)
    have modB : L2.Mod K mg (hidT s₁.heap G) := ⟨inB, dict gNs, ⟨mb, dict bNs, bBt⟩, let ⟨mc, h1, h2⟩ := noL; ⟨mc, dict h1, h2⟩⟩
    have TB : LamX.TabB (hidT s₁.heap G) mg c t := by
      refine ⟨?_, ?_, fun z => ?_⟩
      · obtain ⟨o, us, file, tf, flags, tg, inF, text, tt, e1, r1, r2, r3, r4, r5, r6, r7, r8, hne⟩ := tHd
        exact ⟨o, us, file, tf, flags, tg, inF, text, tt, seen e1 (bare e1 (fun us n z => by rw [r2] at z; cases z) (fun z => by rw [r2] at z; cases z; simp at r3)), r1, r2, r3, r4, r5, r6, r7, r8, hne⟩
      · obtain ⟨bm, ob, b1, b2, b3, b4, b5, b6⟩ := bMod
        refine ⟨bm, ob, b1, b2, fun q => ?_, fun q => ?_, seen b3 (bare b3 (fun us n z => by rw [b6] at z; cases z) (fun z => by rw [b6] at z; cases z)), b4, b5, b6⟩
        · obtain ⟨o, es, ep, e, hd, _⟩ := gNs
          rw [q, e] at b3; cases b3
          rw [hd] at b6; cases b6
        · rw [q, tObj] at b3; cases b3
          cases b6
      · obtain ⟨o, es, ep, e, hd, _⟩ := gNs
        rw [z, tObj] at e; cases e
        cases hd
    have env : Env0 P w K mg (hidT s₁.heap G) callerA [] s₁ G := ⟨rfl, modB, fun b o e => of_hidT e, Nat.le_of_eq (hidT_size _ _), trivial, fun b hb => absurd (show b ∈ ([] : List Addr) from hb) (by simp), okG, .of_eq noG⟩
    refine codeAny_mono (law_core (E := fun _ _ _ => False) F Sc hnn (LB _ inB (dict gNs)) hcode TB hr env (hbind s₁ (.ref a)) gT gA neAT hM) fun r t1 got => ?_
    cases r with
    | error e =>
      obtain ⟨_, _, _, _, _, _, _, _, _, _, _, _, z⟩ := got
      exact z.elim
    | ok fl =>
      cases fl with
      | next => exact False.elim got
      | brk => exact False.elim got
      | cont => exact False.elim got
      | ret u =>
        obtain ⟨v, G1, os, bares, un, ok1, rv, ev⟩ := got
        have ev : v = .bl true := ev
        subst ev
        obtain rfl : u = Value.bool true := rv
        have stay : ∀ b o, b ≠ t → s₁.heap.get? b = some o → t1.heap.get? b = some o := fun b o nb e => by
          rcases kindG b nb with z | ⟨ob, xs, z⟩
          · exact un.keep b o e z (by intro y; exact absurd (show b ∈ ([] : List Addr) from y) (by simp)) (by simp)
          · have g0 := (show ObjOk P w G s₁.heap b (.frz ob (.lst xs)) from okG b _ z).1
            have g1 := (show ObjOk P w G1 t1.heap b (.frz ob (.lst xs)) from ok1 b _ (un.frzs b ob _ z)).1
            rw [e] at g0; cases g0
            exact g1
        obtain ⟨more, z⟩ := un.tbls t #[] gT
        have tNow : t1.heap.get? t = some { cls := .none, data := .fields (#[] ++ more) } := ok1 t _ z
        refine ⟨rfl, ⟨fun b o e => ?_, fun b o e => ?_⟩, os, bares⟩
        · by_cases nb : b = t
          · rw [nb] at e ⊢
            rw [tObj] at e; cases e
            exact .inr (.inl ⟨(tHd.tab tObj).isCodeTable, rfl, #[], more, rfl, tNow⟩)
          · exact .inl (stay b o nb e)
        · by_cases nb : b = t
          · rw [nb]; exact ⟨_, tNow⟩
          · exact ⟨o, stay b o nb e⟩
  cases own : K.lookup a with
  | some o =>
    have e := inK a o own
    rw [scr] at e; cases e
    refine run (fun b => if b = t then some (.tbl #[]) else none) (if_pos rfl) (.inr ⟨_, vs.toArray, _, own, rfl, rfl, rfl, by rw [List.size_toArray, sameLen]; exact few, by simpa using rel⟩) (fun b u z => ?_) (fun b z => ?_) (fun z => absurd (show (if a = t then some (HO.tbl #[]) else none) = none from if_neg neAT) z) fun b nb => .inl (if_neg nb)
    · by_cases nb : b = t
      · have y := (if_pos nb).symm.trans z
        cases y
        rw [nb]; exact tObj
      · have y := (if_neg nb).symm.trans z
        cases y
    · by_cases nb : b = t
      · exact .inr nb
      · exact absurd (if_neg nb) z
  | none =>
    refine run (fun b => if b = t then some (.tbl #[]) else if b = a then some (.frz { cls := .type "list", data := .seq vs.toArray } (.lst (ns.map V.int))) else none) (if_pos rfl) (.inl ⟨{ cls := .type "list", data := .seq vs.toArray }, (if_neg neAT).trans (if_pos rfl)⟩) (fun b u z => ?_) (fun b z => ?_) (fun _ => own) fun b nb => ?_
    · by_cases nb : b = t
      · have y := (if_pos nb).symm.trans z
        cases y
        rw [nb]; exact tObj
      · have y1 := (if_neg nb).symm.trans z
        by_cases na : b = a
        · have y := (if_pos na).symm.trans y1
          cases y
          rw [na]
          exact ⟨scr, by rw [List.length_map]; exact few, vs, _, rel, scr⟩
        · have y := (if_neg na).symm.trans y1
          cases y
    · by_cases nb : b = t
      · exact .inr nb
      · by_cases na : b = a
        · exact .inl na
        · exact absurd ((if_neg nb).trans (if_neg na)) z
    · by_cases na : b = a
      · exact .inr ⟨_, _, (if_neg nb).trans (if_pos na)⟩
      · exact .inl ((if_neg nb).trans (if_neg na))
/-- a law row, from the head's facts -/
theorem walkEv {l : PySem.W.OpenLaw} {n k nn : Nat} {q : Program} {loose : List Str} {XP : (Str → Option Value) → Heap → Prop} {YP : World → Heap → Prop} {d : DefRec} {x : Str} {N : List Str} {params : Arguments} {body : List Stmt} {scope : Scope} {M : Sst}
    (hn : l.most = some n) (hn2 : n ≤ sizeLine) (hdf : d.params.defaults = []) (hr : Room (k + 1) callerA) (Sc : FnScope N [x] scope) (hnn : N.length = nn)
    (F : ∀ (w : World) (mg : Str → Option Value) (fa : Addr) (h : Heap), YP w h → h.Ns mainGlobals mg → mg d.name = some (.ref fa) → ∃ K : PySem.W.Frag, K.In h ∧ LawF l.prog w K mg k nn fa N x params body scope M h)
    (hM : ∀ ns : List Int, ns.length ≤ n → (∀ z ∈ ns, Builtin.Int.intBits z ≤ 1048576) → ∃ S1, M (startD nn [.scr (ns.map D.int)]) S0 = .rt (.bl true) S1) :
    PySem.W.WalkO q loose XP YP l.row.toRowW d [] (fun f vs => PySem.call f vs) := by
  refine Att.attach_callB hn hdf fun w s₀ s₁ mg mb fa o pm cd doc a vs ns G Y ho hd hcd hmg hobj hints hlen hbits hg => ?_
  obtain ⟨K, KX, L⟩ := F w mg fa _ Y G.T.g hmg
  exact law_end KX G.T.g G.T.b G.T.builtins G.T.nolimit hg G.T.bmain hobj hints (Nat.le_trans hlen hn2) hr Sc hnn L (hM ns hlen hbits)
end Ev
end

section
set_option maxHeartbeats 4000000
namespace Ev
open PySem PySem.Spec PyProof.Rows L2
open Classical
/-- a global def x with the parameters ps comes to F -/
def FunE (P : Program) (w : World) (K : PySem.W.Frag) (mg : Str → Option Value) (base : Heap) (k : Nat) (x : Str) (ps : List Str) (F : List D → Store → Res) : Prop := ∃ f fd, FnG P w K mg base k f fd ps F ∧ mg x = some (.ref f) ∧ PySem.W.keepIn K (.ref f) = true ∧ L2.Binds K fd ps []
theorem FunE.of {P : Program} {w : World} {K : PySem.W.Frag} {mg : Str → Option Value} {base : Heap} {x : Str} {params : Arguments} {body : List Stmt} {scope : Scope} {f : Addr} {N ps : List Str} {k nn : Nat} {own : Bool} {M : Sst}
    (F : ∃ fd, FunD K x x params body scope [] [] f fd) (gm : mg x = some (.ref f)) (Sc : FnScope N ps scope) (hnn : N.length = nn)
    (hbind : ∀ (kV doc pm : Value) (an : Option Addr) (cdv ct : Value) (us : List Value), us.length = ps.length → bindArgs (PySem.W.fnOf x x params body scope .none kV doc pm an cdv ct) ⟨us, []⟩ = pure (ps.zip us))
    (hbody : ∀ (cdv : Value) (A : Around) (outer : List Env) (s : Shared) (H : Hp) (E : XK), Room k (A.deeper (envOfC x scope s.heap.objs.size f cdv)) → Cn (cxOf (L2.CX P w) P w K mg base N x scope f cdv A outer s H E) → Takes (cxOf (L2.CX P w) P w K mg base N x scope f cdv A outer s H E) (WE E) →
      PassesOwn (model P w) (cxOf (L2.CX P w) P w K mg base N x scope f cdv A outer s H E).A (cxOf (L2.CX P w) P w K mg base N x scope f cdv A outer s H E).env (cxOf (L2.CX P w) P w K mg base N x scope f cdv A outer s H E).xe →
      PSs (cxOf (L2.CX P w) P w K mg base N x scope f cdv A outer s H E) body (xS (cxOf (L2.CX P w) P w K mg base N x scope f cdv A outer s H E) (WE E) M)) :
    FunE P w K mg base (k + 1) x ps (runF own nn M) := by
  obtain ⟨fd, F⟩ := F
  exact ⟨f, fd, FunD.g F Sc hnn hbody, gm, F.kp, F.bindsN hbind⟩
section
variable {X : Cx} {W : WX} {j k : Nat} {ps : List Str} {F : List D → Store → Res} {x : Str} {p pos : Pos} {e : Expr} {es : List Expr} {M : Sm}
theorem x_callE (G : FunE X.prog X.w X.K X.mg X.base k x ps F) (hr : Room j X.A) (hj : k ≤ j) (cn : Cn X) (tk : Takes X W) (ha : PA X (e :: es) (xA X W M)) (hg : Gl X x := by rfl) (hdb : (x == ("__debug__" : Str)) = false := by decide) (he : starEach (e :: es) X.env = (false, eval e X.env) :: starEach es X.env := by rfl) (hpl : (backTo pos (starEach es X.env)).any (·.1) = false := by rfl) :
    PE X (.Call (.Name x p) (e :: es) [] pos) (xE X W (evA M (callF ps.length [] F))) := by
  obtain ⟨f, fd, g, gm, kp, b⟩ := G
  exact x_call g (hr.mono hj) cn tk gm kp b ha hg hdb he hpl
theorem x_callE0 (G : FunE X.prog X.w X.K X.mg X.base k x ps F) (hr : Room j X.A) (hj : k ≤ j) (cn : Cn X) (tk : Takes X W) (hg : Gl X x := by rfl) (hdb : (x == ("__debug__" : Str)) = false := by decide) :
    PE X (.Call (.Name x p) [] [] pos) (xE X W (fun _ S => callF ps.length [] F [] S)) := by
  obtain ⟨f, fd, g, gm, kp, b⟩ := G
  exact x_call0 g (hr.mono hj) cn tk gm kp b hg hdb
theorem x_callEC {sl : List Nat} (G : FunE X.prog X.w X.K X.mg X.base k x ps F) (hr : Room j X.A) (hj : k ≤ j) (cn : Cn X) (tk : Takes X W) (hst : X.stack.length = X.outer.length + 1) (hsl : SlOk X sl) (ha : PA X (e :: es) (xA X W M)) (hg : Gl X x := by rfl) (hdb : (x == ("__debug__" : Str)) = false := by decide) (he : starEach (e :: es) X.env = (false, eval e X.env) :: starEach es X.env := by rfl) (hpl : (backTo pos (starEach es X.env)).any (·.1) = false := by rfl) :
    PE X (.Call (.Name x p) (e :: es) [] pos) (xE X W (fun σd S => (M σd S).bindA (callC sl ps.length F σd))) := by
  obtain ⟨f, fd, g, gm, kp, b⟩ := G
  exact x_callC g (hr.mono hj) cn tk gm kp b hst hsl ha hg hdb he hpl
/-- an exception class c with the fields fs -/
def ExE (P : Program) (w : World) (K : PySem.W.Frag) (mg : Str → Option Value) (base : Heap) (c : Str) (fs : List Str) : Prop := ∃ C fI fd, ExC P w K mg base c C fI fd fs
theorem s_raiseE {c : Str} {fs : List Str} {cpos : Pos} (F : ExE X.prog X.w X.K X.mg X.base c fs) (hfl : fs.length ≤ 900) (hr : Room j X.A) (hj : 2 ≤ j) (cn : Cn X) (tk : Takes X W) (ha : PA X (e :: es) (xA X W M)) (hg : Gl X c := by rfl)
    (hdb : (c == ("__debug__" : Str)) = false := by decide) (he : starEach (e :: es) X.env = (false, eval e X.env) :: starEach es X.env := by rfl) (hpl : (backTo cpos (starEach es X.env)).any (·.1) = false := by rfl) :
    PS X (.Raise (some (.Call (.Name c p) (e :: es) [] cpos)) none pos) (xS X W (sRaise c fs M)) := by
  obtain ⟨C, fI, fd, F⟩ := F
  exact s_raise F hfl (hr.mono hj) cn tk ha hg hdb he hpl
end
/-- an exception class, from the head's facts: C its object, fI its __init__ -/
theorem ExE.of {P : Program} {w : World} {K : PySem.W.Frag} {mg : Str → Option Value} {base : Heap} {c qI msg f0 : Str} {fs : List Str} {C fI : Addr} {params : Arguments} {body : List Stmt} {scope : Scope} (hc : OexC K C) (ini : PySem.W.findIn K (.ref C) "__init__" = some (some (.ref fI))) (tyI : PySem.W.typeIn K (.ref fI) = some (.type "function"))
    (F : ∃ fd, FunD K "__init__" qI params body scope [] [] fI fd) (Sc : FnScope ("self" :: f0 :: fs) ("self" :: f0 :: fs) scope) (hn : fs.length ≤ 800) (mgc : mg c = some (.ref C)) (nof : ∀ f ∈ f0 :: fs, PySem.W.findIn K (.ref C) f = some none)
    (hbind : ∀ (kV doc pm : Value) (an : Option Addr) (cdv ct : Value) (us : List Value), us.length = ("self" :: f0 :: fs : List Str).length → bindArgs (PySem.W.fnOf "__init__" qI params body scope .none kV doc pm an cdv ct) ⟨us, []⟩ = pure (("self" :: f0 :: fs : List Str).zip us))
    (hbody : ∀ (cdv : Value) (A : Around) (outer : List Env) (s : Shared) (H : Hp) (E : XK), PSs (cxOf (L2.CX P w) P w K mg base ("self" :: f0 :: fs) qI scope fI cdv A outer s H E) body (tInit K msg (f0 :: fs))) : ExE P w K mg base c (f0 :: fs) := by
  obtain ⟨fd, F⟩ := F
  refine ⟨C, fI, fd, hc, ini, tyI, ?_, F.bindsN hbind, mgc, nof⟩
  obtain ⟨oc, od, dV, kV, doc, pm, an, cdv, ct, osl, rfl, lk, hcd, _, _⟩ := F.ex
  exact init_fn lk hcd Sc rfl hn fun A outer s H E => hbody cdv A outer s H E
theorem Cn.tr {X : Cx} {pn : List (Addr × Obj)} {xe : Value → Shared → Prop} (c : Cn X) : Cn (X.tr pn xe) := ⟨c.calm, c.un, c.gd⟩
theorem Cn.blk {X : Cx} {s : Shared} {H : Hp} {scope : Scope} {cenv : Env} {fp : List Addr} (c : Cn X) : Cn (X.blk s H scope cenv fp) := ⟨c.calm, c.un, c.gd⟩
/-- an exception class that is caught, its fields read -/
def XfE (K : PySem.W.Frag) (mg : Str → Option Value) (c : Str) (C : Addr) (fs : List Str) : Prop := XfC K C ∧ (∀ f, f ∈ fs → PySem.W.findIn K (.ref C) f = some none) ∧ mg c = some (.ref C)
def lamB (sc scope : Scope) (caps : List Str) : Bool := (scope.names.all fun y => !decide (y.2 = .free) || (decide (y.1 ∈ caps) && (decide (sc.names.lookup y.1 = some .cell) || decide (sc.names.lookup y.1 = some .free)))) && caps.all fun x => decide ((x, NameKind.free) ∈ scope.names)
theorem x_lamB {X : Cx} {W : WX} {l : LamI} {slots : List Nat} {c P : Addr} {params : Arguments} {body : Expr} {scope : Scope} {pos : Pos} (TB : LamX.TabB X.base X.mg c P) (hcode : X.env.code = .ref c) (hst : X.stack.length = X.outer.length + 1)
    (hl : l.q = X.env.qual ++ "<lambda>" ∧ l.params = params ∧ l.body = body ∧ l.scope = scope) (hdef : defaultsOf params X.env = ([], [])) (hs : slots.length = l.caps.length)
    (hcap : slots.map (fun i => X.N[i]?) = l.caps.map some) (hfn : ∀ x, X.fn x = true) (hb : lamB X.env.scope scope l.caps = true) : PE X (.Lambda params body scope pos) (xE X W (evLam l slots)) := by
  unfold lamB at hb
  obtain ⟨h1, h2⟩ := Bool.and_eq_true_iff.mp hb
  refine x_lam TB hcode hst hl hdef hs (fun j x hj => ?_) (fun y hy e => ?_) fun x hx => of_decide_eq_true (List.all_eq_true.mp h2 x hx)
  · have h3 := congrArg (fun z => z[j]?) hcap
    have h3 : (slots.map (fun i => X.N[i]?))[j]? = (l.caps.map some)[j]? := h3
    rw [List.getElem?_map, List.getElem?_map, hj] at h3
    cases e : slots[j]? with
    | none => rw [e] at h3; cases h3
    | some i =>
      rw [e] at h3
      exact ⟨i, rfl, Option.some.inj h3, hfn x⟩
  · have h3 := List.all_eq_true.mp h1 y hy
    rw [decide_eq_true e, Bool.not_true, Bool.false_or] at h3
    obtain ⟨h4, h5⟩ := Bool.and_eq_true_iff.mp h3
    refine ⟨of_decide_eq_true h4, ?_⟩
    rcases Bool.or_eq_true_iff.mp h5 with z | z
    · exact .inl (of_decide_eq_true z)
    · exact .inr (of_decide_eq_true z)
abbrev LP : Type := Arguments × Expr × Scope
mutual
def lamsE : Nat → Expr → List LP
  | 0, _ => []
  | n + 1, e => match e with
    | .Lambda a b s _ => [(a, b, s)]
    | .Tuple es _ _ => lamsEs n es
    | .List es _ => lamsEs n es
    | .Call f es _ _ => lamsE n f ++ lamsEs n es
    | .BoolOp _ es _ => lamsEs n es
    | .UnaryOp _ e _ => lamsE n e
    | .Compare a _ es _ => lamsE n a ++ lamsEs n es
    | .IfExp a b c _ => lamsE n a ++ lamsE n b ++ lamsE n c
    | .Subscript a b _ => lamsE n a ++ lamsE n b
    | .Attribute a _ _ => lamsE n a
    | .BinOp a _ b _ => lamsE n a ++ lamsE n b
    | _ => []
def lamsEs : Nat → List Expr → List LP
  | 0, _ => []
  | _ + 1, [] => []
  | n + 1, e :: r => lamsE n e ++ lamsEs n r
end
mutual
def lamsS : Nat → Stmt → List LP
  | 0, _ => []
  | n + 1, s => match s with
    | .Expr e _ => lamsE n e
    | .Assign _ e _ => lamsE n e
    | .Return (some e) _ => lamsE n e
    | .If c a b _ => lamsE n c ++ lamsSs n a ++ lamsSs n b
    | .For _ i b _ _ => lamsE n i ++ lamsSs n b
    | .While c b _ _ => lamsE n c ++ lamsSs n b
    | _ => []
def lamsSs : Nat → List Stmt → List LP
  | 0, _ => []
  | _ + 1, [] => []
  | n + 1, s :: r => lamsS n s ++ lamsSs n r
end
def lamI (body : List Stmt) (q : Str) (j : Nat) (caps : List Str) : LamI :=
  let p := (lamsSs 400 body).getD j (⟨[], [], none, [], [], none, []⟩, .Constant .none 0 ⟨0, 0, 0, 0⟩, ⟨.function, [], false, false, []⟩)
  ⟨j, q, p.1, p.2.1, p.2.2, caps⟩
end Ev
end

section
set_option maxHeartbeats 4000000
namespace Ev
open PySem PySem.Spec PyProof.Rows L2
section
variable {X : Cx} {W : WX} {a b c : Expr} {A B C M : Sm} {pos : Pos} {e : Expr} {es : List Expr} {p : Pos}
/-- in, not in of data, a list or a tuple -/
def rInX (K : PySem.W.Frag) (neg : Bool) : R2 := fun x y H Q => ∃ d ds p xs, Dp K H x d ∧ y = .ref p ∧ (SqL K H p xs ∨ SqT K H p xs) ∧ DpAll K H xs ds ∧ SeqAt.shaped d = true ∧ SeqAt.shaped (.list ds) = true ∧ Q (.bl (if neg then !(ds.any fun z => PyData.eqv z d) else ds.any fun z => PyData.eqv z d)) H
theorem any_readOf {h : Heap} {its : List Value} {ds : List PyData} {as : List Addr} {d : PyData} (hc : PyData.canLayAll0 ds = true) (r : ReadsAll h its ds as) : its.toArray.any (fun u => PyData.eqv (SeqAt.readOf h u) d) = ds.any fun z => PyData.eqv z d := by
  have e := SeqAt.readsAll_map ds its as hc r
  rw [← e, List.any_map]
  simp [Function.comp_def]
theorem op_inX (hu : X.A.units + 65 < cLine) : OpR X (compareOp .In) (rInX X.K false) := by
  intro pins s σ H x y v u Q I rx ry h
  obtain ⟨d, ds, p, xs, hd, rfl, hq, ha, sd, se, q⟩ := h
  cases ry
  obtain ⟨bs, r1⟩ := Dp.reads I d x v hd rx
  have hxs : PyData.canLayAll0 ds = true := SeqAt.canLay_of_shaped se
  rcases hq with hq | hq
  · obtain ⟨its, r, pl, hz⟩ := I.list hq
    obtain ⟨as, h4⟩ := Dp.readsAll I ds _ its ha r
    refine SeqAt.in_listAt (fun u => PyData.eqv (SeqAt.readOf s.heap u) d) pl.isList (SeqAt.items_eqAt (vs := its.toArray) (show ReadsAll s.heap its.toArray.toList ds as from h4) r1 hxs (SeqAt.canLay_of_shaped sd) (room_in_shaped sd hu)) ⟨.bl _, H, I, rfl, ?_⟩
    rw [any_readOf hxs h4]
    exact q
  · obtain ⟨its, r, pl, hz⟩ := I.tuple hq
    obtain ⟨as, h4⟩ := Dp.readsAll I ds _ its ha r
    refine SeqAt.in_tupleAt (fun u => PyData.eqv (SeqAt.readOf s.heap u) d) pl (SeqAt.items_eqAt (vs := its.toArray) (show ReadsAll s.heap its.toArray.toList ds as from h4) r1 hxs (SeqAt.canLay_of_shaped sd) (room_in_shaped sd hu)) ⟨.bl _, H, I, rfl, ?_⟩
    rw [any_readOf hxs h4]
    exact q
theorem op_notInX (hu : X.A.units + 65 < cLine) : OpR X (compareOp .NotIn) (rInX X.K true) := by
  intro pins s σ H x y v u Q I rx ry h
  obtain ⟨d, ds, p, xs, hd, rfl, hq, ha, sd, se, q⟩ := h
  cases ry
  obtain ⟨bs, r1⟩ := Dp.reads I d x v hd rx
  have hxs : PyData.canLayAll0 ds = true := SeqAt.canLay_of_shaped se
  rcases hq with hq | hq
  · obtain ⟨its, r, pl, hz⟩ := I.list hq
    obtain ⟨as, h4⟩ := Dp.readsAll I ds _ its ha r
    refine SeqAt.notIn_listAt (fun u => PyData.eqv (SeqAt.readOf s.heap u) d) pl.isList (SeqAt.items_eqAt (vs := its.toArray) (show ReadsAll s.heap its.toArray.toList ds as from h4) r1 hxs (SeqAt.canLay_of_shaped sd) (room_in_shaped sd hu)) ⟨.bl _, H, I, rfl, ?_⟩
    rw [any_readOf hxs h4]
    exact q
  · obtain ⟨its, r, pl, hz⟩ := I.tuple hq
    obtain ⟨as, h4⟩ := Dp.readsAll I ds _ its ha r
    refine SeqAt.notIn_tupleAt (fun u => PyData.eqv (SeqAt.readOf s.heap u) d) pl (SeqAt.items_eqAt (vs := its.toArray) (show ReadsAll s.heap its.toArray.toList ds as from h4) r1 hxs (SeqAt.canLay_of_shaped sd) (room_in_shaped sd hu)) ⟨.bl _, H, I, rfl, ?_⟩
    rw [any_readOf hxs h4]
    exact q
/-- x in y: y a list or a tuple of data -/
def inD (x : D) (ys : List D) : Bool := (pys ys).any fun z => PyData.eqv z (py x)
def okIn (x : D) (ys : List D) : Bool := okEq x && (areData ys && SeqAt.shaped (.list (pys ys)))
def dIn (neg : Bool) : D → D → Store → Res := fun x y S => match seqOf y S with
  | some ys => if okIn (res S x) ys then .ok (.bl (if neg then !inD (res S x) ys else inD (res S x) ys)) S else .bad
  | none => .bad
theorem fit_in {neg : Bool} : Fit2 X W (rInX X.K neg) (dIn neg) := fun ρ H S σ d1 d2 v1 v2 Q s r1 r2 q => by
  unfold dIn at q
  split at q
  · rename_i ys hy
    split at q
    · rename_i hc
      obtain ⟨h1, h2⟩ := Bool.and_eq_true_iff.mp hc
      obtain ⟨h2, h3⟩ := Bool.and_eq_true_iff.mp h2
      obtain ⟨a1, a2⟩ := okEq_of h1
      obtain ⟨p, vs, e, hs, rs⟩ := seq_any s r2 hy
      exact ⟨_, _, p, vs, dp_res s r1 a1, e, hs, dps_of rs h2, a2, h3, by cases neg <;> exact q.here s (.bl _)⟩
    · exact False.elim q
  · exact False.elim q
theorem inMark (b : Expr) {op : CmpOp} (h : behindInMarks op b = false := by rfl) : behindInMarks op b = false := h
theorem x_in (cn : Cn X) (ha : PE X a (xE X W A)) (hb : PE X b (xE X W B)) (hm : behindInMarks .In b = false := by rfl) : PE X (.Compare a [.In] [b] pos) (xE X W (evB A B (dIn false))) := x_cmp (op_inX (by have := cn.un; omega)) fit_in ha hb hm
theorem x_notin (cn : Cn X) (ha : PE X a (xE X W A)) (hb : PE X b (xE X W B)) (hm : behindInMarks .NotIn b = false := by rfl) : PE X (.Compare a [.NotIn] [b] pos) (xE X W (evB A B (dIn true))) := x_cmp (op_notInX (by have := cn.un; omega)) fit_in ha hb hm
theorem t_in (cn : Cn X) (ha : PE X a (xE X W A)) (hb : PE X b (xE X W B)) (hm : behindInMarks .In b = false := by rfl) : PT X (.Compare a [.In] [b] pos) (xT X W (evB A B (dIn false))) := t_cmp (op_inX (by have := cn.un; omega)) fit_in ha hb hm
theorem t_notin (cn : Cn X) (ha : PE X a (xE X W A)) (hb : PE X b (xE X W B)) (hm : behindInMarks .NotIn b = false := by rfl) : PT X (.Compare a [.NotIn] [b] pos) (xT X W (evB A B (dIn true))) := t_cmp (op_notInX (by have := cn.un; omega)) fit_in ha hb hm
def cutD (xs : List D) (lo hi : Option Int) : List D := (xs.drop (HT.sIx xs.length 0 lo)).take (HT.sIx xs.length xs.length hi - HT.sIx xs.length 0 lo)
theorem DRs.cutV {K : PySem.W.Frag} {mg : Str → Option Value} {ρ : Adr} {H : Hp} {ds : List D} {vs : List V} {lo hi : Option Int} (r : DRs K mg ρ H ds vs) : DRs K mg ρ H (cutD ds lo hi) (L2.cutV vs lo hi) := by
  unfold cutD L2.cutV
  rw [r.length]
  exact (r.drop _).take _
theorem cutD_len {xs : List D} {lo hi : Option Int} : (cutD xs lo hi).length ≤ xs.length := by
  unfold cutD
  rw [List.length_take, List.length_drop]
  omega
/-- a part of a slice: left out, or an int -/
def partE (M : Option Sm) (σd : Env1) (S : Store) (k : Option Int → Store → Res) : Res := match M with
  | none => k none S
  | some M => (M σd S).bind fun d S1 => match d with
    | .int i => k (some i) S1
    | _ => .bad
def dSl (own : Bool) (x : D) (lo hi : Option Int) (S : Store) : Res := match x with
  | .tup xs => .ok (.tup (cutD xs lo hi)) S
  | x => (match lstX x S with
    | some xs => mkL own (cutD xs lo hi) S
    | none => .bad)
def evSl (own : Bool) (A : Sm) (lo hi : Option Sm) : Sm := fun σd S => (A σd S).bind fun x S1 => partE lo σd S1 fun l S2 => partE hi σd S2 fun u S3 => dSl own x l u S3
abbrev xO (X : Cx) (W : WX) (M : Option Sm) : TO := match M with
  | none => tNoPart
  | some M => tPart (xE X W M)
theorem o_no : PO X none (xO X W none) := po_none
theorem o_some (h : PE X e (xE X W M)) : PO X (some e) (xO X W (some M)) := po_some h
theorem whole_cut {xs : List D} {lo hi : Option Int} (h : HT.sIx xs.length 0 lo = 0 ∧ HT.sIx xs.length xs.length hi = xs.length) : cutD xs lo hi = xs := by
  unfold cutD
  rw [h.1, h.2]
  simp
theorem dSl_run {K : PySem.W.Frag} {mg : Str → Option Value} {ρ : Adr} {H : Hp} {S : Store} {σ : L2.St} {own : Bool} {d : D} {v : V} {lo hi : Option Int} {Q : VK} (s : SR K mg ρ H S) (r : DR K mg ρ H d v) (q : RQ K mg ρ H σ W (dSl own d lo hi S) Q) : rSlL K v lo hi H Q ∨ rSlA K v lo hi H Q := by
  unfold dSl at q
  split at q
  · rename_i xs
    obtain ⟨a, vs, rfl, hs, rs⟩ := seq_tup r
    refine .inr ⟨a, vs, rfl, hs, fun hw => ?_, fun hw p hp => ?_⟩
    · rw [← rs.length] at hw
      rw [whole_cut hw] at q
      exact q.here s r
    · exact q.new s hp fun ρ' H' e z n => .tup z n ((rs.cutV).mono e)
  · split at q
    · rename_i xs hx
      unfold lstX at hx
      split at hx
      · cases hx
      · rename_i ht
        obtain ⟨a, vs, rfl, hs, rs⟩ := seq_lst s r hx (by simpa using ht)
        exact .inl ⟨a, vs, rfl, hs, fun p hp => mkL_ok q s rs.cutV hp⟩
    · exact False.elim q
theorem x_slice {own : Bool} {lo hi : Option Expr} {L U : Option Sm} {p2 : Pos} (ha : PE X a (xE X W A)) (hl : PO X lo (xO X W L)) (hu : PO X hi (xO X W U)) : PE X (.Subscript a (.Slice lo hi none p2) pos) (xE X W (evSl own A L U)) :=
  peImp (pe_slice (SlR.or sl_list sl_tupA) ha hl hu) fun σ H Q ⟨ρ, σd, S, er, sr, q⟩ => ⟨ρ, σd, S, er, sr, (RQ.bind q).mono fun v1 H1 ⟨d1, S1, ρ1, _, x1, s1, r1, q1⟩ => by
    have er1 := er.mono x1
    have fin2 : ∀ (l : Option Int) (ρ2 : Adr) (H2 : Hp) (S2 : Store), Ext ρ1 H1 ρ2 H2 → SR X.K X.mg ρ2 H2 S2 → RQ X.K X.mg ρ2 H2 σ W (partE U σd S2 fun u S3 => dSl own d1 l u S3) Q → xO X W U σ H2 fun u H3 => rSlL X.K v1 l u H3 Q ∨ rSlA X.K v1 l u H3 Q := by
      intro l ρ2 H2 S2 x2 s2 q2
      cases U with
      | none => exact dSl_run s2 (r1.mono x2) q2
      | some U =>
        refine ⟨ρ2, σd, S2, er1.mono x2, s2, (RQ.bind q2).mono fun v3 H3 ⟨d3, S3, ρ3, _, x3, s3, r3, q3⟩ => ?_⟩
        dsimp only at q3
        split at q3
        · cases r3
          exact ⟨_, rfl, dSl_run s3 ((r1.mono x2).mono x3) q3⟩
        · exact False.elim q3
    cases L with
    | none => exact fin2 none ρ1 H1 S1 Ext.refl s1 q1
    | some L =>
      refine ⟨ρ1, σd, S1, er1, s1, (RQ.bind q1).mono fun v2 H2 ⟨d2, S2, ρ2, _, x2, s2, r2, q2⟩ => ?_⟩
      dsimp only at q2
      split at q2
      · cases r2
        exact ⟨_, rfl, fin2 _ ρ2 H2 S2 x2 s2 q2⟩
      · exact False.elim q2⟩
def dMax2 : D → D → Store → Res := fun x y S => match x, y with
  | .int i, .int j => .ok (.int (if j > i then j else i)) S
  | _, _ => .bad
def dMin2 : D → D → Store → Res := fun x y S => match x, y with
  | .int i, .int j => .ok (.int (if j < i then j else i)) S
  | _, _ => .bad
theorem x_max2 (cn : Cn X) (hm : X.mg "max" = none) (ha : PA X (e :: es) (xA X W M)) (hg : Gl X "max" := by rfl) (he : starEach (e :: es) X.env = (false, eval e X.env) :: starEach es X.env := by rfl) (hpl : (backTo pos (starEach es X.env)).any (·.1) = false := by rfl) :
    PE X (.Call (.Name "max" p) (e :: es) [] pos) (xE X W (evA M (twoL dMax2))) := x_blt (call_max2 cn.calm) (fitTwo fun ρ H S σ d d' v v' Q s r1 r2 q => by
      unfold dMax2 at q
      split at q
      · cases r1; cases r2; exact ⟨_, _, rfl, q.here s (.int _)⟩
      · exact False.elim q) hm ha hg (by decide +kernel) (by decide) (by decide) he hpl
theorem x_min2 (cn : Cn X) (hm : X.mg "min" = none) (ha : PA X (e :: es) (xA X W M)) (hg : Gl X "min" := by rfl) (he : starEach (e :: es) X.env = (false, eval e X.env) :: starEach es X.env := by rfl) (hpl : (backTo pos (starEach es X.env)).any (·.1) = false := by rfl) :
    PE X (.Call (.Name "min" p) (e :: es) [] pos) (xE X W (evA M (twoL dMin2))) := x_blt (call_min2 cn.calm) (fitTwo fun ρ H S σ d d' v v' Q s r1 r2 q => by
      unfold dMin2 at q
      split at q
      · cases r1; cases r2; exact ⟨_, _, rfl, q.here s (.int _)⟩
      · exact False.elim q) hm ha hg (by decide +kernel) (by decide) (by decide) he hpl
def dMaxL : D → Store → Res := fun d S => match (lstX d S).bind allInt with
  | some ns => (match ns.max? with
    | some m => .ok (.int m) S
    | none => .bad)
  | none => .bad
def dMinL : D → Store → Res := fun d S => match (lstX d S).bind allInt with
  | some ns => (match ns.min? with
    | some m => .ok (.int m) S
    | none => .bad)
  | none => .bad
def sortI (ns : List Int) : List Int := ns.mergeSort (fun a b => decide (a ≤ b))
theorem sortI_of {ns ns' : List Int} (h1 : ns'.Perm ns) (h2 : ns'.Pairwise (· ≤ ·)) : ns' = sortI ns := by
  refine List.Perm.eq_of_pairwise (le := (· ≤ ·)) (fun a b _ _ h h' => Int.le_antisymm h h') h2 ?_ (h1.trans (List.mergeSort_perm ns _).symm)
  have := List.pairwise_mergeSort (le := fun a b : Int => decide (a ≤ b)) (fun a b c h h' => by simp at *; omega) (fun a b => by simp; omega) ns
  exact this.imp fun h => by simpa using h
def dSortI (own : Bool) : D → Store → Res := fun d S => match (lstX d S).bind allInt with
  | some ns => mkL own ((sortI ns).map .int) S
  | none => .bad
theorem x_maxL (cn : Cn X) (hm : X.mg "max" = none) (ha : PA X (e :: es) (xA X W M)) (hg : Gl X "max" := by rfl) (he : starEach (e :: es) X.env = (false, eval e X.env) :: starEach es X.env := by rfl) (hpl : (backTo pos (starEach es X.env)).any (·.1) = false := by rfl) :
    PE X (.Call (.Name "max" p) (e :: es) [] pos) (xE X W (evA M (one dMaxL))) := x_blt (cr_max cn.calm) (fitOne fun ρ H S σ d v Q s r q => by
      unfold dMaxL at q
      split at q
      · rename_i ns e
        obtain ⟨xs, e1, e2⟩ := Option.bind_eq_some_iff.mp e
        obtain ⟨a, vs, rfl, h1, h2⟩ := lstX_v s r e1
        have := allInt_v h2 e2
        subst this
        split at q
        · rename_i m hm
          obtain ⟨m1, m2⟩ := List.max?_eq_some_iff.mp hm
          refine ⟨a, ns, rfl, h1, List.length_pos_of_mem m1, fun m' m1' m2' => ?_⟩
          have : m' = m := Int.le_antisymm (m2 m' m1') (m2' m m1)
          rw [this]
          exact q.here s (.int _)
        · exact False.elim q
      · exact False.elim q) hm ha hg (by decide +kernel) (by decide) (by decide) he hpl
theorem x_minL (cn : Cn X) (hm : X.mg "min" = none) (ha : PA X (e :: es) (xA X W M)) (hg : Gl X "min" := by rfl) (he : starEach (e :: es) X.env = (false, eval e X.env) :: starEach es X.env := by rfl) (hpl : (backTo pos (starEach es X.env)).any (·.1) = false := by rfl) :
    PE X (.Call (.Name "min" p) (e :: es) [] pos) (xE X W (evA M (one dMinL))) := x_blt (cr_min cn.calm) (fitOne fun ρ H S σ d v Q s r q => by
      unfold dMinL at q
      split at q
      · rename_i ns e
        obtain ⟨xs, e1, e2⟩ := Option.bind_eq_some_iff.mp e
        obtain ⟨a, vs, rfl, h1, h2⟩ := lstX_v s r e1
        have := allInt_v h2 e2
        subst this
        split at q
        · rename_i m hm
          obtain ⟨m1, m2⟩ := List.min?_eq_some_iff.mp hm
          refine ⟨a, ns, rfl, h1, List.length_pos_of_mem m1, fun m' m1' m2' => ?_⟩
          have : m' = m := Int.le_antisymm (m2' m m1) (m2 m' m1')
          rw [this]
          exact q.here s (.int _)
        · exact False.elim q
      · exact False.elim q) hm ha hg (by decide +kernel) (by decide) (by decide) he hpl
theorem intDRs {K : PySem.W.Frag} {mg : Str → Option Value} {ρ : Adr} {H : Hp} : ∀ ns : List Int, DRs K mg ρ H (ns.map D.int) (ns.map V.int)
  | [] => .nil
  | n :: ns => .cons (.int n) (intDRs ns)
theorem x_sortI {own : Bool} (hm : X.mg "sorted" = none) (ha : PA X (e :: es) (xA X W M)) (hg : Gl X "sorted" := by rfl) (he : starEach (e :: es) X.env = (false, eval e X.env) :: starEach es X.env := by rfl) (hpl : (backTo pos (starEach es X.env)).any (·.1) = false := by rfl) :
    PE X (.Call (.Name "sorted" p) (e :: es) [] pos) (xE X W (evA M (one (dSortI own)))) := x_blt cr_sortedI (fitOne fun ρ H S σ d v Q s r q => by
      unfold dSortI at q
      split at q
      · rename_i ns e
        obtain ⟨xs, e1, e2⟩ := Option.bind_eq_some_iff.mp e
        obtain ⟨a, vs, rfl, h1, h2⟩ := lstX_v s r e1
        have := allInt_v h2 e2
        subst this
        refine ⟨a, ns, rfl, h1, fun ns' p' hp hs hn => ?_⟩
        rw [sortI_of hp hs]
        exact mkL_ok q s (intDRs _) hn
      · exact False.elim q) hm ha hg (by decide +kernel) (by decide) (by decide) he hpl
def dShl : D → D → Store → Res := fun x y S => match x, y with
  | .int i, .int j => if 0 ≤ j ∧ j ≤ 1000000 ∧ i.natAbs < 18446744073709551616 then .ok (.int (i * 2 ^ j.toNat)) S else .bad
  | _, _ => .bad
theorem x_shl (ha : PE X a (xE X W A)) (hb : PE X b (xE X W B)) : PE X (.BinOp a .LShift b pos) (xE X W (evB A B dShl)) :=
  e2 (pe_op op_shlW ha hb) fun ρ H S σ d1 d2 v1 v2 Q s r1 r2 q => by
    unfold dShl at q
    split at q
    · rename_i i j
      cases r1; cases r2
      split at q
      · rename_i h
        have e : j = ((j.toNat : Nat) : Int) := by omega
        have c := shl_ok (i := i) (j := j.toNat) (n := 64) (by omega) (by omega)
        rw [← e] at c
        exact ⟨_, _, rfl, rfl, c, q.here s (.int _)⟩
      · exact False.elim q
    · exact False.elim q
def dPopAt : D → List D → Store → Res := fun x ys S => match x, ys with
  | .ref n, [.int i] => (match S.cs[n]? with
    | some (.lst xs) => if 0 ≤ i ∧ i < xs.length ∧ xs.length ≤ 16777216 then (match xs[i.toNat]? with
      | some y => .ok y { S with cs := S.cs.set n (.lst (xs.eraseIdx i.toNat)) }
      | none => .bad) else .bad
    | _ => .bad)
  | _, _ => .bad
theorem pures_erase {xs : List D} (k : Nat) (h : D.pures xs = true) : D.pures (xs.eraseIdx k) = true := pures_iff.mpr fun x hx => pures_iff.mp h x (List.mem_of_mem_eraseIdx hx)
theorem fit_popAt : FitM X W rPopAt dPopAt := fun ρ H S σ d ds v vs Q s r rs q => by
  unfold dPopAt at q
  split at q
  · split at q
    · split at q
      · split at q
        · rename_i n i _ xs hn hc _ y hy
          cases r with
          | ref hr =>
            cases rs with
            | cons r1 r2 =>
              cases r2; cases r1
              obtain ⟨us, h1, h2⟩ := s.cs _ _ _ hn hr
              obtain ⟨w, hw, rw'⟩ := h2.get hy
              have hl := h2.length
              have hp := s.pc _ (List.mem_of_getElem? hn)
              have hp' : D.pures xs = true := by simpa [Cell.pure] using hp
              obtain ⟨s3, e3⟩ := s.setCell (c := .lst (xs.eraseIdx i.toNat)) (o := .lst (us.eraseIdx i.toNat)) (by simpa [Cell.pure] using pures_erase _ hp') hr fun ρ' H' e q => ⟨_, q, (h2.mono e).eraseIdx _⟩
              exact ⟨_, us, i, i.toNat, w, rfl, rfl, h1, by omega, by omega, seqIndex_of hc.1 (by omega), hw, q.at2 e3 s3 (rw'.mono e3)⟩
        · exact False.elim q
      · exact False.elim q
    · exact False.elim q
  · exact False.elim q
theorem x_popAt {apos : Pos} (ha : PE X a (xE X W A)) (hM : PA X (e :: es) (xA X W M)) (hbase : attributeBase a "pop" X.env (eval a X.env) = eval a X.env := by rfl)
    (hfew : ((backTo pos (starEach (e :: es) X.env)).all (fun x => !x.1) && (backToKw pos (keywordEach [] X.env)).all (fun x => x.1.isSome)
      && decide ((e :: es).length + ([] : List Keyword).length + (if ([] : List Keyword).isEmpty then 0 else 1) < 30)) = true := by rfl)
    (hline : (apos.endLine == pos.line) = true := by rfl) (hs : starEach (e :: es) X.env = (false, eval e X.env) :: starEach es X.env := by rfl) (hpl : (backTo pos (starEach es X.env)).any (·.1) = false := by rfl) :
    PE X (.Call (.Attribute a "pop" apos) (e :: es) [] pos) (xE X W (evMth A M isLstD dPopAt)) :=
  eMth (pe_bm PySem.F.plainAttrs_list PySem.F.slot_list_pop PySem.F.type_list_pop mt_popAt ha hM hbase hfew hline hs hpl) fitT_list fit_popAt
end
end Ev
end

section
set_option maxHeartbeats 4000000
namespace Ev
open PySem PySem.Spec PyProof.Rows L2
section
variable {X : Cx} {W : WX} {A B M : Sm} {tg e e2 : Expr} {p pos : Pos}
/-- pairs -/
def zipD (xs ys : List D) : List D := List.zipWith (fun a b => D.tup [a, b]) xs ys
theorem zipD_get {xs ys : List D} {i : Nat} {d : D} (h : (zipD xs ys)[i]? = some d) : ∃ a b, xs[i]? = some a ∧ ys[i]? = some b ∧ d = .tup [a, b] := by
  unfold zipD at h
  rw [List.getElem?_zipWith] at h
  cases h1 : xs[i]? with
  | none => rw [h1] at h; simp at h
  | some a =>
    cases h2 : ys[i]? with
    | none => rw [h1, h2] at h; simp at h
    | some b => rw [h1, h2] at h; exact ⟨a, b, rfl, rfl, by simpa using h.symm⟩
theorem zipD_len {xs ys : List D} : (zipD xs ys).length = min xs.length ys.length := by simp [zipD]
def iZp : Itms := fun d S => match d with
  | .tup [x, y] => if isTupD x = isTupD y then (match seqOf x S, seqOf y S with
    | some xs, some ys => some (zipD xs ys)
    | _, _ => none) else none
  | _ => none
theorem pair_new {K : PySem.W.Frag} {mg : Str → Option Value} {ρ : Adr} {H : Hp} {S : Store} {a b : D} {x y : V} {T : Addr} (s : SR K mg ρ H S) (ha : DR K mg ρ H a x) (hb : DR K mg ρ H b y) (hT : H T = none) :
    Ext ρ H ρ (upd H T (.tup [x, y])) ∧ SR K mg ρ (upd H T (.tup [x, y])) S ∧ DR K mg ρ (upd H T (.tup [x, y])) (.tup [a, b]) (.ref T) := by
  have e : Ext ρ H ρ (upd H T (.tup [x, y])) := Ext.new s hT
  exact ⟨e, s.upd_new hT, .tup upd_same (s.new hT) (.cons (ha.mono e) (.cons (hb.mono e) .nil))⟩
theorem jok_zipL {K : PySem.W.Frag} {mg : Str → Option Value} {ρ0 : Adr} {H0 : Hp} {x y : D} {a b : Addr} (rx : DR K mg ρ0 H0 x (.ref a)) (ry : DR K mg ρ0 H0 y (.ref b)) (tx : isTupD x = false) (ty : isTupD y = false) : JOk K mg (Itz K a b) ρ0 H0 (iZp (.tup [x, y])) where
  go := fun ρ H S zs i d e s h hx => by
    simp only [iZp, tx, ty, if_true] at h
    split at h
    · rename_i xs ys e1 e2
      cases h
      obtain ⟨a', vs, ea, h1, h2⟩ := seq_lst s (rx.mono0 e) e1 tx
      obtain ⟨b', us, eb, h3, h4⟩ := seq_lst s (ry.mono0 e) e2 ty
      cases ea; cases eb
      obtain ⟨p, q, g1, g2, rfl⟩ := zipD_get hx
      obtain ⟨v, hv, rv⟩ := h2.get g1
      obtain ⟨u, hu, ru⟩ := h4.get g2
      refine ⟨⟨vs, us, v, u, h1, h3, hv, hu⟩, fun x' H' ⟨T, v', u', e3, e4, e5, e6, e7⟩ => ?_⟩
      have k1 := e6 vs h1
      have k2 := e7 us h3
      rw [hv] at k1; rw [hu] at k2
      cases k1; cases k2
      subst e3 e5
      exact pair_new s rv ru e4
    · cases h
  stop := fun ρ H S zs i e s h hx => by
    simp only [iZp, tx, ty, if_true] at h
    split at h
    · rename_i xs ys e1 e2
      cases h
      obtain ⟨a', vs, ea, h1, h2⟩ := seq_lst s (rx.mono0 e) e1 tx
      obtain ⟨b', us, eb, h3, h4⟩ := seq_lst s (ry.mono0 e) e2 ty
      cases ea; cases eb
      rw [zipD_len] at hx
      exact ⟨vs, us, h1, h3, by have := h2.length; have := h4.length; omega⟩
    · cases h
theorem jok_zipT {K : PySem.W.Frag} {mg : Str → Option Value} {ρ0 : Adr} {H0 : Hp} {xs ys : List D} {a b : Addr} (rx : DR K mg ρ0 H0 (.tup xs) (.ref a)) (ry : DR K mg ρ0 H0 (.tup ys) (.ref b)) : JOk K mg (RZ.ItzT K a b) ρ0 H0 (iZp (.tup [.tup xs, .tup ys])) where
  go := fun ρ H S zs i d e s h hx => by
    have h' : some (zipD xs ys) = some zs := h
    cases h'
    obtain ⟨a', vs, ea, h1, h2⟩ := seq_tup (rx.mono0 e)
    obtain ⟨b', us, eb, h3, h4⟩ := seq_tup (ry.mono0 e)
    cases ea; cases eb
    obtain ⟨p, q, g1, g2, rfl⟩ := zipD_get hx
    obtain ⟨v, hv, rv⟩ := h2.get g1
    obtain ⟨u, hu, ru⟩ := h4.get g2
    refine ⟨⟨vs, us, v, u, h1, h3, hv, hu⟩, fun x' H' ⟨T, v', u', e3, e4, e5, e6, e7⟩ => ?_⟩
    have k1 := e6 vs h1
    have k2 := e7 us h3
    rw [hv] at k1; rw [hu] at k2
    cases k1; cases k2
    subst e3 e5
    exact pair_new s rv ru e4
  stop := fun ρ H S zs i e s h hx => by
    have h' : some (zipD xs ys) = some zs := h
    cases h'
    obtain ⟨a', vs, ea, h1, h2⟩ := seq_tup (rx.mono0 e)
    obtain ⟨b', us, eb, h3, h4⟩ := seq_tup (ry.mono0 e)
    cases ea; cases eb
    rw [zipD_len] at hx
    exact ⟨vs, us, h1, h3, by have := h2.length; have := h4.length; omega⟩
theorem isTup_of {d : D} (h : isTupD d = true) : ∃ xs, d = .tup xs := by cases d <;> first | exact ⟨_, rfl⟩ | cases h
/-- for a, b in zip(xs, ys): two lists or two tuples -/
theorem it_zip {tpos : Pos} {elts : List Expr} {kk : Nat} (ha : PA X [e, e2] (xA X W M)) (hm : X.mg "zip" = none) (hg : Gl X "zip" := by rfl)
    (hs : starEach [e, e2] X.env = (false, eval e X.env) :: starEach [e2] X.env := by rfl) (hpl : (backTo pos (starEach [e2] X.env)).any (·.1) = false := by rfl) :
    PI X (.Tuple elts kk tpos) (.Call (.Name "zip" p) [e, e2] [] pos) (xI X W M iZp) :=
  piImp (RZ.pi_zipA hg hm ha hs hpl) fun σ H R ⟨ρ, σd, S, er, sr, q⟩ => ⟨ρ, σd, S, er, sr, (q.runA (fun d S h => by
    unfold iZp at h
    split at h
    · exact ⟨_, rfl⟩
    · cases h)).mono fun vs H1 ⟨ds, S1, ρ1, x1, s1, r1, hi, q1⟩ => by
    obtain ⟨zs, hz⟩ := Option.isSome_iff_exists.mp hi
    unfold iZp at hz
    split at hz
    · rename_i x y e
      cases e
      split at hz
      · rename_i ht
        split at hz
        · rename_i xs ys g1 g2
          cases r1 with
          | cons r2 r3 =>
            cases r3 with
            | cons r3 r4 =>
              cases r4
              cases hx : isTupD x with
              | false =>
                have hy : isTupD y = false := by rw [← ht]; exact hx
                obtain ⟨a, vs, rfl, h1, h2⟩ := seq_lst s1 r2 g1 hx
                obtain ⟨b, us, rfl, h3, h4⟩ := seq_lst s1 r3 g2 hy
                exact ⟨a, b, vs, us, rfl, .inl ⟨h1, h3, q1 _ (jok_zipL r2 r3 hx hy)⟩⟩
              | true =>
                have hy : isTupD y = true := by rw [← ht]; exact hx
                obtain ⟨xs', rfl⟩ := isTup_of hx
                obtain ⟨ys', rfl⟩ := isTup_of hy
                obtain ⟨a, vs, rfl, h1, h2⟩ := seq_tup r2
                obtain ⟨b, us, rfl, h3, h4⟩ := seq_tup r3
                exact ⟨a, b, vs, us, rfl, .inr ⟨h1, h3, q1 _ (jok_zipT r2 r3)⟩⟩
        · cases hz
      · cases hz
    · cases hz⟩
def enumD (xs : List D) : List D := (List.range xs.length).zipWith (fun (k : Nat) x => D.tup [.int (k : Int), x]) xs
theorem enumD_get {xs : List D} {i : Nat} {d : D} (h : (enumD xs)[i]? = some d) : ∃ a, xs[i]? = some a ∧ d = .tup [.int (i : Nat), a] := by
  unfold enumD at h
  rw [List.getElem?_zipWith] at h
  cases h2 : xs[i]? with
  | none => rw [h2] at h; cases h1 : (List.range xs.length)[i]? <;> rw [h1] at h <;> simp at h
  | some a =>
    have hi := (List.getElem?_eq_some_iff.mp h2).1
    rw [h2, List.getElem?_range hi] at h
    exact ⟨a, rfl, by simpa using h.symm⟩
theorem enumD_len {xs : List D} : (enumD xs).length = xs.length := by simp [enumD]
def iEn : Itms := fun d S => match d with
  | .tup [x] => if isTupD x = true then none else (match seqOf x S with
    | some xs => some (enumD xs)
    | none => none)
  | _ => none
theorem jok_enum {K : PySem.W.Frag} {mg : Str → Option Value} {ρ0 : Adr} {H0 : Hp} {x : D} {a : Addr} (rx : DR K mg ρ0 H0 x (.ref a)) (tx : isTupD x = false) : JOk K mg (Ite K a) ρ0 H0 (iEn (.tup [x])) where
  go := fun ρ H S zs i d e s h hx => by
    simp only [iEn, tx, Bool.false_eq_true, if_false] at h
    split at h
    · rename_i xs e1
      cases h
      obtain ⟨a', vs, ea, h1, h2⟩ := seq_lst s (rx.mono0 e) e1 tx
      cases ea
      obtain ⟨p, g1, rfl⟩ := enumD_get hx
      obtain ⟨v, hv, rv⟩ := h2.get g1
      refine ⟨⟨vs, v, h1, hv⟩, fun x' H' ⟨T, v', e3, e4, e5, e6⟩ => ?_⟩
      have k1 := e6 vs h1
      rw [hv] at k1
      cases k1
      subst e3 e5
      exact pair_new s (.int _) rv e4
    · cases h
  stop := fun ρ H S zs i e s h hx => by
    simp only [iEn, tx, Bool.false_eq_true, if_false] at h
    split at h
    · rename_i xs e1
      cases h
      obtain ⟨a', vs, ea, h1, h2⟩ := seq_lst s (rx.mono0 e) e1 tx
      cases ea
      rw [enumD_len] at hx
      exact ⟨vs, h1, by rw [← h2.length]; exact hx⟩
    · cases h
theorem it_enum {tpos : Pos} {elts : List Expr} {kk : Nat} (ha : PA X [e] (xA X W M)) (hm : X.mg "enumerate" = none) (hg : Gl X "enumerate" := by rfl)
    (hs : starEach [e] X.env = [(false, eval e X.env)] := by rfl) : PI X (.Tuple elts kk tpos) (.Call (.Name "enumerate" p) [e] [] pos) (xI X W M iEn) :=
  piImp (pi_enum hg hm ha hs) fun σ H R ⟨ρ, σd, S, er, sr, q⟩ => ⟨ρ, σd, S, er, sr, (q.runA (fun d S h => by
    unfold iEn at h
    split at h
    · exact ⟨_, rfl⟩
    · cases h)).mono fun vs H1 ⟨ds, S1, ρ1, x1, s1, r1, hi, q1⟩ => by
    obtain ⟨zs, hz⟩ := Option.isSome_iff_exists.mp hi
    unfold iEn at hz
    split at hz
    · rename_i x e
      cases e
      split at hz
      · cases hz
      · rename_i ht
        have hx : isTupD x = false := by simpa using ht
        split at hz
        · rename_i xs g1
          cases r1 with
          | cons r2 r3 =>
            cases r3
            obtain ⟨a, vs, rfl, h1, h2⟩ := seq_lst s1 r2 g1 hx
            exact ⟨a, vs, rfl, h1, q1 _ (jok_enum r2 hx)⟩
        · cases hz
    · cases hz⟩
end
end Ev
end

section
set_option maxHeartbeats 4000000
namespace Ev
open PySem PySem.Spec PyProof.Rows L2
/-- an iterator over a tuple (b), over a list -/
def ItK (b : Bool) (h : Heap) (j l : Addr) (k : Nat) : Prop := if b then h.IsTupleIter j l k else h.IsListIter j l k
def SqK (b : Bool) (h : Heap) (l : Addr) (us : Array Value) : Prop := if b then h.IsTuple l us else h.IsList l us
theorem ItK.stay {b : Bool} {h h' : Heap} {j l c : Addr} {k : Nat} (a : ItK b h j l k) (e : Heap.ExtBut c h h') (n : j ≠ c) : ItK b h' j l k := by
  cases b with
  | false => exact Heap.IsListIter.extBut (show h.IsListIter j l k from a) e n
  | true => exact Heap.IsTupleIter.extBut (show h.IsTupleIter j l k from a) e n
theorem ItK.same {b : Bool} {h h' : Heap} {j l : Addr} {k : Nat} (a : ItK b h j l k) (e : ∀ o, h.get? j = some o → h'.get? j = some o) : ItK b h' j l k := by
  cases b with
  | false => exact Heap.IsListIter.at (show h.IsListIter j l k from a) e
  | true => exact Heap.IsTupleIter.at (show h.IsTupleIter j l k from a) e
theorem ItK.there {b : Bool} {h : Heap} {j l : Addr} {k : Nat} (a : ItK b h j l k) : ∃ o, h.get? j = some o ∧ ∀ v, o.data ≠ .cell v := by
  cases b with
  | false => obtain ⟨o, e, _, d⟩ := (show h.IsListIter j l k from a); exact ⟨o, e, fun v z => by rw [d] at z; cases z⟩
  | true => obtain ⟨o, e, _, d⟩ := (show h.IsTupleIter j l k from a); exact ⟨o, e, fun v z => by rw [d] at z; cases z⟩
theorem SqK.stay {b : Bool} {h h' : Heap} {l c : Addr} {us : Array Value} (a : SqK b h l us) (e : Heap.ExtBut c h h') (n : l ≠ c) : SqK b h' l us := by
  cases b with
  | false => exact Heap.IsList.extBut (show h.IsList l us from a) e n
  | true => exact Heap.IsTuple.extBut (show h.IsTuple l us from a) e n
section
variable {prog : Program} {w : World} {A : Around} {E : Value → Shared → Prop} {s : Shared}
theorem nx_item {b : Bool} {j l : Addr} {k : Nat} {us : Array Value} {u : Value} {Q : Value → Shared → Prop} (a : ItK b s.heap j l k) (q : SqK b s.heap l us) (hu : us[k]? = some u) (go : ∀ g, ItK b g j l (k + 1) → Heap.SameBut j s.heap g → Q u { s with heap := g }) : wpAny (model prog w) A (Builtin.SmallTypes.nextOf (.ref j)) Q E s := by
  cases b with
  | false => exact wpAny_nextOf_list_item a q hu go
  | true => exact RZ.nextOf_tuple_item a q hu go
theorem nx_end {b : Bool} {j l : Addr} {k : Nat} {us : Array Value} {Q : Value → Shared → Prop} (hd : A.handled = none) (a : ItK b s.heap j l k) (q : SqK b s.heap l us) (hu : us[k]? = none)
    (go : ∀ g e, Heap.ExtBut j s.heap g → (∃ o, g.get? e = some o ∧ o.cls = .type "StopIteration") → E (.ref e) { s with heap := g }) : wpAny (model prog w) A (Builtin.SmallTypes.nextOf (.ref j)) Q E s := by
  cases b with
  | false => exact wpAny_nextOf_list_end hd a q hu go
  | true => exact RZ.nextOf_tuple_end hd a q hu go
/-- what one turn leaves alone -/
def But4 (zz TO j1 j2 : Addr) (h h' : Heap) : Prop := ∀ c o, c ≠ zz → c ≠ TO → c ≠ j1 → c ≠ j2 → h.get? c = some o → h'.get? c = some o
section
variable {b1 b2 : Bool} {zz TI TO j1 j2 l1 l2 : Addr} {k1 k2 : Nat} {us vs : Array Value} {u v p1 p2 : Value}
theorem zipM_item {Q : Value → Shared → Prop} (D : ZipApart zz TI TO j1 j2 l1 l2) (hZ : IsZip s.heap zz TI TO .none) (hI : IsPair s.heap TI (.ref j1) (.ref j2)) (hO : IsPair s.heap TO p1 p2)
    (a1 : ItK b1 s.heap j1 l1 k1) (a2 : ItK b2 s.heap j2 l2 k2) (q1 : SqK b1 s.heap l1 us) (q2 : SqK b2 s.heap l2 vs) (hu : us[k1]? = some u) (hv : vs[k2]? = some v)
    (go : ∀ g, IsZip g zz TI TO (rawInt s.heap.objs.size) → IsPair g TO u v → ItK b1 g j1 l1 (k1 + 1) → ItK b2 g j2 l2 (k2 + 1) → IsPair g s.heap.objs.size u v → g.objs.size = s.heap.objs.size + 1 → But4 zz TO j1 j2 s.heap g → Q (.ref s.heap.objs.size) { s with heap := g }) :
    wpAny (model prog w) A (Builtin.«zip.__next__» ⟨[.ref zz], []⟩) (fun fin s' => ∃ v, fin = .done (.ret v) ∧ Q v s') E s := by
  show wpAny _ _ (field (.ref zz) 2 >>= _) _ _ _
  refine wpAny_bind (wpAny_field hZ rfl (x := .bool false) rfl ?_)
  show wpAny _ _ (field (.ref zz) 3 >>= _) _ _ _
  refine wpAny_bind (wpAny_field hZ rfl (x := .ref TI) rfl ?_)
  refine wpAny_bind (wpAny_seqItems hI rfl ?_)
  show wpAny _ _ (Builtin.SmallTypes.ownedTupleIsFree (.ref zz) >>= _) _ _ _
  refine wpAny_bind ?_
  delta Builtin.SmallTypes.ownedTupleIsFree
  refine wpAny_bind (wpAny_field hZ rfl (x := .none) rfl (wpAny_pure ?_))
  simp only [if_true]
  refine wpAny_bind (wpAny_rule ?_)
  refine wpAny_bind (wpAny_field hZ rfl (x := .ref TO) rfl ?_)
  refine wpAny_bind (wpAny_setField_rec hZ (by simp) fun g1 z1 e1 => ?_)
  have z1 : IsZip g1 zz TI TO .ellipsis := z1
  refine wpAny_bind ?_
  simp only [List.forIn_cons, List.forIn_nil, List.zipIdx_cons, List.zipIdx_nil]
  -- the first
  refine wpAny_bind (wpAny_bind (wpAny_onRaise ?_))
  show wpAny _ _ (Builtin.SmallTypes.nextOf (.ref j1) >>= _) _ _ _
  refine wpAny_bind (nx_item (a1.stay e1.extBut D.i1z) (q1.stay e1.extBut D.l1z) hu fun g2 y1 e2 => wpAny_pure ?_)
  have o2 : IsPair g2 TO p1 p2 := e2.extBut _ _ D.TOi1 (e1.extBut _ _ D.TOz hO)
  refine wpAny_bind (wpAny_seqItems o2 rfl ?_)
  refine wpAny_bind (wpAny_updateSeq_pair o2 fun g3 o3 e3 => ?_)
  have o3 : IsPair g3 TO u p2 := o3
  refine wpAny_bind (wpAny_letGo (wpAny_pure ?_))
  -- the second
  refine wpAny_bind (wpAny_bind (wpAny_onRaise ?_))
  show wpAny _ _ (Builtin.SmallTypes.nextOf (.ref j2) >>= _) _ _ _
  refine wpAny_bind (nx_item (((a2.stay e1.extBut D.i2z).stay e2.extBut D.i12.symm).stay e3.extBut D.TOi2.symm) (((q2.stay e1.extBut D.l2z).stay e2.extBut D.l2i1).stay e3.extBut D.l2TO) hv fun g4 y2 e4 => wpAny_pure ?_)
  have o4 : IsPair g4 TO u p2 := e4.extBut _ _ D.TOi2 o3
  refine wpAny_bind (wpAny_seqItems o4 rfl ?_)
  refine wpAny_bind (wpAny_updateSeq_pair o4 fun g5 o5 e5 => ?_)
  have o5 : IsPair g5 TO u v := o5
  refine wpAny_bind (wpAny_letGo (wpAny_pure (wpAny_pure ?_)))
  -- the pair
  refine wpAny_bind (wpAny_seqItems o5 rfl ?_)
  refine wpAny_bind (wpAny_newTuple ?_)
  have hn : g5.objs.size = s.heap.objs.size := by rw [e5.1, e4.1, e3.1, e2.1, e1.1]
  have z5 : IsZip g5 zz TI TO .ellipsis := e5.extBut _ _ D.TOz.symm (e4.extBut _ _ D.i2z.symm (e3.extBut _ _ D.TOz.symm (e2.extBut _ _ D.i1z.symm z1)))
  have k5 : But4 zz TO j1 j2 s.heap g5 := fun c o n1 n2 n3 n4 e => e5.extBut _ _ n2 (e4.extBut _ _ n4 (e3.extBut _ _ n2 (e2.extBut _ _ n3 (e1.extBut _ _ n1 e))))
  have y1' : ItK b1 g5 j1 l1 (k1 + 1) := ((y1.stay e3.extBut D.TOi1.symm).stay e4.extBut D.i12).stay e5.extBut D.TOi1.symm
  have y2' : ItK b2 g5 j2 l2 (k2 + 1) := y2.stay e5.extBut D.TOi2.symm
  have ltz : zz < g5.objs.size := Heap.lt_size z5
  show wpAny _ _ (Builtin.SmallTypes.ownedTupleHandOut (.ref zz) (.ref g5.objs.size) >>= _) _ _ _
  refine wpAny_bind ?_
  delta Builtin.SmallTypes.ownedTupleHandOut
  have z6 : IsZip (g5.push { cls := .type "tuple", data := .seq #[u, v] }) zz TI TO .ellipsis := Heap.get?_push_of_some _ z5
  refine wpAny_bind (wpAny_setField_rec z6 (by simp) fun g7 z7 e7 => ?_)
  have z7 : IsZip g7 zz TI TO (rawInt g5.objs.size) := z7
  refine wpAny_setField_rec z7 (by simp) fun g8 z8 e8 => ?_
  have z8 : IsZip g8 zz TI TO (rawInt g5.objs.size) := z8
  have up : ∀ c o, c ≠ zz → g5.get? c = some o → g8.get? c = some o := fun c o n e => e8.extBut _ _ n (e7.extBut _ _ n (Heap.get?_push_of_some _ e))
  have t8 : IsPair g8 g5.objs.size u v := e8.extBut _ _ (Nat.ne_of_gt ltz) (e7.extBut _ _ (Nat.ne_of_gt ltz) (Heap.get?_push_size _ rfl))
  have n8 : g8.objs.size = g5.objs.size + 1 := by rw [e8.1, e7.1, Heap.size_push]
  rw [hn] at z8 t8 n8
  refine wpAny_pure ⟨_, rfl, ?_⟩
  show Q (.ref g5.objs.size) _
  rw [hn]
  exact go g8 z8 (up _ _ D.TOz o5) (y1'.same fun o e => up _ o D.i1z e) (y2'.same fun o e => up _ o D.i2z e) t8 n8 fun c o n1 n2 n3 n4 e => up c o n1 (k5 c o n1 n2 n3 n4 e)
theorem zipM_end {Q : Fin → Shared → Prop} (hd : A.handled = none) (D : ZipApart zz TI TO j1 j2 l1 l2) (hZ : IsZip s.heap zz TI TO .none) (hI : IsPair s.heap TI (.ref j1) (.ref j2)) (hO : IsPair s.heap TO p1 p2)
    (a1 : ItK b1 s.heap j1 l1 k1) (a2 : ItK b2 s.heap j2 l2 k2) (q1 : SqK b1 s.heap l1 us) (q2 : SqK b2 s.heap l2 vs) (he : us[k1]? = none ∨ vs[k2]? = none)
    (go : ∀ g e, But4 zz TO j1 j2 s.heap g → (∃ o, g.get? e = some o ∧ o.cls = .type "StopIteration") → E (.ref e) { s with heap := g }) : wpAny (model prog w) A (Builtin.«zip.__next__» ⟨[.ref zz], []⟩) Q E s := by
  show wpAny _ _ (field (.ref zz) 2 >>= _) _ _ _
  refine wpAny_bind (wpAny_field hZ rfl (x := .bool false) rfl ?_)
  show wpAny _ _ (field (.ref zz) 3 >>= _) _ _ _
  refine wpAny_bind (wpAny_field hZ rfl (x := .ref TI) rfl ?_)
  refine wpAny_bind (wpAny_seqItems hI rfl ?_)
  show wpAny _ _ (Builtin.SmallTypes.ownedTupleIsFree (.ref zz) >>= _) _ _ _
  refine wpAny_bind ?_
  delta Builtin.SmallTypes.ownedTupleIsFree
  refine wpAny_bind (wpAny_field hZ rfl (x := .none) rfl (wpAny_pure ?_))
  simp only [if_true]
  refine wpAny_bind (wpAny_rule ?_)
  refine wpAny_bind (wpAny_field hZ rfl (x := .ref TO) rfl ?_)
  refine wpAny_bind (wpAny_setField_rec hZ (by simp) fun g1 z1 e1 => ?_)
  have z1 : IsZip g1 zz TI TO .ellipsis := z1
  refine wpAny_bind ?_
  simp only [List.forIn_cons, List.forIn_nil, List.zipIdx_cons, List.zipIdx_nil]
  refine wpAny_bind (wpAny_bind (wpAny_onRaise ?_))
  show wpAny _ _ (Builtin.SmallTypes.nextOf (.ref j1) >>= _) _ _ _
  have stop : ∀ (g gg : Heap) (x : Addr), IsZip g zz TI TO .ellipsis → (∃ o, g.get? x = some o ∧ o.cls = .type "StopIteration") → x ≠ zz := fun g gg x hz he z => by
    obtain ⟨o, h1, h2⟩ := he
    subst z; rw [hz] at h1; cases h1; simp at h2
  cases hu : us[k1]? with
  | none =>
    refine wpAny_bind (nx_end hd (a1.stay e1.extBut D.i1z) (q1.stay e1.extBut D.l1z) hu fun g2 x e2 hx => ?_)
    have z2 : IsZip g2 zz TI TO .ellipsis := e2 _ _ D.i1z.symm z1
    have hxz := stop g2 g2 x z2 hx
    obtain ⟨o, h1, h2⟩ := hx
    exact wpAny_setField_rec z2 (by simp) fun g3 _ e3 => go g3 x (fun c o n1 _ n3 _ q => e3.extBut _ _ n1 (e2 _ _ n3 (e1.extBut _ _ n1 q))) ⟨o, e3.extBut _ _ hxz h1, h2⟩
  | some u =>
    have hv : vs[k2]? = none := he.resolve_left (by rw [hu]; exact nofun)
    refine wpAny_bind (nx_item (a1.stay e1.extBut D.i1z) (q1.stay e1.extBut D.l1z) hu fun g2 y1 e2 => wpAny_pure ?_)
    have o2 : IsPair g2 TO p1 p2 := e2.extBut _ _ D.TOi1 (e1.extBut _ _ D.TOz hO)
    refine wpAny_bind (wpAny_seqItems o2 rfl ?_)
    refine wpAny_bind (wpAny_updateSeq_pair o2 fun g3 o3 e3 => ?_)
    refine wpAny_bind (wpAny_letGo (wpAny_pure ?_))
    refine wpAny_bind (wpAny_bind (wpAny_onRaise ?_))
    show wpAny _ _ (Builtin.SmallTypes.nextOf (.ref j2) >>= _) _ _ _
    refine wpAny_bind (nx_end hd (((a2.stay e1.extBut D.i2z).stay e2.extBut D.i12.symm).stay e3.extBut D.TOi2.symm) (((q2.stay e1.extBut D.l2z).stay e2.extBut D.l2i1).stay e3.extBut D.l2TO) hv fun g4 x e4 hx => ?_)
    have z4 : IsZip g4 zz TI TO .ellipsis := e4 _ _ D.i2z.symm (e3.extBut _ _ D.TOz.symm (e2.extBut _ _ D.i1z.symm z1))
    have hxz := stop g4 g4 x z4 hx
    obtain ⟨o, h1, h2⟩ := hx
    exact wpAny_setField_rec z4 (by simp) fun g5 _ e5 => go g5 x (fun c o n1 n2 n3 n4 q => e5.extBut _ _ n1 (e4 _ _ n4 (e3.extBut _ _ n2 (e2.extBut _ _ n3 (e1.extBut _ _ n1 q))))) ⟨o, e5.extBut _ _ hxz h1, h2⟩
theorem nextM_item {Q : Option Value → Shared → Prop} (D : ZipApart zz TI TO j1 j2 l1 l2) (hZ : IsZip s.heap zz TI TO .none) (hI : IsPair s.heap TI (.ref j1) (.ref j2)) (hO : IsPair s.heap TO p1 p2)
    (a1 : ItK b1 s.heap j1 l1 k1) (a2 : ItK b2 s.heap j2 l2 k2) (q1 : SqK b1 s.heap l1 us) (q2 : SqK b2 s.heap l2 vs) (hu : us[k1]? = some u) (hv : vs[k2]? = some v)
    (go : ∀ g, IsZip g zz TI TO (rawInt s.heap.objs.size) → IsPair g TO u v → ItK b1 g j1 l1 (k1 + 1) → ItK b2 g j2 l2 (k2 + 1) → IsPair g s.heap.objs.size u v → g.objs.size = s.heap.objs.size + 1 → But4 zz TO j1 j2 s.heap g → Q (some (.ref s.heap.objs.size)) { s with heap := g }) :
    wpAny (model prog w) A (pyNext (.ref zz)) Q E s := by
  have ty : s.TypeIs (.ref zz) "zip" := ⟨_, hZ, rfl⟩
  delta pyNext
  exact wpAny_bind (wpAny_attempt (wpAny_callSpecial?_slot (name := Str.ofString "__next__") ty F.slot_zip_next (wpAny_call_entry F.slot_zip_next ty F.entry_zip_next (zipM_item D hZ hI hO a1 a2 q1 q2 hu hv fun g c1 c2 c3 c4 c5 c6 c7 => wpAny_pure (go g c1 c2 c3 c4 c5 c6 c7)) (F.args_zip_next_1 _))))
theorem nextM_end {Q : Option Value → Shared → Prop} (hd : A.handled = none) (D : ZipApart zz TI TO j1 j2 l1 l2) (hZ : IsZip s.heap zz TI TO .none) (hI : IsPair s.heap TI (.ref j1) (.ref j2)) (hO : IsPair s.heap TO p1 p2)
    (a1 : ItK b1 s.heap j1 l1 k1) (a2 : ItK b2 s.heap j2 l2 k2) (q1 : SqK b1 s.heap l1 us) (q2 : SqK b2 s.heap l2 vs) (he : us[k1]? = none ∨ vs[k2]? = none) (go : ∀ g, But4 zz TO j1 j2 s.heap g → Q none { s with heap := g }) : wpAny (model prog w) A (pyNext (.ref zz)) Q E s := by
  have ty : s.TypeIs (.ref zz) "zip" := ⟨_, hZ, rfl⟩
  delta pyNext
  refine wpAny_bind (wpAny_attempt (wpAny_callSpecial?_slot (name := Str.ofString "__next__") ty F.slot_zip_next (wpAny_call_entry F.slot_zip_next ty F.entry_zip_next (zipM_end hd D hZ hI hO a1 a2 q1 q2 he fun g x k hx => ?_) (F.args_zip_next_1 _))))
  obtain ⟨o, h1, h2⟩ := hx
  refine wpAny_bind (wpAny_isInstance (T := "StopIteration") (b := true) ⟨o, h1, h2⟩ isSubtype_stop ?_)
  exact wpAny_pure (go _ k)
end
/-- the iterator over a list, a tuple -/
def itObj (b : Bool) (l : Addr) : Obj := { cls := .type (if b then "tuple_iterator" else "list_iterator"), data := .fields #[.ref l, .int 0 0] }
def zH1 (b1 : Bool) (h : Heap) (l1 : Addr) : Heap := h.push (itObj b1 l1)
def zH2 (b1 b2 : Bool) (h : Heap) (l1 l2 : Addr) : Heap := (zH1 b1 h l1).push (itObj b2 l2)
def zH3 (b1 b2 : Bool) (h : Heap) (l1 l2 : Addr) : Heap := (zH2 b1 b2 h l1 l2).push { cls := .type "tuple", data := .seq #[.ref h.objs.size, .ref (zH1 b1 h l1).objs.size] }
def zH4 (b1 b2 : Bool) (h : Heap) (l1 l2 : Addr) : Heap := (zH3 b1 b2 h l1 l2).push { cls := .type "tuple", data := .seq #[.none, .none] }
def zH5 (b1 b2 : Bool) (h : Heap) (l1 l2 : Addr) : Heap := (zH4 b1 b2 h l1 l2).push { cls := .type "zip", data := .fields #[.none, .bool false, .bool false, .ref (zH2 b1 b2 h l1 l2).objs.size, .ref (zH3 b1 b2 h l1 l2).objs.size] }
end
theorem SqK.push {b : Bool} {h : Heap} {l : Addr} {us : Array Value} (a : SqK b h l us) (o : Obj) : SqK b (h.push o) l us := by
  cases b with
  | false => exact Heap.IsList.push (show h.IsList l us from a) o
  | true => exact Heap.IsTuple.push (show h.IsTuple l us from a) o
theorem meets_zM (b1 b2 : Bool) (l1 l2 : Addr) (us vs : Array Value) :
    Meets (Builtin.«zip.__new__» ⟨[.type "zip", .ref l1, .ref l2], []⟩) (fun _ R s => SqK b1 s.heap l1 us ∧ SqK b2 s.heap l2 vs ∧ R (.ok (.ret (.ref (zH4 b1 b2 s.heap l1 l2).objs.size))) { s with heap := zH5 b1 b2 s.heap l1 l2 }) :=
  .of_wp fun prog w A R s h => by
    obtain ⟨hp, g, d, tk, os⟩ := s; obtain ⟨q1, q2, h⟩ := h
    have hsub := sub_zip
    cases b1 with
    | false =>
      cases b2 with
      | false =>
        have L1 : Heap.IsList (Shared.heap ⟨hp, g, d, tk, os⟩) l1 us := q1
        have L2 : Heap.IsList (Shared.heap ⟨hp.push { cls := .type "list_iterator", data := .fields #[.ref l1, .int 0 0] }, g, d, tk, os⟩) l2 vs := Heap.IsList.push q2 _
        wp_walk using wpAny_pyIter_list L1, wpAny_pyIter_list L2
        exact ⟨_, rfl, h⟩
      | true =>
        have L1 : Heap.IsList (Shared.heap ⟨hp, g, d, tk, os⟩) l1 us := q1
        have L2 : Heap.IsTuple (Shared.heap ⟨hp.push { cls := .type "list_iterator", data := .fields #[.ref l1, .int 0 0] }, g, d, tk, os⟩) l2 vs := Heap.IsTuple.push q2 _
        wp_walk using wpAny_pyIter_list L1, wpAny_pyIter_tuple L2
        exact ⟨_, rfl, h⟩
    | true =>
      cases b2 with
      | false =>
        have L1 : Heap.IsTuple (Shared.heap ⟨hp, g, d, tk, os⟩) l1 us := q1
        have L2 : Heap.IsList (Shared.heap ⟨hp.push { cls := .type "tuple_iterator", data := .fields #[.ref l1, .int 0 0] }, g, d, tk, os⟩) l2 vs := Heap.IsList.push q2 _
        wp_walk using wpAny_pyIter_tuple L1, wpAny_pyIter_list L2
        exact ⟨_, rfl, h⟩
      | true =>
        have L1 : Heap.IsTuple (Shared.heap ⟨hp, g, d, tk, os⟩) l1 us := q1
        have L2 : Heap.IsTuple (Shared.heap ⟨hp.push { cls := .type "tuple_iterator", data := .fields #[.ref l1, .int 0 0] }, g, d, tk, os⟩) l2 vs := Heap.IsTuple.push q2 _
        wp_walk using wpAny_pyIter_tuple L1, wpAny_pyIter_tuple L2
        exact ⟨_, rfl, h⟩
section
variable {prog : Program} {w : World} {A : Around} {E : Value → Shared → Prop} {s : Shared}
theorem itObj_at {b : Bool} {h : Heap} {j l : Addr} (e : h.get? j = some (itObj b l)) : ItK b h j l 0 := by
  cases b with
  | false => exact (show h.IsListIter j l 0 from ⟨_, e, rfl, rfl⟩)
  | true => exact (show h.IsTupleIter j l 0 from ⟨_, e, rfl, rfl⟩)
theorem call_zM {b1 b2 : Bool} {l1 l2 : Addr} {us vs : Array Value} {Q : Value → Shared → Prop} (q1 : SqK b1 s.heap l1 us) (q2 : SqK b2 s.heap l2 vs)
    (go : ∀ g, IsZip g (s.heap.objs.size + 4) (s.heap.objs.size + 2) (s.heap.objs.size + 3) .none → IsPair g (s.heap.objs.size + 2) (.ref s.heap.objs.size) (.ref (s.heap.objs.size + 1)) → IsPair g (s.heap.objs.size + 3) .none .none →
      ItK b1 g s.heap.objs.size l1 0 → ItK b2 g (s.heap.objs.size + 1) l2 0 → (∀ c o, s.heap.get? c = some o → g.get? c = some o) → Q (.ref (s.heap.objs.size + 4)) { s with heap := g }) : wpAny (model prog w) A (call (.type "zip") [.ref l1, .ref l2]) Q E s := by
  refine callType_new F.called_zip (by decide) (F.typeCall_zip_2 _ _) (F.newCall_zip_2 _ _) (fun obj => F.args_object_init_3 obj _ _) F.entry_zip_new (meets_zM b1 b2 l1 l2 us vs) ⟨q1, q2, ?_⟩
  have n1 : (zH1 b1 s.heap l1).objs.size = s.heap.objs.size + 1 := Heap.size_push ..
  have n2 : (zH2 b1 b2 s.heap l1 l2).objs.size = s.heap.objs.size + 2 := (Heap.size_push ..).trans (by rw [n1])
  have n3 : (zH3 b1 b2 s.heap l1 l2).objs.size = s.heap.objs.size + 3 := (Heap.size_push ..).trans (by rw [n2])
  have n4 : (zH4 b1 b2 s.heap l1 l2).objs.size = s.heap.objs.size + 4 := (Heap.size_push ..).trans (by rw [n3])
  have p5 : (zH5 b1 b2 s.heap l1 l2).get? (zH4 b1 b2 s.heap l1 l2).objs.size = some _ := Heap.get?_push_size _ rfl
  have p4 : (zH5 b1 b2 s.heap l1 l2).get? (zH3 b1 b2 s.heap l1 l2).objs.size = some _ := Heap.get?_push_of_some _ (Heap.get?_push_size _ rfl)
  have p3 : (zH5 b1 b2 s.heap l1 l2).get? (zH2 b1 b2 s.heap l1 l2).objs.size = some _ := Heap.get?_push_of_some _ (Heap.get?_push_of_some _ (Heap.get?_push_size _ rfl))
  have p2 : (zH5 b1 b2 s.heap l1 l2).get? (zH1 b1 s.heap l1).objs.size = some (itObj b2 l2) := Heap.get?_push_of_some _ (Heap.get?_push_of_some _ (Heap.get?_push_of_some _ (Heap.get?_push_size _ (by cases b2 <;> rfl))))
  have p1 : (zH5 b1 b2 s.heap l1 l2).get? s.heap.objs.size = some (itObj b1 l1) := Heap.get?_push_of_some _ (Heap.get?_push_of_some _ (Heap.get?_push_of_some _ (Heap.get?_push_of_some _ (Heap.get?_push_size _ (by cases b1 <;> rfl)))))
  show _ ∧ _
  rw [n4, n2, n3] at p5
  rw [n2, n1] at p3
  rw [n3] at p4
  rw [n1] at p2
  rw [n4]
  exact ⟨⟨_, p5, rfl⟩, go _ p5 p3 p4 (itObj_at p1) (itObj_at p2) fun c o x => Heap.get?_push_of_some _ (Heap.get?_push_of_some _ (Heap.get?_push_of_some _ (Heap.get?_push_of_some _ (Heap.get?_push_of_some _ x))))⟩
end
/-- a tracked or written list (tuple) -/
def SqV (K : PySem.W.Frag) (b : Bool) (H : Hp) (a : Addr) (xs : List V) : Prop := if b then SqT K H a xs else SqL K H a xs
theorem SqV.at_ {X : Cx} {pins : List (Addr × Obj)} {σ : L2.St} {H : Hp} {s : Shared} {b : Bool} {a : Addr} {xs : List V} (I : Inv X pins σ H s) (q : SqV X.K b H a xs) : ∃ its : List Value, Vals xs its ∧ SqK b s.heap a its.toArray ∧ a < s.heap.objs.size := by
  cases b with
  | false =>
    obtain ⟨its, r, p, _⟩ := I.list (show SqL X.K H a xs from q)
    exact ⟨its, r, p.isList, p.lt⟩
  | true =>
    obtain ⟨its, r, p, _⟩ := I.tuple (show SqT X.K H a xs from q)
    obtain ⟨o, e, _⟩ := id p
    exact ⟨its, r, (show s.heap.IsTuple a its.toArray from p), Heap.lt_size e⟩
theorem SqV.inj {X : Cx} {pins : List (Addr × Obj)} {σ : L2.St} {H : Hp} {s : Shared} {b : Bool} {a : Addr} {xs ys : List V} (I : Inv X pins σ H s) (q : SqV X.K b H a xs) (r : SqV X.K b H a ys) : xs = ys := by
  cases b with
  | false => exact I.list_inj (show SqL X.K H a xs from q) r
  | true => exact I.tuple_inj (show SqT X.K H a xs from q) r
/-- pairs of what stands at a and at b -/
def ItzM (K : PySem.W.Frag) (b1 b2 : Bool) (a b : Addr) : It :=
  ⟨fun i H => ∃ xs ys x y, SqV K b1 H a xs ∧ SqV K b2 H b ys ∧ xs[i]? = some x ∧ ys[i]? = some y, fun i H v H' => ∃ T x y, v = .ref T ∧ H T = none ∧ H' = upd H T (.tup [x, y]) ∧ (∀ xs, SqV K b1 H a xs → xs[i]? = some x) ∧ ∀ ys, SqV K b2 H b ys → ys[i]? = some y,
    fun i H => ∃ xs ys, SqV K b1 H a xs ∧ SqV K b2 H b ys ∧ (xs.length ≤ i ∨ ys.length ≤ i)⟩
theorem turn_zM {P : Program} {w : World} {K : PySem.W.Frag} {elts : List Expr} {kk : Nat} {tpos : Pos} {b1 b2 : Bool} {a b zz TI TO j1 j2 : Addr} (D : ZipApart zz TI TO j1 j2 a b) :
    Turn P w K (.Tuple elts kk tpos) (ItzM K b1 b2 a b) [zz, TI, TO, j1, j2] zz (fun i h => IsZip h zz TI TO .none ∧ IsPair h TI (.ref j1) (.ref j2) ∧ (∃ x y, IsPair h TO x y) ∧ ItK b1 h j1 a i ∧ ItK b2 h j2 b i) where
  mem := by simp
  obj := fun i h st c hc => by
    obtain ⟨hz, hI, ⟨x, y, hO⟩, h1, h2⟩ := st
    simp only [List.mem_cons, List.not_mem_nil, or_false] at hc
    rcases hc with rfl | rfl | rfl | rfl | rfl
    · exact ⟨_, hz, fun v q => nomatch q⟩
    · exact ⟨_, hI, fun v q => nomatch q⟩
    · exact ⟨_, hO, fun v q => nomatch q⟩
    · exact h1.there
    · exact h2.there
  keep := fun i h h' st k => by
    obtain ⟨hz, hI, ⟨x, y, hO⟩, h1, h2⟩ := st
    exact ⟨k _ (by simp) _ hz, k _ (by simp) _ hI, ⟨x, y, k _ (by simp) _ hO⟩, h1.same fun o q => k _ (by simp) o q, h2.same fun o q => k _ (by simp) o q⟩
  item := by
    intro X hP hw hK hc i pins s σ H E I hf st hg
    subst hP hw hK
    obtain ⟨hz, hI, ⟨x0, y0, hO⟩, h1, h2⟩ := st
    obtain ⟨xs, ys, x, y, qx, qy, hx, hy⟩ := hg
    obtain ⟨its, rv, p1, _⟩ := SqV.at_ I qx
    obtain ⟨its2, rv2, p2, _⟩ := SqV.at_ I qy
    obtain ⟨u, hu, ru⟩ := rv.get hx
    obtain ⟨u2, hu2, ru2⟩ := rv2.get hy
    have lz : zz < s.heap.objs.size := Heap.lt_size hz
    refine nextM_item D hz hI hO h1 h2 p1 p2 (u := u) (v := u2) (by simpa using hu) (by simpa using hu2) fun g z' O' c1 c2 T' _ k => ?_
    refine ⟨_, rfl, wpAny_letOwnedTupleGo_zip (s := { s with heap := g }) z' fun g2 z2 e2 => ?_⟩
    have T2 : g2.get? s.heap.objs.size = some { cls := .type "tuple", data := .seq #[u, u2] } := (e2.2 _ (Nat.ne_of_gt lz)).trans T'
    have new : ObjOk X.prog X.w (upd H s.heap.objs.size (.tup [x, y])) g2 s.heap.objs.size (.tup [x, y]) := ⟨by show 2 ≤ sizeLine; decide, [u, u2], .cons ru (.cons ru2 .nil), ⟨_, T2, rfl, _, rfl⟩⟩
    have I1 : Inv X pins σ (upd H s.heap.objs.size (.tup [x, y])) { s with heap := g2 } :=
      I.turnedNew (t' := s.toks) (ch := [zz, TI, TO, j1, j2]) (fun c o hb q => (e2.2 c (fun n => hb (by simp [n]))).trans (k c o (fun n => hb (by simp [n])) (fun n => hb (by simp [n])) (fun n => hb (by simp [n])) (fun n => hb (by simp [n])) q)) hf (Nat.le_refl _) new
    refine ⟨.ref s.heap.objs.size, _, I1, rfl, ⟨_, x, y, rfl, I.hok.fresh (Nat.le_refl _), rfl, fun l hl => by rw [SqV.inj I hl qx]; exact hx, fun l hl => by rw [SqV.inj I hl qy]; exact hy⟩, ⟨z2, ?_, ⟨u, u2, ?_⟩, ?_, ?_⟩, fun c hcm => ?_⟩
    · exact (e2.2 _ D.TIz).trans (k _ _ D.TIz D.TITO D.TIi1 D.TIi2 hI)
    · exact (e2.2 _ D.TOz).trans O'
    · exact c1.same fun o q => (e2.2 _ D.i1z).trans q
    · exact c2.same fun o q => (e2.2 _ D.i2z).trans q
    · have lt : c < s.heap.objs.size := by
        simp only [List.mem_cons, List.not_mem_nil, or_false] at hcm
        rcases hcm with rfl | rfl | rfl | rfl | rfl
        · exact lz
        · exact Heap.lt_size hI
        · exact Heap.lt_size hO
        · obtain ⟨_, q, _⟩ := h1.there; exact Heap.lt_size q
        · obtain ⟨_, q, _⟩ := h2.there; exact Heap.lt_size q
      rw [upd_ne (Nat.ne_of_lt lt)]
      exact (hf c hcm).1
  done := by
    intro X hP hw hK hc i pins s σ H E I hf st hg
    subst hP hw hK
    obtain ⟨hz, hI, ⟨x0, y0, hO⟩, h1, h2⟩ := st
    obtain ⟨xs, ys, qx, qy, he⟩ := hg
    obtain ⟨its, rv, p1, _⟩ := SqV.at_ I qx
    obtain ⟨its2, rv2, p2, _⟩ := SqV.at_ I qy
    have n1 := rv.length
    have n2 := rv2.length
    have he' : its.toArray[i]? = none ∨ its2.toArray[i]? = none := he.elim (fun q => .inl (by simp; omega)) fun q => .inr (by simp; omega)
    exact nextM_end (I.ok.hd hc) D hz hI hO h1 h2 p1 p2 he' fun g k => ⟨rfl, I.turnedL (t' := s.toks) (ch := [zz, TI, TO, j1, j2]) (fun c o hb q => k c o (fun n => hb (by simp [n])) (fun n => hb (by simp [n])) (fun n => hb (by simp [n])) (fun n => hb (by simp [n])) q) hf⟩
  self := fun A i s Q E st h => wpAny_pyIter_zip st.1 h
/-- zip(x, y): each a list or a tuple -/
def iZipM (K : PySem.W.Frag) (ta : TA) : TI := fun σ H R => ta σ H fun vs H1 => ∃ b1 b2 a b xs ys, vs = [.ref a, .ref b] ∧ SqV K b1 H1 a xs ∧ SqV K b2 H1 b ys ∧ R (ItzM K b1 b2 a b) H1
theorem pi_zM {X : Cx} {e e2 : Expr} {ta : TA} {p pos tpos : Pos} {elts : List Expr} {kk : Nat} (hg : Gl X "zip") (hm : X.mg "zip" = none) (ha : PA X [e, e2] ta)
    (hs : starEach [e, e2] X.env = (false, eval e X.env) :: starEach [e2] X.env := by rfl) (hp2 : (backTo pos (starEach [e2] X.env)).any (·.1) = false := by rfl) : PI X (.Tuple elts kk tpos) (.Call (.Name "zip" p) [e, e2] [] pos) (iZipM X.K ta) := by
  refine ⟨fun pins s σ H R I h => ?_⟩
  refine Call_ (ld_blt I hg hm PyProof.Rows.boot_zip (PyProof.Rows.callWith_type1 (thn (ha.run pos pins s σ H _ I h) fun us s1 ⟨vs, H1, I1, r1, q1⟩ => ?_) hs hp2))
  obtain ⟨b1, b2, a, b, xs, ys, rfl, qx, qy, q⟩ := q1
  cases r1 with
  | cons r rr =>
    cases rr with
    | cons r' rr =>
      cases rr
      cases r
      cases r'
      obtain ⟨its, rv, p1, lt1⟩ := SqV.at_ I1 qx
      obtain ⟨its2, rv2, p2, lt2⟩ := SqV.at_ I1 qy
      refine call_zM p1 p2 fun g hz hI hO h1 h2 hk => wpAny_pyIter_zip hz ?_
      have I2 : Inv X pins σ H1 { s1 with heap := g } := I1.kept (t' := s1.toks) hk
      refine ⟨s1.heap.objs.size + 4, [s1.heap.objs.size + 4, s1.heap.objs.size + 2, s1.heap.objs.size + 3, s1.heap.objs.size, s1.heap.objs.size + 1], _, _, H1, rfl, I2, turn_zM (PySem.W.ktu_apart s1.heap.objs.size a b lt1 lt2), ⟨hz, hI, ⟨_, _, hO⟩, h1, h2⟩, fun c hcm => ?_, q⟩
      have le : s1.heap.objs.size ≤ c := by
        simp only [List.mem_cons, List.not_mem_nil, or_false] at hcm
        rcases hcm with h | h | h | h | h <;> rw [h] <;> first | exact Nat.le_refl _ | exact Nat.le_add_right _ _
      exact I1.fpOk le (I1.hok.fresh le)
section
variable {X : Cx} {W : WX} {A B M : Sm} {tg e e2 : Expr} {p pos : Pos}
theorem seqV {K : PySem.W.Frag} {mg : Str → Option Value} {ρ : Adr} {H : Hp} {S : Store} {d : D} {xs : List D} {v : V} (s : SR K mg ρ H S) (r : DR K mg ρ H d v) (h : seqOf d S = some xs) : ∃ a vs, v = .ref a ∧ SqV K (isTupD d) H a vs ∧ DRs K mg ρ H xs vs := by
  cases ht : isTupD d with
  | false => obtain ⟨a, vs, e, h1, h2⟩ := seq_lst s r h ht; exact ⟨a, vs, e, h1, h2⟩
  | true =>
    obtain ⟨ys, rfl⟩ := isTup_of ht
    cases h
    obtain ⟨a, vs, e, h1, h2⟩ := seq_tup r
    exact ⟨a, vs, e, h1, h2⟩
def iZ2 : Itms := fun d S => match d with
  | .tup [x, y] => (match seqOf x S, seqOf y S with
    | some xs, some ys => some (zipD xs ys)
    | _, _ => none)
  | _ => none
theorem jok_zM {K : PySem.W.Frag} {mg : Str → Option Value} {ρ0 : Adr} {H0 : Hp} {x y : D} {a b : Addr} (rx : DR K mg ρ0 H0 x (.ref a)) (ry : DR K mg ρ0 H0 y (.ref b)) : JOk K mg (ItzM K (isTupD x) (isTupD y) a b) ρ0 H0 (iZ2 (.tup [x, y])) where
  go := fun ρ H S zs i d e s h hx => by
    simp only [iZ2] at h
    split at h
    · rename_i xs ys e1 e2
      cases h
      obtain ⟨a', vs, ea, h1, h2⟩ := seqV s (rx.mono0 e) e1
      obtain ⟨b', us, eb, h3, h4⟩ := seqV s (ry.mono0 e) e2
      cases ea; cases eb
      obtain ⟨p, q, g1, g2, rfl⟩ := zipD_get hx
      obtain ⟨v, hv, rv⟩ := h2.get g1
      obtain ⟨u, hu, ru⟩ := h4.get g2
      refine ⟨⟨vs, us, v, u, h1, h3, hv, hu⟩, fun x' H' ⟨T, v', u', e3, e4, e5, e6, e7⟩ => ?_⟩
      have k1 := e6 vs h1
      have k2 := e7 us h3
      rw [hv] at k1; rw [hu] at k2
      cases k1; cases k2
      subst e3 e5
      exact pair_new s rv ru e4
    · cases h
  stop := fun ρ H S zs i e s h hx => by
    simp only [iZ2] at h
    split at h
    · rename_i xs ys e1 e2
      cases h
      obtain ⟨a', vs, ea, h1, h2⟩ := seqV s (rx.mono0 e) e1
      obtain ⟨b', us, eb, h3, h4⟩ := seqV s (ry.mono0 e) e2
      cases ea; cases eb
      rw [zipD_len] at hx
      exact ⟨vs, us, h1, h3, by have := h2.length; have := h4.length; omega⟩
    · cases h
theorem it_zip2 {tpos : Pos} {elts : List Expr} {kk : Nat} (ha : PA X [e, e2] (xA X W M)) (hm : X.mg "zip" = none) (hg : Gl X "zip" := by rfl)
    (hs : starEach [e, e2] X.env = (false, eval e X.env) :: starEach [e2] X.env := by rfl) (hpl : (backTo pos (starEach [e2] X.env)).any (·.1) = false := by rfl) :
    PI X (.Tuple elts kk tpos) (.Call (.Name "zip" p) [e, e2] [] pos) (xI X W M iZ2) :=
  piImp (pi_zM hg hm ha hs hpl) fun σ H R ⟨ρ, σd, S, er, sr, q⟩ => ⟨ρ, σd, S, er, sr, (q.runA (fun d S h => by
    unfold iZ2 at h
    split at h
    · exact ⟨_, rfl⟩
    · cases h)).mono fun vs H1 ⟨ds, S1, ρ1, x1, s1, r1, hi, q1⟩ => by
    obtain ⟨zs, hz⟩ := Option.isSome_iff_exists.mp hi
    unfold iZ2 at hz
    split at hz
    · rename_i x y e
      cases e
      split at hz
      · rename_i xs ys g1 g2
        cases r1 with
        | cons r2 r3 =>
          cases r3 with
          | cons r3 r4 =>
            cases r4
            obtain ⟨a, vs, rfl, h1, h2⟩ := seqV s1 r2 g1
            obtain ⟨b, us, rfl, h3, h4⟩ := seqV s1 r3 g2
            exact ⟨_, _, a, b, vs, us, rfl, h1, h3, q1 _ (jok_zM r2 r3)⟩
      · cases hz
    · cases hz⟩
end
end Ev
end

section
set_option maxHeartbeats 4000000
namespace Ev
open PySem PySem.Spec PyProof.Rows L2
open AutoSeq1 (wpAny_loadPart')
/-- drawing from a list's or a tuple's iterator -/
theorem drawsK {prog : Program} {w : World} {A : Around} (hh : A.handled = none) {b : Bool} {it l : Addr} (hne : l ≠ it) {us : Array Value} :
    Draws prog w A it [it, l] us.size (fun i v => us[i]? = some v) (fun i h => ItK b h it l i ∧ SqK b h l us) := by
  cases b with
  | false => exact Draws.list hh it l hne us
  | true => exact Draws.tuple hh it l hne us
theorem meets_enT (l : Addr) (items : Array Value) :
    Meets (Builtin.«enumerate.__new__» ⟨[.type "enumerate", .ref l], []⟩) (fun _ R s => s.heap.IsTuple l items ∧
      R (.ok (.ret (.ref (s.heap.push { cls := .type "tuple_iterator", data := .fields #[.ref l, .int 0 0] }).objs.size)))
        { s with heap := (s.heap.push { cls := .type "tuple_iterator", data := .fields #[.ref l, .int 0 0] }).push { cls := .type "enumerate", data := .fields #[.none, .bool false, .ref s.heap.objs.size, rawInt 0, .none, .none] } }) :=
  .of_wp fun prog w A R s h => by
    obtain ⟨hp, g, d, tk, os⟩ := s; obtain ⟨hL, h⟩ := h
    have hsub := sub_enumerate
    obtain ⟨o, hl, hc, n, hd⟩ := id hL
    obtain ⟨c, dct, dt, sl⟩ := o
    replace hc : c = .type "tuple" := hc
    replace hd : dt = .seq items n := hd
    subst hc hd
    wp_walk using wpAny_loadPart' hl
    refine wpAny_stack_any fun st => wpAny_pure ?_
    split
    · rename_i c _ _ _ _ _
      cases (c == Value.type "enumerate")
      · wp_walk using wpAny_loadPart' hl, wpAny_pyIter_tuple hL
        exact ⟨_, rfl, h⟩
      · wp_walk using wpAny_loadPart' hl, wpAny_pyIter_tuple hL
        exact ⟨_, rfl, h⟩
    · wp_walk using wpAny_loadPart' hl, wpAny_pyIter_tuple hL
      exact ⟨_, rfl, h⟩
section
variable {prog : Program} {w : World} {A : Around} {E : Value → Shared → Prop} {s : Shared}
theorem call_enT {l : Addr} {items : Array Value} {Q : Value → Shared → Prop} (hL : s.heap.IsTuple l items)
    (h : ∀ h', IsEnum h' (s.heap.objs.size + 1) s.heap.objs.size 0 .none → h'.IsTupleIter s.heap.objs.size l 0 → (∀ b o, s.heap.get? b = some o → h'.get? b = some o) → Q (.ref (s.heap.objs.size + 1)) { s with heap := h' }) :
    wpAny (model prog w) A (call (.type "enumerate") [.ref l]) Q E s := by
  refine callType_new F.called_enumerate (by decide) (F.typeCall_enumerate_1 _) (F.newCall_enumerate_1 _) (fun obj => F.args_object_init_2 obj _) F.entry_enumerate_new
    (meets_enT l items) ⟨hL, ?_⟩
  have hz : (s.heap.push { cls := .type "tuple_iterator", data := .fields #[.ref l, .int 0 0] }).objs.size = s.heap.objs.size + 1 := Heap.size_push ..
  show _ ∧ _
  rw [hz]
  have he : IsEnum ((s.heap.push { cls := .type "tuple_iterator", data := .fields #[.ref l, .int 0 0] }).push
      { cls := .type "enumerate", data := .fields #[.none, .bool false, .ref s.heap.objs.size, rawInt 0, .none, .none] }) (s.heap.objs.size + 1) s.heap.objs.size 0 .none := by
    have := Heap.get?_push_size (s.heap.push { cls := .type "tuple_iterator", data := .fields #[.ref l, .int 0 0] })
      (o := { cls := .type "enumerate", data := .fields #[.none, .bool false, .ref s.heap.objs.size, rawInt 0, .none, .none] }) rfl
    rw [hz] at this; exact this
  exact ⟨⟨_, he, rfl⟩, h _ he ⟨_, Heap.get?_push_of_some _ (Heap.get?_push_size _ rfl), rfl, rfl⟩ fun b o x => Heap.get?_push_of_some _ (Heap.get?_push_of_some _ x)⟩
theorem call_enK {b : Bool} {l : Addr} {items : Array Value} {Q : Value → Shared → Prop} (hL : SqK b s.heap l items)
    (h : ∀ h', IsEnum h' (s.heap.objs.size + 1) s.heap.objs.size 0 .none → ItK b h' s.heap.objs.size l 0 → (∀ b o, s.heap.get? b = some o → h'.get? b = some o) → Q (.ref (s.heap.objs.size + 1)) { s with heap := h' }) :
    wpAny (model prog w) A (call (.type "enumerate") [.ref l]) Q E s := by
  cases b with
  | false => exact call_enumerate_list (show s.heap.IsList l items from hL) fun h' a c _ d => h h' a c d
  | true => exact call_enT hL h
end
/-- the list or tuple at a as it stands at each turn, each item in a new pair -/
def IteM (K : PySem.W.Frag) (b : Bool) (a : Addr) : It :=
  ⟨fun i H => ∃ (xs : List V) (x : V), SqV K b H a xs ∧ xs[i]? = some x, fun i H v H' => ∃ T x, v = .ref T ∧ H T = none ∧ H' = upd H T (.tup [.int (i : Nat), x]) ∧ ∀ xs, SqV K b H a xs → xs[i]? = some x, fun i H => ∃ xs : List V, SqV K b H a xs ∧ xs.length ≤ i⟩
theorem turn_enM {P : Program} {w : World} {K : PySem.W.Frag} {elts : List Expr} {kk : Nat} {tpos : Pos} {b : Bool} (a e it : Addr) :
    Turn P w K (.Tuple elts kk tpos) (IteM K b a) [e, it] e (fun i h => (∃ old, IsEnum h e it ((i : Nat) : Int) old) ∧ ItK b h it a i ∧ e ≠ it ∧ a ≠ it ∧ a ≠ e) where
  mem := by simp
  obj := fun i h st c hc => by
    obtain ⟨⟨old, he⟩, ht, _⟩ := st
    simp only [List.mem_cons, List.not_mem_nil, or_false] at hc
    rcases hc with rfl | rfl
    · exact ⟨_, he, fun v q => nomatch q⟩
    · exact ht.there
  keep := fun i h h' st k => let ⟨⟨old, he⟩, hi, n1, n2, n3⟩ := st; ⟨⟨old, k e (by simp) _ he⟩, hi.same fun o q => k it (by simp) o q, n1, n2, n3⟩
  item := by
    intro X hP hw hK hc i pins s σ H E I hf st hg
    subst hP hw hK
    obtain ⟨⟨old, he⟩, hit, hne, na, ne⟩ := st
    obtain ⟨xs, x, hq, hx⟩ := hg
    obtain ⟨its, rv, p, _⟩ := SqV.at_ I hq
    obtain ⟨u, hu, ru⟩ := rv.get hx
    have hel : e < s.heap.objs.size := Heap.lt_size he
    have hil : it < s.heap.objs.size := by obtain ⟨_, q, _⟩ := hit.there; exact Heap.lt_size q
    have hd : X.A.in1.handled = none := I.ok.hd hc
    have hlt : i < its.toArray.size := by
      have := (List.getElem?_eq_some_iff.mp hu).1
      simpa using this
    refine wpAny_pyNext_enum_itemD (drawsK hd na) he ⟨hit, p⟩ hlt hne (by simp [hne, Ne.symm ne]) fun y h' tk hy ho hst hT hsz hk => ?_
    have ey : y = u := by
      have h1 : its.toArray[i]? = some u := by simpa using hu
      rw [h1] at hy; exact (Option.some.inj hy).symm
    subst ey
    refine ⟨_, rfl, wpAny_letOwnedTupleGo_enum (s := { s with heap := h', toks := tk + 1 }) ho fun h'' he' sb => ?_⟩
    have hT2 : h''.get? s.heap.objs.size = some { cls := .type "tuple", data := .seq #[.int i tk, y] } := (sb.2 _ (Nat.ne_of_gt hel)).trans hT
    have new : ObjOk X.prog X.w (upd H s.heap.objs.size (.tup [.int (i : Nat), x])) h'' s.heap.objs.size (.tup [.int (i : Nat), x]) :=
      ⟨by show 2 ≤ sizeLine; decide, [.int i tk, y], .cons ⟨_, rfl⟩ (.cons ru .nil), ⟨_, hT2, rfl, _, rfl⟩⟩
    have I1 : Inv X pins σ (upd H s.heap.objs.size (.tup [.int (i : Nat), x])) { s with heap := h'', toks := tk + 1 } :=
      I.turnedNew (ch := [e, it]) (fun b ob hb q => (sb.2 b (fun z => hb (by simp [z]))).trans (hk b ob (fun z => hb (by simp [z])) (fun z => hb (by simp [z])) q)) hf (Nat.le_refl _) new
    refine ⟨.ref s.heap.objs.size, _, I1, rfl, ⟨_, x, rfl, I.hok.fresh (Nat.le_refl _), rfl, fun ys hy => by rw [SqV.inj I hy hq]; exact hx⟩, ⟨⟨y, ?_⟩, hst.1.same fun o q => (sb.2 it (Ne.symm hne)).trans q, hne, na, ne⟩, fun b hb => ?_⟩
    · have e1 : ((i + 1 : Nat) : Int) = (i : Int) + 1 := by omega
      rw [e1]; exact he'
    · have hb' : b < s.heap.objs.size := by
        simp only [List.mem_cons, List.not_mem_nil, or_false] at hb
        rcases hb with z | z
        · rw [z]; exact hel
        · rw [z]; exact hil
      rw [upd_ne (Nat.ne_of_lt hb')]
      exact (hf b hb).1
  done := by
    intro X hP hw hK hc i pins s σ H E I hf st hg
    subst hP hw hK
    obtain ⟨⟨old, he⟩, hit, hne, na, ne⟩ := st
    obtain ⟨xs, hq, hx⟩ := hg
    obtain ⟨its, rv, p, _⟩ := SqV.at_ I hq
    obtain ⟨f0, f1, f2, f3, f4, f5⟩ := hf it (by simp)
    have hl := rv.length
    have hT : s.TypeIs (.ref e) "enumerate" := ⟨_, he, rfl⟩
    have hd : X.A.in1.handled = none := I.ok.hd hc
    delta pyNext
    refine wpAny_bind (wpAny_attempt (wpAny_callSpecial?_slot (name := Str.ofString "__next__") hT F.slot_enumerate_next
      (wpAny_call_entry F.slot_enumerate_next hT F.entry_enumerate_next ?_ (F.args_enumerate_next_1 _))))
    show wpAny _ _ (field (.ref e) 2 >>= _) _ _ _
    refine wpAny_bind (wpAny_field he rfl (x := .ref it) rfl ?_)
    refine wpAny_bind (nx_end hd hit p (by simp; omega) fun h' x he' hx' => ?_)
    obtain ⟨o, ho, hc⟩ := hx'
    refine wpAny_bind (wpAny_isInstance (T := "StopIteration") (b := true) ⟨o, ho, hc⟩ isSubtype_stop ?_)
    exact wpAny_pure ⟨rfl, I.turned (t' := s.toks) (fun b o hb q => he' b o hb q) f0 f1 f3 f4 f5⟩
  self := fun A i s Q E st h => let ⟨⟨_, he⟩, _⟩ := st; wpAny_pyIter_enum he h
/-- enumerate(x): a list or a tuple -/
def iEnuM (K : PySem.W.Frag) (ta : TA) : TI := fun σ H R => ta σ H fun vs H1 => ∃ b a xs, vs = [.ref a] ∧ SqV K b H1 a xs ∧ R (IteM K b a) H1
theorem pi_enM {X : Cx} {e : Expr} {ta : TA} {p pos tpos : Pos} {elts : List Expr} {kk : Nat} (hg : Gl X "enumerate") (hm : X.mg "enumerate" = none) (ha : PA X [e] ta) (hs : starEach [e] X.env = [(false, eval e X.env)] := by rfl) :
    PI X (.Tuple elts kk tpos) (.Call (.Name "enumerate" p) [e] [] pos) (iEnuM X.K ta) := by
  refine ⟨fun pins s σ H R I h => ?_⟩
  refine Call_ (ld_blt I hg hm boot_enumerate (PyProof.Rows.callWith_type1 (thn (ha.run pos pins s σ H _ I h) fun us s1 ⟨vs, H1, I1, r1, q1⟩ => ?_) hs rfl))
  obtain ⟨b, a, xs, ex, hq, q⟩ := q1
  subst ex
  cases r1 with
  | cons r rr =>
    cases rr
    cases r
    obtain ⟨its, rv, p', lt⟩ := SqV.at_ I1 hq
    refine call_enK p' fun h' he hit hk => wpAny_pyIter_enum he ?_
    have I2 : Inv X pins σ H1 { s1 with heap := h' } := I1.kept (t' := s1.toks) hk
    refine ⟨s1.heap.objs.size + 1, [s1.heap.objs.size + 1, s1.heap.objs.size], _, _, H1, rfl, I2, turn_enM a (s1.heap.objs.size + 1) s1.heap.objs.size, ⟨⟨.none, he⟩, hit, Nat.succ_ne_self _, Nat.ne_of_lt lt, Nat.ne_of_lt (Nat.lt_succ_of_lt lt)⟩, fun b hb => ?_, q⟩
    have hle : s1.heap.objs.size ≤ b := by
      simp only [List.mem_cons, List.not_mem_nil, or_false] at hb
      rcases hb with z | z
      · rw [z]; exact Nat.le_add_right _ _
      · rw [z]; exact Nat.le_refl _
    exact I1.fpOk hle (I1.hok.fresh hle)
section
variable {X : Cx} {W : WX} {A B M : Sm} {tg e e2 : Expr} {p pos : Pos}
def iE2 : Itms := fun d S => match d with
  | .tup [x] => (match seqOf x S with
    | some xs => some (enumD xs)
    | none => none)
  | _ => none
theorem jok_enM {K : PySem.W.Frag} {mg : Str → Option Value} {ρ0 : Adr} {H0 : Hp} {x : D} {a : Addr} (rx : DR K mg ρ0 H0 x (.ref a)) : JOk K mg (IteM K (isTupD x) a) ρ0 H0 (iE2 (.tup [x])) where
  go := fun ρ H S zs i d e s h hx => by
    simp only [iE2] at h
    split at h
    · rename_i xs e1
      cases h
      obtain ⟨a', vs, ea, h1, h2⟩ := seqV s (rx.mono0 e) e1
      cases ea
      obtain ⟨p, g1, rfl⟩ := enumD_get hx
      obtain ⟨v, hv, rv⟩ := h2.get g1
      refine ⟨⟨vs, v, h1, hv⟩, fun x' H' ⟨T, v', e3, e4, e5, e6⟩ => ?_⟩
      have k1 := e6 vs h1
      rw [hv] at k1
      cases k1
      subst e3 e5
      exact pair_new s (.int _) rv e4
    · cases h
  stop := fun ρ H S zs i e s h hx => by
    simp only [iE2] at h
    split at h
    · rename_i xs e1
      cases h
      obtain ⟨a', vs, ea, h1, h2⟩ := seqV s (rx.mono0 e) e1
      cases ea
      rw [enumD_len] at hx
      exact ⟨vs, h1, by rw [← h2.length]; exact hx⟩
    · cases h
theorem it_enum2 {tpos : Pos} {elts : List Expr} {kk : Nat} (ha : PA X [e] (xA X W M)) (hm : X.mg "enumerate" = none) (hg : Gl X "enumerate" := by rfl)
    (hs : starEach [e] X.env = [(false, eval e X.env)] := by rfl) : PI X (.Tuple elts kk tpos) (.Call (.Name "enumerate" p) [e] [] pos) (xI X W M iE2) :=
  piImp (pi_enM hg hm ha hs) fun σ H R ⟨ρ, σd, S, er, sr, q⟩ => ⟨ρ, σd, S, er, sr, (q.runA (fun d S h => by
    unfold iE2 at h
    split at h
    · exact ⟨_, rfl⟩
    · cases h)).mono fun vs H1 ⟨ds, S1, ρ1, x1, s1, r1, hi, q1⟩ => by
    obtain ⟨zs, hz⟩ := Option.isSome_iff_exists.mp hi
    unfold iE2 at hz
    split at hz
    · rename_i x e
      cases e
      split at hz
      · rename_i xs g1
        cases r1 with
        | cons r2 r3 =>
          cases r3
          obtain ⟨a, vs, rfl, h1, h2⟩ := seqV s1 r2 g1
          exact ⟨_, a, vs, rfl, h1, q1 _ (jok_enM r2)⟩
      · cases hz
    · cases hz⟩
end
end Ev
end

section
set_option maxHeartbeats 4000000
namespace Ev
open PySem PySem.Spec PyProof.Rows L2
open Classical
section
variable {K : PySem.W.Frag} {mg : Str → Option Value} {ρ ρ' : Adr} {H H' : Hp} {S S' : Store}
/-- a new object -/
theorem SR.addObj (s : SR K mg ρ H S) {p : Addr} {o : HO} {c : OC} (hp : H p = none) (hc : ∀ ρ' H', Ext ρ H ρ' H' → H' p = some o → OR K mg ρ' H' c p) :
    SR K mg (ρ.addt p) (upd H p o) { S with os := S.os ++ [c] } ∧ Ext ρ H (ρ.addt p) (upd H p o) := by
  have e : Ext ρ H (ρ.addt p) (upd H p o) := ⟨⟨fun a u h _ => by rw [upd_ne (ne_of_none h hp)]; exact h, fun a u h n q => by
      rcases q with q | q | q
      · exact n (.inl q)
      · rcases List.mem_append.mp q with q | q
        · exact n (.inr (.inl q))
        · have e1 : a = p := by simpa using q
          subst e1; rw [hp] at h; cases h
      · exact n (.inr (.inr q)), fun _ _ h => h, fun _ _ h => snoc_get h, rfl⟩, rfl, fun a ha => by obtain ⟨o, e, _⟩ := (s.nx a ha).2.2.2; exact upd_ne (ne_of_none e hp)⟩
  have np : p ∉ ρ.t := fun q => s.new hp (.inr (.inl q))
  refine ⟨⟨s.nr, ?_, ?_, s.lr, ?_, ?_, ?_, s.pc, s.tb_keep fun a u h _ _ => by rw [upd_ne (ne_of_none h hp)]; exact h,
    fun q hq => ⟨(s.nb q hq).1, fun z => (List.mem_append.mp z).elim (s.nb q hq).2 fun z => s.new hp (.inr (.inr (.inl ⟨q.2, by rw [show p = q.1 from (by simpa using z : q.1 = p).symm]; exact hq⟩)))⟩,
    fun a ha => let ⟨n1, n2, n3, o, e, ne⟩ := s.nx a ha; ⟨n1, fun z => (List.mem_append.mp z).elim n2 fun z => ne_of_none e hp (by simpa using z), n3, o, by rw [upd_ne (ne_of_none e hp)]; exact e, ne⟩, s.mkr, s.kb, s.vs_mono e.toExt0⟩, e⟩
  · show (ρ.t ++ [p]).Nodup
    rw [List.nodup_append]
    refine ⟨s.nt, by simp, fun a ha b hb => ?_⟩
    have e1 : b = p := by simpa using hb
    subst e1; rintro rfl; exact np ha
  · intro a ha ht
    rcases List.mem_append.mp ht with q | q
    · exact s.dj a ha q
    · have e1 : a = p := by simpa using q
      subst e1; exact s.new hp (.inl ha)
  · show (ρ.t ++ [p]).length = (S.os ++ [c]).length
    simp [s.lt]
  · intro n c' a h1 h2
    exact (s.cs n c' a h1 h2).mono e (by obtain ⟨u, q⟩ := (s.cs n c' a h1 h2).there; exact upd_ne (ne_of_none q hp))
  · intro n c' a h1 h2
    have hlen := s.lt
    rcases get_snoc h1 with h1 | ⟨h1, rfl⟩
    · have h2' : ρ.t[n]? = some a := by
        rcases get_snoc h2 with q | ⟨q, _⟩
        · exact q
        · have := (List.getElem?_eq_some_iff.mp h1).1
          omega
      exact (s.os n c' a h1 h2').mono e (by obtain ⟨u, q⟩ := (s.os n c' a h1 h2').there; exact upd_ne (ne_of_none q hp))
    · have h2' : a = p := by
        rcases get_snoc h2 with q | ⟨_, q⟩
        · have := (List.getElem?_eq_some_iff.mp q).1
          omega
        · exact q
      subst h2'
      exact hc _ _ e upd_same
/-- an object is written -/
theorem SR.setObj (s : SR K mg ρ H S) {n : Nat} {a : Addr} {o : HO} {c : OC} (ha : ρ.t[n]? = some a) (hc : ∀ ρ' H', Ext ρ H ρ' H' → H' a = some o → OR K mg ρ' H' c a) :
    SR K mg ρ (upd H a o) { S with os := S.os.set n c } ∧ Ext ρ H ρ (upd H a o) := by
  have hm : a ∈ ρ.t := List.mem_of_getElem? ha
  have e : Ext ρ H ρ (upd H a o) := ⟨⟨fun b u h n => by rw [upd_ne (fun q => n (by rw [q]; exact .inr (.inl hm)))]; exact h, fun _ _ _ n => n, fun _ _ h => h, fun _ _ h => h, rfl⟩, rfl, fun b hb => upd_ne fun q => (s.nx b hb).2.1 (by rw [q]; exact hm)⟩
  refine ⟨⟨s.nr, s.nt, s.dj, s.lr, by simpa using s.lt, ?_, ?_, s.pc, s.tb_keep fun b u h _ n => by rw [upd_ne (fun q => n (by rw [q]; exact hm))]; exact h, s.nb, fun b hb => let ⟨n1, n2, n3, u, q, ne⟩ := s.nx b hb; ⟨n1, n2, n3, u, by rw [upd_ne fun z => n2 (by rw [z]; exact hm)]; exact q, ne⟩, s.mkr, s.kb, s.vs_mono e.toExt0⟩, e⟩
  · intro m c' b h1 h2
    refine (s.cs m c' b h1 h2).mono e (upd_ne ?_)
    rintro rfl
    exact s.dj _ (List.mem_of_getElem? h2) hm
  · intro m c' b h1 h2
    by_cases hmn : m = n
    · subst hmn
      have hl : m < S.os.length := by
        have := (List.getElem?_eq_some_iff.mp h2).1
        have := s.lt
        omega
      have e1 : (S.os.set m c)[m]? = some c := List.getElem?_set_self hl
      have h1' : (S.os.set m c)[m]? = some c' := h1
      rw [e1] at h1'
      have hcc : c = c' := Option.some.inj h1'
      subst hcc
      rw [ha] at h2; cases h2
      exact hc _ _ e upd_same
    · have h1' : (S.os.set n c)[m]? = some c' := h1
      rw [List.getElem?_set_ne (Ne.symm hmn)] at h1'
      refine (s.os m c' b h1' h2).mono e (upd_ne ?_)
      rintro rfl
      exact hmn (nodup_get s.nt h2 ha)
end
/-- what is left when __init__ has run -/
noncomputable def mkEnd (S : Store) (r : Res) : Res := match r with
  | .ok .non S2 => (match S2.os[S.os.length]? with
    | some oc => if D.pures oc.vs = true ∧ OsOk S S2 then .ok (.ins oc.c oc.fs oc.vs) (S2.ret S) else .bad
    | none => .bad)
  | .exc c fs vs S2 => if D.pures vs = true ∧ OsOk S S2 then .exc c fs vs (S2.ret S) else .bad
  | _ => .bad
def Store.addO (S : Store) (c : Str) : Store := { S.ent with os := S.os ++ [⟨c, [], []⟩] }
/-- C(..): F: what its __init__ comes to -/
noncomputable def mkI (c : Str) (n : Nat) (F : List D → Store → Res) : List D → Store → Res := fun ds S =>
  if ds.length + 1 = n then mkEnd S (F (.obj S.os.length :: ds) (S.addO c)) else .bad
theorem mkEnd_run {K : PySem.W.Frag} {mg : Str → Option Value} {ρ ρ1 : Adr} {H H1 : Hp} {S : Store} {x : Addr} {σ : L2.St} {W : WX} {r : Res} {Q : VK} (s : SR K mg ρ H S) (e0 : Ext ρ.ent H ρ1 H1) (hx : ρ1.t[S.os.length]? = some x) (q : RQ K mg ρ H σ W (mkEnd S r) Q) :
    RQ K mg ρ1 H1 [] (WE fun cls d H' => W cls d σ H') r (fun v H2 => v = .non ∧ Q (.ref x) H2) := by
  have hlen := s.lt
  cases r with
  | ok d S2 =>
    intro ρ' H' v e s' rd
    cases d with
    | non =>
      cases rd
      refine ⟨rfl, ?_⟩
      unfold mkEnd at q
      dsimp only at q
      split at q
      · rename_i oc hoc
        split at q
        · rename_i hh
          obtain ⟨s2, x2, c2⟩ := s.ret s' (e0.trans e) hh.2
          have hx' : ρ'.t[S.os.length]? = some x := e.at_ _ _ hx
          obtain ⟨C, dx, fvs, g1, g2, g3, g4⟩ := s'.os _ _ _ hoc hx'
          refine q.at2 x2 s2 (.ins g1 ?_ g2 g3 rfl ((g4.cut (D.lows_pure hh.1)).monoC c2))
          have hfx : ρ'.fx = ρ.ent.fx := (e0.trans e).fx
          have hb : ρ'.fx.b = ρ.fx.b := by rw [hfx]; rfl
          have hxx : ρ'.x = ρ.x := (e0.trans e).xx
          rintro (z | z | z | z)
          · exact s'.dj x (List.mem_of_mem_take z) (List.mem_of_getElem? hx')
          · obtain ⟨i, hi, ei⟩ := List.mem_iff_getElem.mp (show x ∈ ρ'.t.take ρ.t.length from z)
            have h3 : ρ'.t[i]? = some x := by
              rw [List.length_take] at hi
              rw [← List.getElem?_take_of_lt (show i < ρ.t.length by omega), List.getElem?_eq_getElem (by rw [List.length_take]; exact hi), ei]
            have h4 := nodup_get s'.nt h3 hx'
            rw [List.length_take] at hi
            omega
          · obtain ⟨w, z⟩ := z
            exact (s'.nb (x, w) (by rw [hb]; exact z)).2 (List.mem_of_getElem? hx')
          · exact (s'.nx x (by rw [hxx]; exact z)).2.1 (List.mem_of_getElem? hx')
        · exact False.elim q
      · exact False.elim q
    | _ => exact False.elim q
  | exc c fs vs S2 =>
    intro ρ' H' C dx fvs e s' hm hd hn hf rd
    unfold mkEnd at q
    dsimp only at q
    split at q
    · rename_i hh
      obtain ⟨s2, x2, c2⟩ := s.ret s' (e0.trans e) hh.2
      exact q _ H' C dx fvs x2 s2 hm hd (c2.nin _ _ hd (fun z => hn (cut_has z)) (fun z => by obtain ⟨_, _, e1, _⟩ := z; cases e1)) hf ((rd.cut (D.lows_pure hh.1)).monoC c2)
    · exact False.elim q
  | bad => exact False.elim q
section
variable {X : Cx} {W : WX} {k : Nat} {f C : Addr} {fd : FuncData} {ps : List Str} {F : List D → Store → Res} {x : Str} {p pos : Pos} {e : Expr} {es : List Expr} {M : Sm}
theorem run_mk {pins : List (Addr × Obj)} {σ : L2.St} {H : Hp} {s : Shared} {Q : VK} {us : List Value} {vs : List V} {ρ : Adr} {S : Store} {cs : List D} (G : FnG X.prog X.w X.K X.mg X.base k f fd ps F) (mk : Mk X.K C f) (hr : Room (k + 1) X.A) (cn : Cn X) (tk : Takes X W) (hmx : X.mg x = some (.ref C)) (hb : L2.Binds X.K fd ps [])
    (I : Inv X pins σ H s) (r : Vals vs us) (sr : SR X.K X.mg ρ H S) (dr : DRs X.K X.mg ρ H cs vs) (h : RQ X.K X.mg ρ H σ W (mkI x ps.length F cs S) Q) : wpAny (model X.prog X.w) X.A (call (.ref C) us) (EP X pins σ Q) X.xe s := by
  unfold mkI at h
  split at h
  · rename_i hl
    have I2 := Inv.made (C := C) I
    have hx0 : H (s.heap.objs.size + 1) = none := I.hok.fresh (Nat.le_succ _)
    have hd0 : H s.heap.objs.size = none := I.hok.fresh (Nat.le_refl _)
    have hne : s.heap.objs.size + 1 ≠ s.heap.objs.size := Nat.succ_ne_self _
    have sa := sr.ent
    have sb := sa.upd_new (o := .own (s.heap.objs.size + 1)) hd0
    have ea : Ext ρ.ent H ρ.ent (upd H s.heap.objs.size (.own (s.heap.objs.size + 1))) := Ext.new sa hd0
    have hx1 : upd H s.heap.objs.size (.own (s.heap.objs.size + 1)) (s.heap.objs.size + 1) = none := by rw [upd_ne hne]; exact hx0
    obtain ⟨sc, eb⟩ := sb.addObj (c := ⟨x, [], []⟩) (o := .ins C s.heap.objs.size []) hx1 fun ρ' H' e q => ⟨C, _, [], q, hmx, rfl, .nil⟩
    have ec := ea.trans eb
    have hobj : (ρ.ent.addt (s.heap.objs.size + 1)).t[S.os.length]? = some (s.heap.objs.size + 1) := by
      rw [← sr.lt]; exact snoc_last
    have r2 : Vals (V.ref (s.heap.objs.size + 1) :: vs) (Value.ref (s.heap.objs.size + 1) :: us) := .cons rfl r
    have d2 : DRs X.K X.mg (ρ.ent.addt (s.heap.objs.size + 1)) (upd (upd H s.heap.objs.size (.own (s.heap.objs.size + 1))) (s.heap.objs.size + 1) (.ins C s.heap.objs.size [])) (.obj S.os.length :: cs) (V.ref (s.heap.objs.size + 1) :: vs) := .cons (.obj hobj) ((dr.monoC ent_ext).mono ec)
    have hl2 : (Value.ref (s.heap.objs.size + 1) :: us).length = ps.length := by
      rw [← hl, ← r2.length, ← d2.length]; rfl
    refine wpAny_call (make_map (f := f) I.kIn mk.makes mk.init (beq_iff_eq.mp mk.fn) (codeAny_mono (G.run _ X.stack _ _ ⟨Value.ref (s.heap.objs.size + 1) :: us, []⟩ (Value.ref (s.heap.objs.size + 1) :: us) _ _ _ _ (fun v H2 => v = .non ∧ Q (.ref (s.heap.objs.size + 1)) H2) (fun cls d H' => W cls d σ H') (hr.make C us []) cn.gd
      (I2.env0.make C us []) (by
        have := hb _ (Value.ref (s.heap.objs.size + 1) :: us) I2.kIn (by rw [List.append_nil]; exact hl2)
        rw [List.append_nil] at this
        exact this) r2 hl2 sc d2 (mkEnd_run sr ec hobj h)) fun r s' hq' => ?_))
    cases r with
    | error e => exact tk e s' (XE.of_call I2 (fun cls d H' h => h) hq')
    | ok fl =>
      cases fl with
      | ret u =>
        obtain ⟨v, H', I3, rv, ev, q3⟩ := I2.after hq'
        subst ev
        exact ⟨rv, ⟨V.ref (s.heap.objs.size + 1), H', I3, rfl, q3⟩⟩
      | next => exact False.elim hq'
      | brk => exact False.elim hq'
      | cont => exact False.elim hq'
  · exact False.elim h
theorem x_make (G : FnG X.prog X.w X.K X.mg X.base k f fd ps F) (mk : Mk X.K C f) (hr : Room (k + 1) X.A) (cn : Cn X) (tk : Takes X W) (hm : X.mg x = some (.ref C)) (hb : L2.Binds X.K fd ps [])
    (ha : PA X (e :: es) (xA X W M)) (hg : Gl X x := by rfl) (hdb : (x == ("__debug__" : Str)) = false := by decide) (he : starEach (e :: es) X.env = (false, eval e X.env) :: starEach es X.env := by rfl) (hpl : (backTo pos (starEach es X.env)).any (·.1) = false := by rfl) :
    PE X (.Call (.Name x p) (e :: es) [] pos) (xE X W (evA M (mkI x ps.length F))) := by
  refine ⟨fun pins s σ H Q I ⟨ρ, σd, S, er, sr, q⟩ => ?_⟩
  refine wpAny_Call_Name_kw (ld_glob I hg hm ?_ hdb)
  refine PySem.W.callWith_K (h₀ := X.base) I.ok.mod.kin mk.kp (thn (ha.run pos pins s σ H _ I ⟨ρ, σd, S, er, sr, RQA.bind q⟩) fun us s1 ⟨vs, H1, I1, r, ds1, S1, ρ1, x1, s1', r1, q1⟩ => ⟨I1.kIn, ?_⟩) he hpl
  exact run_mk G mk hr cn tk hm hb I1 r s1' r1 q1
end
end Ev
end

section
set_option maxHeartbeats 4000000
namespace Ev
open PySem PySem.Spec PyProof.Rows L2
open Classical
/-- what is known of an own class -/
structure ClsE (K : PySem.W.Frag) (mg : Str → Option Value) (c : Str) (fs : List Str) (C : Addr) : Prop where
  m : mg c = some (.ref C)
  cl : Cls K C
  no : ∀ f ∈ fs, NoAttr K C f
  at_ : PySem.W.findIn K (.ref C) "__class__" = some (some (.builtin "object.__class__"))
  gt : PySem.W.specialIn K (.builtin "object.__class__") "__get__" = some (some (.builtin "getset_descriptor.__get__"))
  tk : PySem.W.takesIn K (.builtin "object.__class__") = some true
  mr : PySem.W.mroIn K C (.type "object") = some true
theorem look_lk {K : PySem.W.Frag} {mg : Str → Option Value} {ρ : Adr} {H : Hp} (f : Str) : ∀ (fvs : List (Str × V)) (ds : List D) (d : D), DRs K mg ρ H ds (fvs.map (·.2)) → look f (fvs.map (·.1)) ds = some d → ∃ v, fvs.lookup f = some v ∧ DR K mg ρ H d v
  | [], ds, d, r, h => by simp [look] at h
  | p :: fvs, ds, d, r, h => by
    cases r with
    | cons h1 t =>
      simp only [List.map_cons, look] at h
      by_cases hk : p.1 = f
      · rw [if_pos hk] at h
        cases h
        refine ⟨p.2, ?_, h1⟩
        obtain ⟨g, v⟩ := p
        simp only at hk
        subst hk
        simp [List.lookup]
      · rw [if_neg hk] at h
        obtain ⟨v, e1, e2⟩ := look_lk f fvs _ d t h
        refine ⟨v, ?_, e2⟩
        obtain ⟨g, w⟩ := p
        have : (f == g) = false := by rw [beq_eq_false_iff_ne]; exact fun z => hk z.symm
        simp only [List.lookup, this]
        exact e1
/-- the class and the fields of an instance -/
def insOf (d : D) (S : Store) : Option OC := match d with
  | .ins c fs vs => some ⟨c, fs, vs⟩
  | .obj n => S.os[n]?
  | _ => none
theorem ins_v {K : PySem.W.Frag} {mg : Str → Option Value} {ρ : Adr} {H : Hp} {S : Store} {d : D} {v : V} {oc : OC} (s : SR K mg ρ H S) (r : DR K mg ρ H d v) (h : insOf d S = some oc) : ∃ a, v = .ref a ∧ OR K mg ρ H oc a := by
  cases d with
  | ins c fs vs =>
    cases h
    cases r with
    | ins h1 _ h3 h4 h5 h6 => exact ⟨_, rfl, _, _, _, h1, h3, h4, by rw [h5]; exact h6⟩
  | obj n =>
    cases r with
    | obj hr => exact ⟨_, rfl, s.os _ _ _ h hr⟩
  | _ => cases h
def dFld (L : List Str) (f : Str) : D → Store → Res := fun d S => match insOf d S with
  | some oc => if oc.c ∈ L then (match look f oc.fs oc.vs with
    | some x => .ok x S
    | none => .bad) else .bad
  | none => .bad
section
variable {X : Cx} {W : WX} {A B O M : Sm} {a b e o : Expr} {p pos : Pos}
theorem x_fld {L : List Str} {f : Str} (hL : ∀ c ∈ L, ∃ C fs, ClsE X.K X.mg c fs C ∧ f ∈ fs) (ha : PE X a (xE X W A)) (hb : attributeBase a f X.env (eval a X.env) = eval a X.env := by rfl) : PE X (.Attribute a f pos) (xE X W (evU A (dFld L f))) :=
  peImp (pe_fld ha hb) fun σ H Q ⟨ρ, σd, S, er, sr, q⟩ => ⟨ρ, σd, S, er, sr, (RQ.bind q).mono fun v1 H1 ⟨d1, S1, ρ1, _, x1, s1, r1, q1⟩ => by
    unfold dFld at q1
    dsimp only at q1
    split at q1
    · rename_i oc hoc
      split at q1
      · rename_i hc
        split at q1
        · rename_i x hx
          obtain ⟨z, rfl, C, dx, fvs, g1, g2, g3, g4⟩ := ins_v s1 r1 hoc
          obtain ⟨C', fs, hcl, hf⟩ := hL _ hc
          have : C' = C := by have := hcl.m; rw [g2] at this; cases this; rfl
          subst this
          rw [← g3] at hx
          obtain ⟨v, e1, e2⟩ := look_lk f fvs _ _ g4 hx
          exact ⟨z, _, dx, fvs, v, rfl, g1, hcl.cl, hcl.no f hf, e1, q1.here s1 e2⟩
        · exact False.elim q1
      · exact False.elim q1
    · exact False.elim q1⟩
theorem putF_keys (f : Str) (v : V) : ∀ fvs : List (Str × V), (putF f v fvs).map (·.1) = (if f ∈ fvs.map (·.1) then fvs.map (·.1) else fvs.map (·.1) ++ [f])
  | [] => by simp [putF]
  | (g, x) :: r => by
    unfold putF
    by_cases h : g = f
    · rw [if_pos h]; subst h; simp
    · rw [if_neg h, List.map_cons, putF_keys f v r]
      have h' : f ≠ g := fun z => h z.symm
      by_cases hm : f ∈ r.map (·.1)
      · simp [hm]
      · simp [hm, h']
/-- a field is stored: its value at its place, or behind -/
def putD (f : Str) (d : D) : List Str → List D → List D
  | g :: gs, x :: xs => if g = f then d :: xs else x :: putD f d gs xs
  | _, _ => [d]
theorem putD_v {K : PySem.W.Frag} {mg : Str → Option Value} {ρ : Adr} {H : Hp} {f : Str} {d : D} {v : V} (h : DR K mg ρ H d v) : ∀ (fvs : List (Str × V)) (ds : List D), DRs K mg ρ H ds (fvs.map (·.2)) → DRs K mg ρ H (putD f d (fvs.map (·.1)) ds) ((putF f v fvs).map (·.2))
  | [], ds, r => by simp [putD, putF]; exact .cons h .nil
  | (g, x) :: fvs, ds, r => by
    cases r with
    | cons h1 t =>
      simp only [List.map_cons, putD]
      unfold putF
      by_cases hk : g = f
      · rw [if_pos hk, if_pos hk]; exact .cons h t
      · rw [if_neg hk, if_neg hk]; exact .cons h1 (putD_v h fvs _ t)
/-- o.f = e -/
def sFst (L : List Str) (f : Str) (O A : Sm) : Sst := fun σd S => (A σd S).go σd fun v S1 => (O σd S1).go σd fun o S2 => match o with
  | .obj n => (match S2.os[n]? with
    | some oc => if oc.c ∈ L ∧ oc.fs.length < 1000 then .nx σd { S2 with os := S2.os.set n ⟨oc.c, (if f ∈ oc.fs then oc.fs else oc.fs ++ [f]), putD f v oc.fs oc.vs⟩ } else .bad
    | none => .bad)
  | _ => .bad
theorem s_fst {L : List Str} {f : Str} {pos' : Pos} (hL : ∀ c ∈ L, ∃ C fs, ClsE X.K X.mg c fs C ∧ f ∈ fs) (ho : PE X o (xE X W O)) (he : PE X e (xE X W A)) (hs : swapsWith e (some (.Attribute o f pos')) pos.line X.env = pure false := by rfl) : PS X (.Assign [.Attribute o f pos'] e pos) (xS X W (sFst L f O A)) :=
  psImp (ps_fld ho he hs) fun Z σ H ⟨ρ, σd, S, er, sr, q⟩ => ⟨ρ, σd, S, er, sr, (SQ.go er q).mono fun v1 H1 ⟨d1, S1, ρ1, _, x1, s1, r1, er1, q1⟩ =>
    ⟨ρ1, σd, S1, er1, s1, (SQ.go er1 q1).mono fun v2 H2 ⟨d2, S2, ρ2, _, x2, s2, r2, er2, q2⟩ => by
      split at q2
      · split at q2
        · split at q2
          · rename_i n oc hoc hc
            cases r2 with
            | obj hr =>
              obtain ⟨C, dx, fvs, g1, g2, g3, g4⟩ := s2.os _ _ _ hoc hr
              obtain ⟨C', fs, hcl, hf⟩ := hL _ hc.1
              have : C' = C := by have := hcl.m; rw [g2] at this; cases this; rfl
              subst this
              have hlen : fvs.length < 1000 := by rw [← List.length_map (f := (·.1)), g3]; exact hc.2
              obtain ⟨s3, x3⟩ := s2.setObj (c := ⟨oc.c, (if f ∈ oc.fs then oc.fs else oc.fs ++ [f]), putD f d1 oc.fs oc.vs⟩) (o := .ins C' dx (putF f v1 fvs)) hr fun ρ' H' e' q' => ⟨C', dx, _, q', g2, by rw [putF_keys, g3], by
                show DRs _ _ _ _ (putD f d1 oc.fs oc.vs) _
                rw [← g3]
                exact putD_v ((r1.mono x2).mono e') fvs _ (g4.mono e')⟩
              exact ⟨_, C', dx, fvs, rfl, g1, hcl.cl, hcl.no f hf, hlen, q2.nx2 x3 s3 (er2.mono x3)⟩
          · exact False.elim q2
        · exact False.elim q2
      · exact False.elim q2⟩⟩
def tyNs : List String := ["NoneType", "bool", "int", "str", "tuple", "list", "dict"]
theorem tyN_mem {d : D} {S : Store} {T : String} (h : tyN d S = some T) : T ∈ tyNs := by
  unfold tyN at h
  split at h <;> first | (cases h; decide) | (split at h <;> first | (cases h; decide) | cases h) | cases h
/-- an own class, asked of built-in values and of instances of the classes L -/
structure IsE (K : PySem.W.Frag) (mg : Str → Option Value) (c : Str) (L : List Str) (C : Addr) : Prop where
  m : mg c = some (.ref C)
  no : ∀ T ∈ tyNs, PySem.W.kitOne K (.type T) (.ref C) = some false
  is : ∀ c' ∈ L, ∃ C' fs, ClsE K mg c' fs C' ∧ PySem.W.kitOne K (.ref C') (.ref C) = some (decide (c' = c))
def dIsiO (c : Str) (L : List Str) : D → Store → Res := fun d S => match tyN d S with
  | some _ => .ok (.bl false) S
  | none => (match insOf d S with
    | some oc => if oc.c ∈ L then .ok (.bl (decide (oc.c = c))) S else .bad
    | none => .bad)
theorem x_isiO {c : Str} {L : List Str} {C : Addr} {p2 : Pos} (hc : IsE X.K X.mg c L C) (hm : X.mg "isinstance" = none) (ha : PE X a (xE X W A)) (hg : Gl X "isinstance" := by rfl) (hgc : Gl X c := by rfl) (hdc : (c == ("__debug__" : Str)) = false := by decide)
    (he : starEach [a, .Name c p2] X.env = (false, eval a X.env) :: starEach [.Name c p2] X.env := by rfl) (he2 : starEach [.Name c p2] X.env = (false, eval (.Name c p2) X.env) :: starEach [] X.env := by rfl) (hpl : (backTo pos (starEach [.Name c p2] X.env)).any (·.1) = false := by rfl) :
    PE X (.Call (.Name "isinstance" p) [a, .Name c p2] [] pos) (xE X W (evU A (dIsiO c L))) :=
  peImp (pe_callB call_isi hg hm (by decide +kernel) (pa_cons ha (pa_cons (pe_glob (v := .ref C) hgc hc.m rfl hdc) pa_nil he2) he) (by decide) (by decide) he hpl) fun σ H Q ⟨ρ, σd, S, er, sr, q⟩ =>
    ⟨ρ, σd, S, er, sr, (RQ.bind q).mono fun v1 H1 ⟨d1, S1, ρ1, _, x1, s1, r1, q1⟩ => by
      unfold dIsiO at q1
      dsimp only at q1
      split at q1
      · rename_i T hT
        exact ⟨v1, .ref C, .type T, .ref C, false, rfl, .own C, tyN_ok s1 r1 hT, hc.no T (tyN_mem hT), q1.here s1 (.bl _)⟩
      · split at q1
        · rename_i oc hoc
          split at q1
          · rename_i hL
            obtain ⟨z, rfl, C1, dx, fvs, g1, g2, g3, g4⟩ := ins_v s1 r1 hoc
            obtain ⟨C', fs, hcl, hk⟩ := hc.is _ hL
            have : C' = C1 := by have := hcl.m; rw [g2] at this; cases this; rfl
            subst this
            exact ⟨.ref z, .ref C, .ref C', .ref C, _, rfl, .own C, .base (.ins g1 hcl.cl hcl.at_ hcl.gt hcl.tk hcl.mr), hk, q1.here s1 (.bl _)⟩
          · exact False.elim q1
        · exact False.elim q1⟩
/-- the own == (or !=) of the class c -/
structure EqE (P : Program) (w : World) (K : PySem.W.Frag) (mg : Str → Option Value) (base : Heap) (k : Nat) (c m : Str) (L : List Str) (F : List D → Store → Res) : Prop where
  ex : ∃ C f fd ps, mg c = some (.ref C) ∧ FnG P w K mg base k f fd ps F ∧ ps.length = 2 ∧ PySem.W.findIn K (.ref C) m = some (some (.ref f)) ∧ PySem.W.isFn K (.ref f) = true ∧ L2.Binds K fd ps [] ∧ (∀ T ∈ tyNs, PySem.W.notFirst K C (.type T) = true) ∧
    ∀ c' ∈ L, ∃ C' fs, ClsE K mg c' fs C' ∧ PySem.W.notFirst K C (.ref C') = true
abbrev EqTab := Str → Option (List D → Store → Res)
def EqOk (P : Program) (w : World) (K : PySem.W.Frag) (mg : Str → Option Value) (base : Heap) (k : Nat) (m : Str) (L : List Str) (T : EqTab) : Prop := ∀ c F, T c = some F → EqE P w K mg base k c m L F
/-- what can stand on the other side -/
def othOk (L : List Str) (d : D) (S : Store) : Bool := match tyN d S with
  | some _ => true
  | none => (match insOf d S with
    | some oc => decide (oc.c ∈ L)
    | none => false)
def blOnly (r : Res) : Res := match r with
  | .ok (.bl b) S => .ok (.bl b) S
  | _ => .bad
def dEqG (neg : Bool) (L : List Str) (T : EqTab) : D → D → Store → Res := fun x y S => match insOf x S with
  | some oc => (match T oc.c with
    | some F => if othOk L y S then blOnly (callF 2 [] F [x, y] S) else .bad
    | none => .bad)
  | none => dEq neg x y S
theorem blOnly_rq {K : PySem.W.Frag} {mg : Str → Option Value} {ρ : Adr} {H : Hp} {σ : L2.St} {W W' : WX} {r : Res} {Q : VK} (q : RQ K mg ρ H σ W (blOnly r) Q) : RQ K mg ρ H σ W' r (fun v H' => (∃ b, v = .bl b) ∧ Q v H') := by
  cases r with
  | ok d S =>
    cases d with
    | bl b => exact fun ρ' H' v e s r => by cases r; exact ⟨⟨b, rfl⟩, q ρ' H' _ e s (.bl b)⟩
    | _ => exact False.elim q
  | exc c fs vs S => exact False.elim q
  | bad => exact False.elim q
/-- what the own comparison asks -/
def rOwn (K : PySem.W.Frag) (mg : Str → Option Value) (L : List Str) (T : EqTab) : R2 := fun x y H Q => ∃ ρ S d1 d2 oc F, SR K mg ρ H S ∧ DR K mg ρ H d1 x ∧ DR K mg ρ H d2 y ∧ insOf d1 S = some oc ∧ T oc.c = some F ∧ othOk L d2 S = true ∧
  RQ K mg ρ H [] (fun _ _ _ _ => False) (callF 2 [] F [d1, d2] S) (fun v H' => (∃ b, v = .bl b) ∧ Q v H')
theorem rich_own {k : Nat} {op : CmpOp} {L : List Str} {T : EqTab} {pins : List (Addr × Obj)} {s : Shared} {σ : L2.St} {H : Hp} {x y : V} {v u : Value} {Q : VK} (hT : EqOk X.prog X.w X.K X.mg X.base k (cmpInfo op).2.1 L T) (hr : Room k X.A) (cn : Cn X) (I : Inv X pins σ H s) (rx : RelV x v) (ry : RelV y u) (h : rOwn X.K X.mg L T x y H Q) :
    wpAny (model X.prog X.w) X.A (richCompare op v u) (EP X pins σ Q) X.xe s := by
  obtain ⟨ρ, S, d1, d2, oc, F, sr, r1, r2, hoc, hF, ho, q⟩ := h
  obtain ⟨a, rfl, C, dx, fvs, g1, g2, g3, g4⟩ := ins_v sr r1 hoc
  obtain ⟨C', f, fd, ps, e1, G, e2, e3, e4, e5, e6, e7⟩ := (hT _ _ hF).ex
  have : C' = C := by rw [g2] at e1; cases e1; rfl
  subst this
  cases rx
  obtain ⟨mA, J, _⟩ := ins_get I.hok g1
  obtain ⟨od, J, _⟩ := J.look
  obtain ⟨m, hFr⟩ := I.fr
  have run : wpAny (model X.prog X.w) X.A (call (.ref f) [.ref a, u]) (PySem.W.CmpBack (EP X pins σ Q)) X.xe s := by
    rw [← e2] at q
    refine wpAny_mono (run_g (W := fun _ _ _ _ => False) (vs := [.ref a, y]) (us := [.ref a, u]) G hr cn LamX.takes0 e5 .nil (fun _ _ => .nil) I (.cons rfl (.cons ry .nil)) sr (.cons r1 (.cons r2 .nil)) (by
      cases hres : callF ps.length [] F [d1, d2] S with
      | ok d S1 => rw [hres] at q; exact q
      | exc c fs vs S1 => rw [hres] at q; exact fun ρ' H' C dx fvs e s' a b c d e' => (q ρ' H' C dx fvs e s' a b c d e')
      | bad => rw [hres] at q; exact q)) (fun r s' z => ?_) fun _ _ x => x
    obtain ⟨w, H', I', rz, ⟨b, eb⟩, q'⟩ := z
    subst eb
    cases rz
    exact ⟨.bl b, H', I', rfl, q'⟩
  unfold othOk at ho
  split at ho
  · rename_i T' hT'
    obtain ⟨P, Z, pp, hx⟩ := kit_of I ry (tyN_ok sr r2 hT')
    exact PySem.W.cmp_K cn.hu0 hFr I.ok.mod.kin J (Z.ty _ _ I.kIn pp) (e6 _ (tyN_mem hT')) e3 e4 run
  · split at ho
    · rename_i oc' hoc'
      obtain ⟨a', rfl, C1, dx', fvs', h1, h2, h3, h4⟩ := ins_v sr r2 hoc'
      obtain ⟨C2, fs2, hcl, hn⟩ := e7 _ (of_decide_eq_true ho)
      have : C2 = C1 := by have := hcl.m; rw [h2] at this; cases this; rfl
      subst this
      cases ry
      obtain ⟨mB, J', _⟩ := ins_get I.hok h1
      obtain ⟨od', J', _⟩ := J'.look
      exact PySem.W.cmp_K cn.hu0 hFr I.ok.mod.kin J J'.type hn e3 e4 run
    · cases ho
theorem op_own {k : Nat} {L : List Str} {T : EqTab} (hT : EqOk X.prog X.w X.K X.mg X.base k "__eq__" L T) (hr : Room k X.A) (cn : Cn X) : OpR X (compareOp .Eq) (rOwn X.K X.mg L T) := fun pins s σ H x y v u Q I rx ry h => by
  show wpAny (model X.prog X.w) X.A (richCompare .Eq v u) (EP X pins σ Q) X.xe s
  exact rich_own (op := .Eq) hT hr cn I rx ry h
theorem op_ownN {k : Nat} {L : List Str} {T : EqTab} (hT : EqOk X.prog X.w X.K X.mg X.base k "__ne__" L T) (hr : Room k X.A) (cn : Cn X) : OpR X (compareOp .NotEq) (rOwn X.K X.mg L T) := fun pins s σ H x y v u Q I rx ry h => by
  show wpAny (model X.prog X.w) X.A (richCompare .NotEq v u) (EP X pins σ Q) X.xe s
  exact rich_own (op := .NotEq) hT hr cn I rx ry h
theorem fit_eqG {L : List Str} {T : EqTab} : Fit2 X W (fun x y H Q => rEqX X.K x y H Q ∨ rOwn X.K X.mg L T x y H Q) (dEqG false L T) := fun ρ H S σ d1 d2 v1 v2 Q s r1 r2 q => by
  unfold dEqG at q
  split at q
  · rename_i oc hoc
    split at q
    · rename_i F hF
      split at q
      · rename_i ho
        exact .inr ⟨ρ, S, d1, d2, oc, F, s, r1, r2, hoc, hF, ho, RQ.toE (W := fun _ _ _ _ => False) (blOnly_rq q)⟩
      · exact False.elim q
    · exact False.elim q
  · exact .inl (fit_eq ρ H S σ _ _ _ _ Q s r1 r2 q)
theorem fit_neG {L : List Str} {T : EqTab} : Fit2 X W (fun x y H Q => rNeX X.K x y H Q ∨ rOwn X.K X.mg L T x y H Q) (dEqG true L T) := fun ρ H S σ d1 d2 v1 v2 Q s r1 r2 q => by
  unfold dEqG at q
  split at q
  · rename_i oc hoc
    split at q
    · rename_i F hF
      split at q
      · rename_i ho
        exact .inr ⟨ρ, S, d1, d2, oc, F, s, r1, r2, hoc, hF, ho, RQ.toE (W := fun _ _ _ _ => False) (blOnly_rq q)⟩
      · exact False.elim q
    · exact False.elim q
  · exact .inl (fit_ne ρ H S σ _ _ _ _ Q s r1 r2 q)
section
variable {k : Nat} {L : List Str} {T : EqTab}
theorem x_eqG (hT : EqOk X.prog X.w X.K X.mg X.base k "__eq__" L T) (hr : Room k X.A) (cn : Cn X) (ha : PE X a (xE X W A)) (hb : PE X b (xE X W B)) : PE X (.Compare a [.Eq] [b] pos) (xE X W (evB A B (dEqG false L T))) := x_cmp (OpR.or (OpR.or (op_eqD cn.hu64) op_eq) (op_own hT hr cn)) fit_eqG ha hb (nomark _)
theorem x_neG (hT : EqOk X.prog X.w X.K X.mg X.base k "__ne__" L T) (hr : Room k X.A) (cn : Cn X) (ha : PE X a (xE X W A)) (hb : PE X b (xE X W B)) : PE X (.Compare a [.NotEq] [b] pos) (xE X W (evB A B (dEqG true L T))) := x_cmp (OpR.or (OpR.or (op_neD cn.hu64) op_ne) (op_ownN hT hr cn)) fit_neG ha hb (nomark _)
theorem t_eqG (hT : EqOk X.prog X.w X.K X.mg X.base k "__eq__" L T) (hr : Room k X.A) (cn : Cn X) (ha : PE X a (xE X W A)) (hb : PE X b (xE X W B)) : PT X (.Compare a [.Eq] [b] pos) (xT X W (evB A B (dEqG false L T))) := t_cmp (OpR.or (OpR.or (op_eqD cn.hu64) op_eq) (op_own hT hr cn)) fit_eqG ha hb (nomark _)
theorem t_neG (hT : EqOk X.prog X.w X.K X.mg X.base k "__ne__" L T) (hr : Room k X.A) (cn : Cn X) (ha : PE X a (xE X W A)) (hb : PE X b (xE X W B)) : PT X (.Compare a [.NotEq] [b] pos) (xT X W (evB A B (dEqG true L T))) := t_cmp (OpR.or (OpR.or (op_neD cn.hu64) op_ne) (op_ownN hT hr cn)) fit_neG ha hb (nomark _)
end
end
end Ev
end

section
set_option maxHeartbeats 4000000
namespace Ev
open PySem PySem.Spec PyProof.Rows L2
open Classical
/-- an own class over ValueError -/
def oexB (K : PySem.W.Frag) (C : Addr) : Bool := match K.lookup C with
  | some ⟨.type "type", _, .cls cd, sl⟩ => (match cd.mro, sl.toList with
    | .ref D :: bm, [_, _, _, _, some (.builtin nw), _] => D == C && (nw == "ValueError.__new__" && (!cd.hasDel && (cd.hasDict && PySem.HandSPX.refsVE bm)))
    | _, _ => false)
  | _ => false
theorem oexB_cls {K : PySem.W.Frag} {C : Addr} (hb : oexB K C = true) : ∃ nm q N bs bm sn sub ab col dd k0 k1 k2 k3 k5, K.lookup C = some (excClassObj nm q C N bs bm true sn sub ab col dd k0 k1 k2 k3 k5 "ValueError.__new__") ∧ PySem.HandSPX.refsVE bm = true := by
  unfold oexB at hb
  split at hb
  · rename_i dd cd sl lk
    split at hb
    · rename_i D bm k0 k1 k2 k3 nw k5 em es
      obtain ⟨g1, hb⟩ := Bool.and_eq_true_iff.mp hb
      obtain ⟨g2, hb⟩ := Bool.and_eq_true_iff.mp hb
      obtain ⟨g3, hb⟩ := Bool.and_eq_true_iff.mp hb
      obtain ⟨g4, g5⟩ := Bool.and_eq_true_iff.mp hb
      have e1 : D = C := beq_iff_eq.mp g1
      have e2 : nw = "ValueError.__new__" := beq_iff_eq.mp g2
      subst e1 e2
      obtain ⟨nm, bs, mro, ns, qn, hdc, sn, sub, ab, col, del⟩ := cd
      dsimp only at em g3 g4
      subst em g4
      have g3' : del = false := by simpa using g3
      subst g3'
      have hsl : sl = #[k0, k1, k2, k3, some (.builtin "ValueError.__new__"), k5] := by
        obtain ⟨ll⟩ := sl
        simp only at es
        rw [es]
      subst hsl
      exact ⟨nm, qn, ns, bs, bm, sn, sub, ab, col, dd, k0, k1, k2, k3, k5, lk, g5⟩
    · cases hb
  · cases hb
/-- an own exception class with its own __init__ and the fields fs -/
def excB (K : PySem.W.Frag) (c : Str) (fs : List Str) : Bool := oexB K (He.ga K c) && (decide (PySem.W.findIn K (.ref (He.ga K c)) "__setattr__" = some (some (.builtin "object.__setattr__"))) && (decide (PySem.W.subIn K (.ref (He.ga K c)) (.type "BaseException") = some true) &&
  (decide (PySem.W.typeIn K (.ref (He.ga K c)) = some (.type "type")) && (PySem.W.keepIn K (.ref (He.ga K c)) && (decide (PySem.W.findIn K (.ref (He.ga K c)) "__init__" = some (some (.ref (He.ma K (He.ga K c) "__init__")))) && (decide (PySem.W.typeIn K (.ref (He.ma K (He.ga K c) "__init__")) = some (.type "function")) &&
  ((fs.all fun f => decide (PySem.W.findIn K (.ref (He.ga K c)) f = some none)) && xfB K (He.ga K c))))))))
structure ExF (K : PySem.W.Frag) (C : Addr) (fs : List Str) : Prop where
  cls : OexC K C
  ini : PySem.W.findIn K (.ref C) "__init__" = some (some (.ref (He.ma K C "__init__")))
  tyI : PySem.W.typeIn K (.ref (He.ma K C "__init__")) = some (.type "function")
  nof : ∀ f ∈ fs, PySem.W.findIn K (.ref C) f = some none
  xf : XfC K C
theorem excB_ok {K : PySem.W.Frag} {c : Str} {fs : List Str} (h : excB K c fs = true) : ExF K (He.ga K c) fs := by
  obtain ⟨h1, h⟩ := Bool.and_eq_true_iff.mp h
  obtain ⟨h2, h⟩ := Bool.and_eq_true_iff.mp h
  obtain ⟨h3, h⟩ := Bool.and_eq_true_iff.mp h
  obtain ⟨h4, h⟩ := Bool.and_eq_true_iff.mp h
  obtain ⟨h5, h⟩ := Bool.and_eq_true_iff.mp h
  obtain ⟨h6, h⟩ := Bool.and_eq_true_iff.mp h
  obtain ⟨h7, h⟩ := Bool.and_eq_true_iff.mp h
  obtain ⟨h8, h9⟩ := Bool.and_eq_true_iff.mp h
  exact ⟨⟨oexB_cls h1, of_decide_eq_true h2, of_decide_eq_true h3, of_decide_eq_true h4, h5⟩, of_decide_eq_true h6, of_decide_eq_true h7, fun f hf => of_decide_eq_true (List.all_eq_true.mp h8 f hf), xfB_ok h9⟩
def peB (K : PySem.W.Frag) (x : Str) : Bool := decide (PySem.W.specialIn K (.ref (He.ga K x)) "__getattribute__" = some (some (.builtin "type.__getattribute__"))) && (PySem.W.readsIn K (He.ga K x) (.type "type") && (match PySem.W.findCls K (.ref (He.ga K x)) (.type "type") "__init__" with
  | some (.val (.builtin b)) => b == "ValueError.__init__"
  | _ => false))
theorem peB_ok {K : PySem.W.Frag} {x : Str} (h : peB K x = true) : PeI K (He.ga K x) := by
  obtain ⟨h1, h⟩ := Bool.and_eq_true_iff.mp h
  obtain ⟨h2, h3⟩ := Bool.and_eq_true_iff.mp h
  refine ⟨of_decide_eq_true h1, h2, ?_⟩
  split at h3
  · rename_i b e
    rw [e, beq_iff_eq.mp h3]
  · cases h3
def kinB (K : PySem.W.Frag) (kn : List Str) : Bool := kn.all fun c => kn.all fun h => decide (PySem.W.exmOne K (.ref (He.ga K c)) (.ref (He.ga K h)) = some (decide (c = h)))
theorem kinB_ok {K : PySem.W.Frag} {mg : Str → Option Value} {kn : List Str} (h : kinB K kn = true) (hm : ∀ c ∈ kn, mg c = some (.ref (He.ga K c))) : Kin K mg kn := fun c hc g hg Cc Cg e1 e2 => by
  rw [hm c hc] at e1; cases e1
  rw [hm g hg] at e2; cases e2
  exact of_decide_eq_true (List.all_eq_true.mp (List.all_eq_true.mp h c hc) g hg)
/-- a function of another module, under a name -/
def bltB (K : PySem.W.Frag) (x : Str) (b : String) : Bool := match PySem.W.nsIn K mainGlobals x with
  | some (some (.builtin z)) => z == b
  | _ => false
theorem bltB_ok {K : PySem.W.Frag} {h : Heap} {mg : Str → Option Value} {x : Str} {b : String} (X : K.In h) (G : h.Ns mainGlobals mg) (hb : bltB K x b = true) : mg x = some (.builtin b) := by
  unfold bltB at hb
  split at hb
  · rename_i z e
    rw [beq_iff_eq.mp hb] at e
    exact PySem.W.mg_of X G e
  · cases hb
/-- what the head tells of exceptions and imports -/
def exB (cs : List (Str × List Str)) (pe : List Str) (bl : List (Str × String)) (K : PySem.W.Frag) : Bool := (cs.all fun p => excB K p.1 p.2) && ((pe.all fun x => peB K x) && ((bl.all fun p => bltB K p.1 p.2) && kinB K (cs.map (·.1))))
theorem exB_ok {cs : List (Str × List Str)} {pe : List Str} {bl : List (Str × String)} {K : PySem.W.Frag} (h : exB cs pe bl K = true) : (∀ p ∈ cs, excB K p.1 p.2 = true) ∧ (∀ x ∈ pe, peB K x = true) ∧ (∀ p ∈ bl, bltB K p.1 p.2 = true) ∧ kinB K (cs.map (·.1)) = true := by
  obtain ⟨h1, h⟩ := Bool.and_eq_true_iff.mp h
  obtain ⟨h2, h⟩ := Bool.and_eq_true_iff.mp h
  obtain ⟨h3, h4⟩ := Bool.and_eq_true_iff.mp h
  exact ⟨List.all_eq_true.mp h1, List.all_eq_true.mp h2, List.all_eq_true.mp h3, h4⟩
/-- the code object and the table of a def -/
theorem lawTab {K : PySem.W.Frag} {h : Heap} {fa : List He.Fa} {fn : List He.DefD} {ts : List He.Tab} {tf : List He.Defn} {ex : PySem.W.Frag → Bool} {w : World} {p : He.Defn} {x : Str} {params : Arguments} {body : List Stmt} {scope : Scope} {fd : FuncData}
    (c : He.SaysX fa fn ts tf ex w h K) (X : K.In h) (hp : p ∈ tf) (F : FunD K x x params body scope [] [] (He.fAd K p) fd) :
    ∃ cc t, fd.code = .ref cc ∧ h.get? t = some { cls := .none, data := .fields #[] } ∧ K.lookup t = none ∧ PySem.W.CodeHd h cc t := by
  obtain ⟨oc, od, dV, kV, doc, pm, an, cdv, ct, osl, rfl, lk, hcd, _, _⟩ := F.ex
  obtain ⟨cc, e⟩ := He.codeIn_ref hcd
  subst e
  have e1 : He.codeOf K p = cc := He.codeOf_eq lk rfl
  refine ⟨cc, He.tabOf K cc, rfl, ?_, ?_, ?_⟩
  · have := c.empty p hp
    unfold He.cT at this
    rw [e1] at this
    exact this
  · have := c.out p hp
    unfold He.cT at this
    rw [e1] at this
    exact this
  · have := c.hd p hp
    unfold He.cT at this
    rw [e1] at this
    exact PySem.W.codeHd_of_K X this
def partY (g : Addr → Option Obj) (n : Nat) : PySem.W.Frag := He.frT g (PySem.cStatics :: He.asD g n)
def obsY (n : Nat) (fa : List He.Fa) (fn : List He.DefD) (tf : List He.Defn) (ex : PySem.W.Frag → Bool) (g : Addr → Option Obj) : He.AlX := (He.obsT fa fn [] (partY g n), ex (partY g n) && He.tabsB g tf (partY g n))
theorem saysY {n : Nat} {fa : List He.Fa} {fn : List He.DefD} {tf : List He.Defn} {ex : PySem.W.Frag → Bool} {w : World} {hp : Heap} (e : obsY n fa fn tf ex hp.get? = He.valX fn [] w) : He.SaysX fa fn [] tf ex w hp (partY hp.get? n) := by
  have eT : He.obsT fa fn [] (partY hp.get? n) = He.valT fn [] w := congrArg Prod.fst e
  have eB : (ex (partY hp.get? n) && He.tabsB hp.get? tf (partY hp.get? n)) = true := congrArg Prod.snd e
  obtain ⟨b1, b2⟩ := Bool.and_eq_true_iff.mp eB
  have each : ∀ p ∈ tf, PySem.W.codeHdIn (partY hp.get? n) (He.cT (partY hp.get? n) p).1 (He.cT (partY hp.get? n) p).2 = true ∧ ∃ ob, hp.get? (He.cT (partY hp.get? n) p).2 = some ob ∧ He.emptyTab ob = true := fun p hp1 => by
    obtain ⟨g1, g2⟩ := Bool.and_eq_true_iff.mp (List.all_eq_true.mp b2 p hp1)
    refine ⟨g1, ?_⟩
    cases q : hp.get? (He.cT (partY hp.get? n) p).2 with
    | none => rw [q] at g2; cases g2
    | some ob => rw [q] at g2; exact ⟨ob, rfl, g2⟩
  refine ⟨eT, b1, fun p h1 => (each p h1).1, fun p h1 => ?_, fun p h1 => ?_⟩
  · obtain ⟨_, ob, q, z⟩ := each p h1
    exact He.frT_none q z
  · obtain ⟨_, ob, q, z⟩ := each p h1
    rw [q, He.emptyTab_eq z]
def hookY (n : Nat) (fa : List He.Fa) (fn : List He.DefD) (tf : List He.Defn) (ex : PySem.W.Frag → Bool) : PySem.W.Hook where
  α := He.AlX
  obs := fun st => obsY n fa fn tf ex st.heap.get?
  val := fun w => He.valX fn [] w
  says := fun w hp => ∃ K : PySem.W.Frag, K.In hp ∧ He.SaysX fa fn [] tf ex w hp K
  of := fun _ _ e => ⟨_, He.frT_in, saysY e⟩
  keeps := fun _ _ _ ⟨K, inK, c⟩ k => ⟨K, PySem.W.Frag.In.keeps inK k, ⟨c.t, c.more, c.hd, c.out, fun p h1 => k _ _ (c.empty p h1)⟩⟩
theorem obsY_eq {n : Nat} {fa : List He.Fa} {fn : List He.DefD} {tf : List He.Defn} {ex : PySem.W.Frag → Bool} {g : Addr → Option Obj} {st : Shared} (e : ∀ a, g a = st.heap.get? a) : obsY n fa fn tf ex g = (hookY n fa fn tf ex).obs st := by
  have : g = st.heap.get? := funext e
  subst this
  rfl
end Ev
end

section
set_option maxHeartbeats 4000000
namespace Ev
open PySem PySem.Spec PyProof.Rows L2
open Classical
/-- nothing is claimed of it -/
theorem FunE.bad {P : Program} {w : World} {K : PySem.W.Frag} {mg : Str → Option Value} {base : Heap} {k : Nat} {x : Str} {params : Arguments} {body : List Stmt} {scope : Scope} {f : Addr} {ps : List Str}
    (F : ∃ fd, FunD K x x params body scope [] [] f fd) (gm : mg x = some (.ref f))
    (hbind : ∀ (kV doc pm : Value) (an : Option Addr) (cdv ct : Value) (us : List Value), us.length = ps.length → bindArgs (PySem.W.fnOf x x params body scope .none kV doc pm an cdv ct) ⟨us, []⟩ = pure (ps.zip us)) :
    FunE P w K mg base k x ps (fun _ _ => .bad) := by
  obtain ⟨fd, F⟩ := F
  exact ⟨f, fd, ⟨fun A outer s H args us vs ρ S ds Q E _ _ _ _ _ _ _ _ q => False.elim q⟩, gm, F.kp, F.bindsN hbind⟩
/-- a method of an own class comes to F -/
def MthE (P : Program) (w : World) (K : PySem.W.Frag) (mg : Str → Option Value) (base : Heap) (k : Nat) (C f : Addr) (ps : List Str) (F : List D → Store → Res) : Prop := ∃ fd, FnG P w K mg base k f fd ps F ∧ L2.Binds K fd ps []
theorem MthE.of {P : Program} {w : World} {K : PySem.W.Frag} {mg : Str → Option Value} {base : Heap} {nm qual : Str} {params : Arguments} {body : List Stmt} {scope : Scope} {C f : Addr} {N ps : List Str} {k nn : Nat} {own : Bool} {M : Sst}
    (F : ∃ fd, FunD K nm qual params body scope [] [] f fd) (Sc : FnScope N ps scope) (hnn : N.length = nn)
    (hbind : ∀ (kV doc pm : Value) (an : Option Addr) (cdv ct : Value) (us : List Value), us.length = ps.length → bindArgs (PySem.W.fnOf nm qual params body scope .none kV doc pm an cdv ct) ⟨us, []⟩ = pure (ps.zip us))
    (hbody : ∀ (cdv : Value) (A : Around) (outer : List Env) (s : Shared) (H : Hp) (E : XK), Room k (A.deeper (envOfC qual scope s.heap.objs.size f cdv)) → Cn (cxOf (L2.CX P w) P w K mg base N qual scope f cdv A outer s H E) → Takes (cxOf (L2.CX P w) P w K mg base N qual scope f cdv A outer s H E) (WE E) →
      PassesOwn (model P w) (cxOf (L2.CX P w) P w K mg base N qual scope f cdv A outer s H E).A (cxOf (L2.CX P w) P w K mg base N qual scope f cdv A outer s H E).env (cxOf (L2.CX P w) P w K mg base N qual scope f cdv A outer s H E).xe →
      PSs (cxOf (L2.CX P w) P w K mg base N qual scope f cdv A outer s H E) body (xS (cxOf (L2.CX P w) P w K mg base N qual scope f cdv A outer s H E) (WE E) M)) :
    MthE P w K mg base (k + 1) C f ps (runF own nn M) := by
  obtain ⟨fd, F⟩ := F
  exact ⟨fd, FunD.g F Sc hnn hbody, F.bindsN hbind⟩
/-- an own class that is made -/
def MakE (K : PySem.W.Frag) (mg : Str → Option Value) (c : Str) (C f : Addr) : Prop := mg c = some (.ref C) ∧ Mk K C f
section
variable {X : Cx} {W : WX} {j k : Nat} {ps : List Str} {F : List D → Store → Res} {x : Str} {p pos : Pos} {e : Expr} {es : List Expr} {M : Sm} {C f : Addr}
theorem x_makeE (G : MthE X.prog X.w X.K X.mg X.base k C f ps F) (mk : MakE X.K X.mg x C f) (hr : Room j X.A) (hj : k + 1 ≤ j) (cn : Cn X) (tk : Takes X W) (ha : PA X (e :: es) (xA X W M)) (hg : Gl X x := by rfl) (hdb : (x == ("__debug__" : Str)) = false := by decide) (he : starEach (e :: es) X.env = (false, eval e X.env) :: starEach es X.env := by rfl) (hpl : (backTo pos (starEach es X.env)).any (·.1) = false := by rfl) :
    PE X (.Call (.Name x p) (e :: es) [] pos) (xE X W (evA M (mkI x ps.length F))) := by
  obtain ⟨fd, g, b⟩ := G
  exact x_make g mk.2 (hr.mono hj) cn tk mk.1 b ha hg hdb he hpl
/-- a module's constant: a number -/
theorem x_gint {i : Int} (hm : ∃ t, X.mg x = some (.int i t)) (hg : Gl X x := by rfl) (hd : (x == ("__debug__" : Str)) = false := by decide) : PE X (.Name x pos) (xE X W (evC (.int i))) := by
  obtain ⟨t, hm⟩ := hm
  exact x_c (pe_glob (v := .int i) hg hm ⟨t, rfl⟩ hd) fun _ _ => .int i
/-- a module's constant: a tuple of numbers -/
theorem x_gtup {is : List Int} {a : Addr} (hm : X.mg x = some (.ref a)) (hk : TupK X.K a (is.map V.int)) (hg : Gl X x := by rfl) (hd : (x == ("__debug__" : Str)) = false := by decide) : PE X (.Name x pos) (xE X W (evC (.tup (is.map .int)))) :=
  x_c (pe_glob (v := .ref a) hg hm rfl hd) fun ρ H => .tupK hk (intDRs is)
end
/-- the table of one class -/
def eqT1 (c : Str) (F : List D → Store → Res) : EqTab := fun x => if x = c then some F else none
theorem eqOk1 {P : Program} {w : World} {K : PySem.W.Frag} {mg : Str → Option Value} {base : Heap} {k : Nat} {c m : Str} {L : List Str} {F : List D → Store → Res} (h : EqE P w K mg base k c m L F) : EqOk P w K mg base k m L (eqT1 c F) := fun x G e => by
  unfold eqT1 at e
  split at e
  · rename_i hx
    subst hx
    cases e
    exact h
  · cases e
def clsB (K : PySem.W.Frag) (c : Str) (fs : List Str) : Bool := (He.Fa.cls c).ok K && (fs.all (fun f => (He.Fa.noat c f).ok K) && (decide (PySem.W.findIn K (.ref (He.ga K c)) "__class__" = some (some (.builtin "object.__class__"))) &&
  (decide (PySem.W.specialIn K (.builtin "object.__class__") "__get__" = some (some (.builtin "getset_descriptor.__get__"))) && (decide (PySem.W.takesIn K (.builtin "object.__class__") = some true) && decide (PySem.W.mroIn K (He.ga K c) (.type "object") = some true)))))
theorem clsB_ok {K : PySem.W.Frag} {mg : Str → Option Value} {c : Str} {fs : List Str} (h : clsB K c fs = true) (m : mg c = some (.ref (He.ga K c))) : ClsE K mg c fs (He.ga K c) := by
  obtain ⟨h1, h⟩ := Bool.and_eq_true_iff.mp h
  obtain ⟨h2, h⟩ := Bool.and_eq_true_iff.mp h
  obtain ⟨h3, h⟩ := Bool.and_eq_true_iff.mp h
  obtain ⟨h4, h⟩ := Bool.and_eq_true_iff.mp h
  obtain ⟨h5, h6⟩ := Bool.and_eq_true_iff.mp h
  exact ⟨m, He.cls_ok h1, fun f hf => He.noat_ok (List.all_eq_true.mp h2 f hf), of_decide_eq_true h3, of_decide_eq_true h4, of_decide_eq_true h5, of_decide_eq_true h6⟩
def isB (K : PySem.W.Frag) (c : Str) (L : List Str) : Bool := tyNs.all (fun T => decide (PySem.W.kitOne K (.type T) (.ref (He.ga K c)) = some false)) && L.all fun c' => decide (PySem.W.kitOne K (.ref (He.ga K c')) (.ref (He.ga K c)) = some (decide (c' = c)))
theorem isB_ok {K : PySem.W.Frag} {mg : Str → Option Value} {c : Str} {L : List Str} (h : isB K c L = true) (m : mg c = some (.ref (He.ga K c))) (hL : ∀ c' ∈ L, ∃ fs, ClsE K mg c' fs (He.ga K c')) : IsE K mg c L (He.ga K c) := by
  obtain ⟨h1, h2⟩ := Bool.and_eq_true_iff.mp h
  exact ⟨m, fun T hT => of_decide_eq_true (List.all_eq_true.mp h1 T hT), fun c' hc => let ⟨fs, q⟩ := hL c' hc; ⟨_, fs, q, of_decide_eq_true (List.all_eq_true.mp h2 c' hc)⟩⟩
def eqB (K : PySem.W.Frag) (c m : Str) (L : List Str) : Bool := (He.Fa.meth c m).ok K && (tyNs.all (fun T => PySem.W.notFirst K (He.ga K c) (.type T)) && L.all fun c' => PySem.W.notFirst K (He.ga K c) (.ref (He.ga K c')))
theorem eqB_ok {P : Program} {w : World} {K : PySem.W.Frag} {mg : Str → Option Value} {base : Heap} {k : Nat} {c m : Str} {L : List Str} {F : List D → Store → Res} {ps : List Str} (h : eqB K c m L = true) (hm : mg c = some (.ref (He.ga K c))) (hL : ∀ c' ∈ L, ∃ fs, ClsE K mg c' fs (He.ga K c'))
    (G : MthE P w K mg base k (He.ga K c) (He.ma K (He.ga K c) m) ps F) (hp : ps.length = 2) : EqE P w K mg base k c m L F := by
  obtain ⟨h1, h⟩ := Bool.and_eq_true_iff.mp h
  obtain ⟨h2, h3⟩ := Bool.and_eq_true_iff.mp h
  obtain ⟨fd, g, b⟩ := G
  have M := He.meth_ok h1
  exact ⟨⟨_, _, fd, ps, hm, g, hp, M.at_, M.fn, b, fun T hT => List.all_eq_true.mp h2 T hT, fun c' hc => let ⟨fs, q⟩ := hL c' hc; ⟨_, fs, q, List.all_eq_true.mp h3 c' hc⟩⟩⟩
/-- a tuple of numbers in the written part, under a name -/
def ktupB (K : PySem.W.Frag) (x : Str) (is : List Int) : Bool := match K.lookup (He.ga K x) with
  | some ⟨.type "tuple", _, .seq its _, _⟩ => decide (its.size ≤ 1000) && decide (its.toList.map (fun u => match u with | .int i _ => some i | _ => none) = is.map some)
  | _ => false
theorem ints_v : ∀ (us : List Value) (is : List Int), us.map (fun u => match u with | .int i _ => some i | _ => none) = is.map some → Vals (is.map V.int) us
  | [], [], _ => .nil
  | [], i :: is, h => by simp at h
  | u :: us, [], h => by simp at h
  | u :: us, i :: is, h => by
    simp only [List.map_cons, List.cons.injEq] at h
    refine .cons ?_ (ints_v us is h.2)
    obtain ⟨h1, _⟩ := h
    cases u <;> simp at h1
    subst h1
    exact ⟨_, rfl⟩
theorem ktupB_ok {K : PySem.W.Frag} {x : Str} {is : List Int} (h : ktupB K x is = true) : TupK K (He.ga K x) (is.map V.int) := by
  unfold ktupB at h
  split at h
  · rename_i dd its n sl e
    obtain ⟨h1, h2⟩ := Bool.and_eq_true_iff.mp h
    refine ⟨_, its, n, e, rfl, rfl, ?_, ints_v _ _ (of_decide_eq_true h2)⟩
    have := of_decide_eq_true h1
    rw [sizeLine_eq]
    omega
  · cases h
/-- what the head tells of the classes and the constants -/
def kxB (cls : List (Str × List Str)) (iss : List (Str × List Str)) (eqs : List (Str × Str × List Str)) (mks : List Str) (tups : List (Str × List Int)) (K : PySem.W.Frag) : Bool :=
  (cls.all fun p => clsB K p.1 p.2) && ((iss.all fun p => isB K p.1 p.2) && ((eqs.all fun p => eqB K p.1 p.2.1 p.2.2) && ((mks.all fun c => (He.Fa.mkr c).ok K) && tups.all fun p => ktupB K p.1 p.2)))
theorem kxB_ok {cls : List (Str × List Str)} {iss : List (Str × List Str)} {eqs : List (Str × Str × List Str)} {mks : List Str} {tups : List (Str × List Int)} {K : PySem.W.Frag} (h : kxB cls iss eqs mks tups K = true) :
    (∀ p ∈ cls, clsB K p.1 p.2 = true) ∧ (∀ p ∈ iss, isB K p.1 p.2 = true) ∧ (∀ p ∈ eqs, eqB K p.1 p.2.1 p.2.2 = true) ∧ (∀ c ∈ mks, (He.Fa.mkr c).ok K = true) ∧ ∀ p ∈ tups, ktupB K p.1 p.2 = true := by
  obtain ⟨h1, h⟩ := Bool.and_eq_true_iff.mp h
  obtain ⟨h2, h⟩ := Bool.and_eq_true_iff.mp h
  obtain ⟨h3, h⟩ := Bool.and_eq_true_iff.mp h
  obtain ⟨h4, h5⟩ := Bool.and_eq_true_iff.mp h
  exact ⟨List.all_eq_true.mp h1, List.all_eq_true.mp h2, List.all_eq_true.mp h3, List.all_eq_true.mp h4, List.all_eq_true.mp h5⟩
end Ev
end

section
set_option maxHeartbeats 4000000
namespace Ev
open PySem PySem.Spec PyProof.Rows L2
/-- the numbers of a pen -/
structure PenK where
  f : Int
  m : Int
  k1 : Int
  k2 : Int
  e : Int
  q : Int
/-- the classes of errors, the lambdas -/
structure TabK where
  kn : List Str
  tab : LamI → List D → Store → Res
section
variable {σ σ1 : Env1} {S S1 S2 : Store}
def kB (B : Sm) (f : D → D → Store → Res) (σ : Env1) : D → Store → Res := fun x S => (B σ S).bind (f x)
def kTup (d : D) : List D → Store → Res := fun xs S => .ok (.tup (d :: xs)) S
def kCons (As : Sm) (σ : Env1) : D → Store → Res := fun d S => (As σ S).bindA (kTup d)
def kIf (A B : Sm) (σ : Env1) : D → Store → Res := fun d S => match d with | .bl true => A σ S | .bl false => B σ S | _ => .bad
def kAndT (B : Sm) (σ : Env1) : D → Store → Res := fun d S => match d with | .bl true => B σ S | .bl false => .ok (.bl false) S | _ => .bad
def kOrT (B : Sm) (σ : Env1) : D → Store → Res := fun d S => match d with | .bl true => .ok (.bl true) S | .bl false => B σ S | _ => .bad
def kAnd (B : Sm) (σ : Env1) : D → Store → Res := fun d S => match truthD d S with | some true => B σ S | some false => .ok d S | none => .bad
def kOr (B : Sm) (σ : Env1) : D → Store → Res := fun d S => match truthD d S with | some true => .ok d S | some false => B σ S | none => .bad
noncomputable def kLc (own : Bool) (items : Itms) (T : Tgt) (C E : Sm) (vs : List Nat) (σ : Env1) : D → Store → Res := fun d S => match items d S with
  | some xs => (match lcGo (items d) xs T C E (wipeD σ vs) xs S with
    | .ok (.tup ys) S2 => mkL own ys S2
    | _ => .bad)
  | none => .bad
def kMth (M : Sm) (isT : D → Store → Bool) (f : D → List D → Store → Res) (σ : Env1) : D → Store → Res := fun d S => if isT d S then (M σ S).bindA (f d) else .bad
def SRes.seq (r : SRes) (N : Sst) : SRes := match r with | .nx σ S => N σ S | r => r
def kRet : D → Store → SRes := fun d S => .rt d S
def kExpr (σ : Env1) : D → Store → SRes := fun _ S => .nx σ S
def kSet (i : Nat) (σ : Env1) : D → Store → SRes := fun d S => .nx (σ.set i (some d)) S
def kAsg (T : Tgt) (σ : Env1) : D → Store → SRes := fun d S => match T d σ with | some σ1 => .nx σ1 S | none => .bad
def kSIf (M N : Sst) (σ : Env1) : D → Store → SRes := fun d S => match d with | .bl true => M σ S | .bl false => N σ S | _ => .bad
def kPar2 (i j : Nat) (σ : Env1) : D → Store → SRes := fun d S => match d with | .tup [x, y] => .nx ((σ.set i (some x)).set j (some y)) S | _ => .bad
def kPar3 (i j l : Nat) (σ : Env1) : D → Store → SRes := fun d S => match d with | .tup [x, y, z] => .nx (((σ.set i (some x)).set j (some y)).set l (some z)) S | _ => .bad
def kSub3 (σ : Env1) (v o : D) : D → Store → SRes := fun i S => match dSet o i v S with | some S4 => .nx σ S4 | none => .bad
def kSub2 (I : Sm) (σ : Env1) (v : D) : D → Store → SRes := fun o S => (I σ S).go σ (kSub3 σ v o)
def kSub1 (O I : Sm) (σ : Env1) : D → Store → SRes := fun v S => (O σ S).go σ (kSub2 I σ v)
noncomputable def kFor (items : Itms) (T : Tgt) (B : Sst) (σ : Env1) : D → Store → SRes := fun d S => match items d S with | some xs => forGo (items d) xs T B xs σ S | none => .bad
def kRaise (c : Str) (fs : List Str) (σ : Env1) : D → Store → SRes := fun d S => match d with | .tup ds => if ds.length = fs.length then .exc c fs.reverse ds.reverse σ S else .bad | _ => .bad
@[simp] theorem bind_ok {d : D} {k : D → Store → Res} : (Res.ok d S).bind k = k d S := Eq.trans rfl rfl
@[simp] theorem bind_exc {c fs vs} {k : D → Store → Res} : (Res.exc c fs vs S).bind k = .exc c fs vs S := Eq.trans rfl rfl
@[simp] theorem bind_bad {k : D → Store → Res} : Res.bad.bind k = .bad := Eq.trans rfl rfl
@[simp] theorem bindA_ok {ds : List D} {k : List D → Store → Res} : (Res.ok (.tup ds) S).bindA k = k ds S := Eq.trans rfl rfl
@[simp] theorem bindA_exc {c fs vs} {k : List D → Store → Res} : (Res.exc c fs vs S).bindA k = .exc c fs vs S := Eq.trans rfl rfl
@[simp] theorem bindA_bad {k : List D → Store → Res} : Res.bad.bindA k = .bad := Eq.trans rfl rfl
@[simp] theorem go_ok {d : D} {k : D → Store → SRes} : (Res.ok d S).go σ k = k d S := Eq.trans rfl rfl
@[simp] theorem go_exc {c fs vs} {k : D → Store → SRes} : (Res.exc c fs vs S).go σ k = .exc c fs vs σ S := Eq.trans rfl rfl
@[simp] theorem seq_nx {N : Sst} : (SRes.nx σ S).seq N = N σ S := Eq.trans rfl rfl
@[simp] theorem seq_bk {N : Sst} : (SRes.bk σ S).seq N = .bk σ S := Eq.trans rfl rfl
@[simp] theorem seq_ct {N : Sst} : (SRes.ct σ S).seq N = .ct σ S := Eq.trans rfl rfl
@[simp] theorem seq_rt {d} {N : Sst} : (SRes.rt d S).seq N = .rt d S := Eq.trans rfl rfl
@[simp] theorem seq_exc {c fs vs} {N : Sst} : (SRes.exc c fs vs σ S).seq N = .exc c fs vs σ S := Eq.trans rfl rfl
@[simp] theorem seq_bad {N : Sst} : SRes.bad.seq N = .bad := Eq.trans rfl rfl
@[simp] theorem p_var {i : Nat} : evVar i σ S = (match σ[i]? with | some (some d) => .ok d S | _ => .bad) := Eq.trans rfl rfl
@[simp] theorem p_c {d : D} : evC d σ S = .ok d S := Eq.trans rfl rfl
@[simp] theorem p_B {A B : Sm} {f : D → D → Store → Res} : evB A B f σ S = (A σ S).bind (kB B f σ) := Eq.trans rfl rfl
@[simp] theorem kB_e {B : Sm} {f : D → D → Store → Res} {x} : kB B f σ x S = (B σ S).bind (f x) := Eq.trans rfl rfl
@[simp] theorem p_U {A : Sm} {f : D → Store → Res} : evU A f σ S = (A σ S).bind f := Eq.trans rfl rfl
@[simp] theorem p_nil : evNil σ S = .ok (.tup []) S := Eq.trans rfl rfl
@[simp] theorem p_cons {A As : Sm} : evCons A As σ S = (A σ S).bind (kCons As σ) := by
  unfold evCons Res.bind
  cases A σ S with
  | ok d S1 =>
    show (match As σ S1 with | .ok d S => _ | .exc c fs vs S => _ | .bad => _) = (As σ S1).bindA (kTup d)
    cases As σ S1 with
    | ok d S1 => cases d <;> rfl
    | _ => rfl
  | _ => rfl
@[simp] theorem kCons_e {As : Sm} {d} : kCons As σ d S = (As σ S).bindA (kTup d) := Eq.trans rfl rfl
@[simp] theorem kTup_e {d xs} : kTup d xs S = .ok (.tup (d :: xs)) S := Eq.trans rfl rfl
@[simp] theorem p_A {M : Sm} {f : List D → Store → Res} : evA M f σ S = (M σ S).bindA f := Eq.trans rfl rfl
@[simp] theorem p_if {C A B : Sm} : evIf C A B σ S = (C σ S).bind (kIf A B σ) := Eq.trans rfl rfl
@[simp] theorem kIf_t {A B : Sm} : kIf A B σ (.bl true) S = A σ S := Eq.trans rfl rfl
@[simp] theorem kIf_f {A B : Sm} : kIf A B σ (.bl false) S = B σ S := Eq.trans rfl rfl
@[simp] theorem p_andT {A B : Sm} : evAndT A B σ S = (A σ S).bind (kAndT B σ) := Eq.trans rfl rfl
@[simp] theorem kAndT_t {B : Sm} : kAndT B σ (.bl true) S = B σ S := Eq.trans rfl rfl
@[simp] theorem kAndT_f {B : Sm} : kAndT B σ (.bl false) S = .ok (.bl false) S := Eq.trans rfl rfl
@[simp] theorem p_orT {A B : Sm} : evOrT A B σ S = (A σ S).bind (kOrT B σ) := Eq.trans rfl rfl
@[simp] theorem kOrT_t {B : Sm} : kOrT B σ (.bl true) S = .ok (.bl true) S := Eq.trans rfl rfl
@[simp] theorem kOrT_f {B : Sm} : kOrT B σ (.bl false) S = B σ S := Eq.trans rfl rfl
@[simp] theorem p_and {A B : Sm} : evAnd A B σ S = (A σ S).bind (kAnd B σ) := Eq.trans rfl rfl
@[simp] theorem kAnd_e {B : Sm} {d} : kAnd B σ d S = (match truthD d S with | some true => B σ S | some false => .ok d S | none => .bad) := Eq.trans rfl rfl
@[simp] theorem p_or {A B : Sm} : evOr A B σ S = (A σ S).bind (kOr B σ) := Eq.trans rfl rfl
@[simp] theorem kOr_e {B : Sm} {d} : kOr B σ d S = (match truthD d S with | some true => .ok d S | some false => B σ S | none => .bad) := Eq.trans rfl rfl
@[simp] theorem q_nil : sNil σ S = .nx σ S := Eq.trans rfl rfl
@[simp] theorem q_pass : sPass σ S = .nx σ S := Eq.trans rfl rfl
@[simp] theorem q_break : sBreak σ S = .bk σ S := Eq.trans rfl rfl
@[simp] theorem q_cont : sCont σ S = .ct σ S := Eq.trans rfl rfl
@[simp] theorem q_seq {M N : Sst} : sSeq M N σ S = (M σ S).seq N := Eq.trans rfl rfl
@[simp] theorem q_expr {A : Sm} : sExpr A σ S = (A σ S).go σ (kExpr σ) := Eq.trans rfl rfl
@[simp] theorem kExpr_e {d} : kExpr σ d S = .nx σ S := Eq.trans rfl rfl
@[simp] theorem q_ret {A : Sm} : sRet A σ S = (A σ S).go σ kRet := Eq.trans rfl rfl
@[simp] theorem kRet_e {d} : kRet d S = .rt d S := Eq.trans rfl rfl
@[simp] theorem q_retN : sRetN σ S = .rt .non S := Eq.trans rfl rfl
@[simp] theorem q_if {C : Sm} {M N : Sst} : sIf C M N σ S = (C σ S).go σ (kSIf M N σ) := Eq.trans rfl rfl
@[simp] theorem kSIf_t {M N : Sst} : kSIf M N σ (.bl true) S = M σ S := Eq.trans rfl rfl
@[simp] theorem kSIf_f {M N : Sst} : kSIf M N σ (.bl false) S = N σ S := Eq.trans rfl rfl
@[simp] theorem q_set {i : Nat} {A : Sm} : sSet i A σ S = (A σ S).go σ (kSet i σ) := Eq.trans rfl rfl
@[simp] theorem kSet_e {i d} : kSet i σ d S = .nx (σ.set i (some d)) S := Eq.trans rfl rfl
@[simp] theorem q_asg {T : Tgt} {A : Sm} : sAsg T A σ S = (A σ S).go σ (kAsg T σ) := Eq.trans rfl rfl
@[simp] theorem kAsg_e {T d} : kAsg T σ d S = (match T d σ with | some σ1 => .nx σ1 S | none => .bad) := Eq.trans rfl rfl
@[simp] theorem q_par2 {i j : Nat} {M : Sm} : sPar2 i j M σ S = (M σ S).go σ (kPar2 i j σ) := by
  unfold sPar2 Res.go
  cases M σ S with
  | ok d S1 => cases d with
    | tup ds => rcases ds with _ | ⟨x, _ | ⟨y, _ | ⟨z, r⟩⟩⟩ <;> rfl
    | _ => rfl
  | _ => rfl
@[simp] theorem kPar2_e {i j x y} : kPar2 i j σ (.tup [x, y]) S = .nx ((σ.set i (some x)).set j (some y)) S := Eq.trans rfl rfl
@[simp] theorem q_par3 {i j l : Nat} {M : Sm} : sPar3 i j l M σ S = (M σ S).go σ (kPar3 i j l σ) := by
  unfold sPar3 Res.go
  cases M σ S with
  | ok d S1 => cases d with
    | tup ds => rcases ds with _ | ⟨x, _ | ⟨y, _ | ⟨z, _ | ⟨u, r⟩⟩⟩⟩ <;> rfl
    | _ => rfl
  | _ => rfl
@[simp] theorem kPar3_e {i j l x y z} : kPar3 i j l σ (.tup [x, y, z]) S = .nx (((σ.set i (some x)).set j (some y)).set l (some z)) S := Eq.trans rfl rfl
@[simp] theorem q_sub {O I A : Sm} : sSub O I A σ S = (A σ S).go σ (kSub1 O I σ) := Eq.trans rfl rfl
@[simp] theorem kSub1_e {O I : Sm} {v} : kSub1 O I σ v S = (O σ S).go σ (kSub2 I σ v) := Eq.trans rfl rfl
@[simp] theorem kSub2_e {I : Sm} {v o} : kSub2 I σ v o S = (I σ S).go σ (kSub3 σ v o) := Eq.trans rfl rfl
@[simp] theorem kSub3_e {v o i} : kSub3 σ v o i S = (match dSet o i v S with | some S4 => .nx σ S4 | none => .bad) := Eq.trans rfl rfl
@[simp] theorem q_for {A : Sm} {items : Itms} {T : Tgt} {B : Sst} : sFor A items T B σ S = (A σ S).go σ (kFor items T B σ) := Eq.trans rfl rfl
@[simp] theorem kFor_e {items : Itms} {T : Tgt} {B : Sst} {d} : kFor items T B σ d S = (match items d S with | some xs => forGo (items d) xs T B xs σ S | none => .bad) := Eq.trans rfl rfl
@[simp] theorem q_raise {c fs} {M : Sm} : sRaise c fs M σ S = (M σ S).go σ (kRaise c fs σ) := Eq.trans rfl rfl
@[simp] theorem kRaise_e {c fs ds} : kRaise c fs σ (.tup ds) S = if ds.length = fs.length then .exc c fs.reverse ds.reverse σ S else .bad := Eq.trans rfl rfl
@[simp] theorem p_lc {own : Bool} {A : Sm} {items : Itms} {T : Tgt} {C E : Sm} {vs : List Nat} : evLc own A items T C E vs σ S = (A σ S).bind (kLc own items T C E vs σ) := Eq.trans rfl rfl
@[simp] theorem kLc_e {own : Bool} {items : Itms} {T : Tgt} {C E : Sm} {vs : List Nat} {d} : kLc own items T C E vs σ d S = (match items d S with
  | some xs => (match lcGo (items d) xs T C E (wipeD σ vs) xs S with
    | .ok (.tup ys) S2 => mkL own ys S2
    | _ => .bad)
  | none => .bad) := Eq.trans rfl rfl
@[simp] theorem p_mth {A M : Sm} {isT : D → Store → Bool} {f : D → List D → Store → Res} : evMth A M isT f σ S = (A σ S).bind (kMth M isT f σ) := Eq.trans rfl rfl
@[simp] theorem kMth_e {M : Sm} {isT : D → Store → Bool} {f : D → List D → Store → Res} {d} : kMth M isT f σ d S = if isT d S then (M σ S).bindA (f d) else .bad := Eq.trans rfl rfl
@[simp] theorem p_callF {n : Nat} {dds ds : List D} {F : List D → Store → Res} : callF n dds F ds S = if (ds ++ dds).length = n then F (ds ++ dds) S else .bad := Eq.trans rfl rfl
@[simp] theorem p_disp {own : Bool} {prs : List (Sm × Sm)} : evDisp own prs σ S = (evPairs prs σ S).bindA (dDisp own) := Eq.trans rfl rfl
@[simp] theorem p_pairs0 : evPairs [] = evNil := Eq.trans rfl rfl
@[simp] theorem p_pairs1 {p : Sm × Sm} {r} : evPairs (p :: r) = evCons p.1 (evCons p.2 (evPairs r)) := Eq.trans rfl rfl
@[simp] theorem p_dict0 {own : Bool} : evDict0 own σ S = mkDk own ([], []) S := Eq.trans rfl rfl
@[simp] theorem p_one {f : D → Store → Res} {d : D} : one f [d] S = f d S := Eq.trans rfl rfl
@[simp] theorem p_two {f : D → D → Store → Res} {d e : D} : twoL f [d, e] S = f d e S := Eq.trans rfl rfl
@[simp] theorem p_repr1 {d : D} : dRepr1 [d] S = dRepr d S := Eq.trans rfl rfl
@[simp] theorem seq_t {xs} : seqOf (.tup xs) S = some xs := Eq.trans rfl rfl
@[simp] theorem seq_l {xs} : seqOf (.lst xs) S = some xs := Eq.trans rfl rfl
@[simp] theorem seq_s {xs} : seqOf (.scr xs) S = some xs := Eq.trans rfl rfl
@[simp] theorem seq_i {i} : seqOf (.int i) S = none := Eq.trans rfl rfl
@[simp] theorem seq_n : seqOf .non S = none := Eq.trans rfl rfl
@[simp] theorem seq_b {b} : seqOf (.bl b) S = none := Eq.trans rfl rfl
@[simp] theorem seq_st {x} : seqOf (.str x) S = none := Eq.trans rfl rfl
@[simp] theorem seq_dk {ks vs} : seqOf (.dk ks vs) S = none := Eq.trans rfl rfl
@[simp] theorem seq_r {n} : seqOf (.ref n) S = (match S.cs[n]? with | some (.lst xs) => some xs | some (.scr xs) => some xs | _ => none) := Eq.trans rfl rfl
@[simp] theorem mkL_f {xs} : mkL false xs S = if xs.length ≤ 16777216 then .ok (.lst xs) S else .bad := Eq.trans rfl rfl
@[simp] theorem mkT_e {xs} : mkT xs S = if xs.length ≤ 16777216 then .ok (.tup xs) S else .bad := Eq.trans rfl rfl
@[simp] theorem mkDk_f {kvs : List Key × List D} : mkDk false kvs S = .ok (.dk kvs.1 kvs.2) S := Eq.trans rfl rfl
@[simp] theorem add_i {own i j} : dAdd own (.int i) (.int j) S = .ok (.int (i + j)) S := Eq.trans rfl rfl
@[simp] theorem add_t {own xs ys} : dAdd own (.tup xs) (.tup ys) S = mkT (xs ++ ys) S := Eq.trans rfl rfl
@[simp] theorem add_l {own xs ys} : dAdd own (.lst xs) (.lst ys) S = mkL own (xs ++ ys) S := Eq.trans rfl rfl
@[simp] theorem sub_i {i j} : dSub (.int i) (.int j) S = .ok (.int (i - j)) S := Eq.trans rfl rfl
@[simp] theorem mul_i {own i j} : dMul own (.int i) (.int j) S = if i.natAbs.log2 + j.natAbs.log2 < 1000000 then .ok (.int (i * j)) S else .bad := Eq.trans rfl rfl
@[simp] theorem mod_i {i j} : dMod (.int i) (.int j) S = if 0 < j then .ok (.int (i % j)) S else .bad := Eq.trans rfl rfl
@[simp] theorem div_i {i j} : dDiv (.int i) (.int j) S = if 0 < j ∧ j.natAbs.log2 < 9000 then .ok (.int (i / j)) S else if j < 0 ∧ j.natAbs < 1073741824 then .ok (.int (i.fdiv j)) S else .bad := Eq.trans rfl rfl
@[simp] theorem pow_i {i j} : dPow (.int i) (.int j) S = if 0 ≤ j ∧ j ≤ 1000000 ∧ i.natAbs < 18446744073709551616 then .ok (.int (i ^ j.toNat)) S else .bad := Eq.trans rfl rfl
@[simp] theorem neg_i {i} : dNeg (.int i) S = .ok (.int (-i)) S := Eq.trans rfl rfl
@[simp] theorem cmp_i {p i j} : dCmp p (.int i) (.int j) S = .ok (.bl (p i j)) S := Eq.trans rfl rfl
@[simp] theorem int_i {i} : dInt (.int i) S = .ok (.int i) S := Eq.trans rfl rfl
@[simp] theorem int_b {b} : dInt (.bl b) S = .ok (.int (if b then 1 else 0)) S := Eq.trans rfl rfl
@[simp] theorem abs_i {i} : dAbs (.int i) S = .ok (.int (if i < 0 then -i else i)) S := Eq.trans rfl rfl
@[simp] theorem gcd_i {i j} : dGcd (.int i) (.int j) S = .ok (.int ((Nat.gcd i.natAbs j.natAbs : Nat) : Int)) S := Eq.trans rfl rfl
@[simp] theorem bits_i {i} : dBits (.int i) S = .ok (.int (Builtin.Int.intBits i : Nat)) S := Eq.trans rfl rfl
@[simp] theorem not_b {b} : dNot (.bl b) S = .ok (.bl (!b)) S := Eq.trans rfl rfl
theorem dEq_int (neg : Bool) (i j : Int) (S : Store) : dEq neg (.int i) (.int j) S = .ok (.bl (if neg then !decide (i = j) else decide (i = j))) S := by
  have e : PyData.eqv (py (.int i)) (py (.int j)) = decide (i = j) := by
    simp only [py]
    first
      | rfl
      | (simp [PyData.eqv]; done)
      | (unfold PyData.eqv; simp [BEq.beq]; done)
  have s1 : ∀ i : Int, okEq (.int i) = true := fun i => by
    simp only [okEq, isData, py]
    first
      | rfl
      | (simp [SeqAt.shaped]; done)
  show dEqD neg _ _ _ = _
  unfold dEqD
  simp only [res, s1, Bool.and_self, if_true, e]
@[simp] theorem eq_ss {i j} : dEq false (.str i) (.str j) S = .ok (.bl (decide (i = j))) S := Eq.trans rfl rfl
@[simp] theorem ne_ss {i j} : dEq true (.str i) (.str j) S = .ok (.bl (!decide (i = j))) S := Eq.trans rfl rfl
@[simp] theorem eq_i {i j} : dEq false (.int i) (.int j) S = .ok (.bl (decide (i = j))) S := by rw [dEq_int]; rfl
@[simp] theorem ne_i {i j} : dEq true (.int i) (.int j) S = .ok (.bl (!decide (i = j))) S := by rw [dEq_int]; rfl
@[simp] theorem tru_n : truthD .non S = some false := Eq.trans rfl rfl
@[simp] theorem tru_b {b} : truthD (.bl b) S = some b := Eq.trans rfl rfl
@[simp] theorem tru_i {i} : truthD (.int i) S = some (i != 0) := Eq.trans rfl rfl
@[simp] theorem tru_t {xs} : truthD (.tup xs) S = some (!xs.isEmpty) := Eq.trans rfl rfl
@[simp] theorem tru_l {xs} : truthD (.lst xs) S = some (!xs.isEmpty) := Eq.trans rfl rfl
@[simp] theorem tru_dk {ks vs} : truthD (.dk ks vs) S = some (!vs.isEmpty) := Eq.trans rfl rfl
@[simp] theorem p_tru {d} : dTru d S = (match truthD d S with | some k => .ok (.bl k) S | none => .bad) := Eq.trans rfl rfl
@[simp] theorem p_notV {d} : dNotV d S = (match truthD d S with | some k => .ok (.bl (!k)) S | none => .bad) := Eq.trans rfl rfl
@[simp] theorem len_t {xs} : dLen (.tup xs) S = .ok (.int xs.length) S := Eq.trans rfl rfl
@[simp] theorem len_l {xs} : dLen (.lst xs) S = .ok (.int xs.length) S := Eq.trans rfl rfl
@[simp] theorem len_s {xs} : dLen (.scr xs) S = .ok (.int xs.length) S := Eq.trans rfl rfl
@[simp] theorem len_dk {ks vs} : dLen (.dk ks vs) S = .ok (.int ks.length) S := Eq.trans rfl rfl
@[simp] theorem tup_t {xs} : dTuple (.tup xs) S = .ok (.tup xs) S := Eq.trans rfl rfl
@[simp] theorem tup_l {xs} : dTuple (.lst xs) S = mkT xs S := Eq.trans rfl rfl
@[simp] theorem tup_s {xs} : dTuple (.scr xs) S = mkT xs S := Eq.trans rfl rfl
@[simp] theorem lst_t {own xs} : dList own (.tup xs) S = mkL own xs S := Eq.trans rfl rfl
@[simp] theorem lst_l {own xs} : dList own (.lst xs) S = mkL own xs S := Eq.trans rfl rfl
@[simp] theorem lst_s {own xs} : dList own (.scr xs) S = mkL own xs S := Eq.trans rfl rfl
@[simp] theorem ix_i {x : D} {i} : dIx x (.int i) S = (match seqOf x S with
    | some xs => (match atI xs i with
      | some d => .ok d S
      | none => .bad)
    | none => (match x with
      | .str z => (match atI z.cps.toList i with
        | some c => if z.length ≤ 16777216 then .ok (.str ⟨#[c]⟩) S else .bad
        | none => .bad)
      | _ => .bad)) := Eq.trans rfl rfl
theorem at_nat {α : Type} (xs : List α) (k : Nat) : atI xs (k : Int) = xs[k]? := by
  unfold atI ixN
  by_cases h : k < xs.length
  · simp [h]
  · simp [h, List.getElem?_eq_none (Nat.le_of_not_lt h)]
@[simp] theorem at_0 {x : D} {xs} : atI (x :: xs) 0 = some x := at_nat (x :: xs) 0
@[simp] theorem at_1 {x y : D} {xs} : atI (x :: y :: xs) 1 = some y := at_nat (x :: y :: xs) 1
@[simp] theorem at_2 {x y z : D} {xs} : atI (x :: y :: z :: xs) 2 = some z := at_nat (x :: y :: z :: xs) 2
@[simp] theorem tg_n {i d} : tgN i d σ = some (σ.set i (some d)) := Eq.trans rfl rfl
@[simp] theorem tg_nil : tgNil [] σ = some σ := Eq.trans rfl rfl
@[simp] theorem tg_cons {T Ts d r} : tgCons T Ts (d :: r) σ = (match T d σ with | some σ1 => Ts r σ1 | none => none) := Eq.trans rfl rfl
@[simp] theorem tg_tup {n Ts xs} : tgTup n Ts (.tup xs) σ = if xs.length = n then Ts xs σ else none := Eq.trans rfl rfl
@[simp] theorem rg1 {j} : iRg1 (.tup [.int j]) S = if big62 j then some (rngL 0 j.toNat) else none := Eq.trans rfl rfl
@[simp] theorem rg2 {i j} : iRg2 (.tup [.int i, .int j]) S = if big62 i && big62 j then some (rngL i (j - i).toNat) else none := Eq.trans rfl rfl
@[simp] theorem pu_non : D.pure .non = true := by simp [D.pure]
@[simp] theorem pu_bl {b} : D.pure (.bl b) = true := by simp [D.pure]
@[simp] theorem pu_int {b} : D.pure (.int b) = true := by simp [D.pure]
@[simp] theorem pu_str {b} : D.pure (.str b) = true := by simp [D.pure]
@[simp] theorem pu_ty {b} : D.pure (.ty b) = true := by simp [D.pure]
@[simp] theorem pu_tup {xs} : D.pure (.tup xs) = D.pures xs := by simp [D.pure]
@[simp] theorem pu_lst {xs} : D.pure (.lst xs) = D.pures xs := by simp [D.pure]
@[simp] theorem pu_scr {xs} : D.pure (.scr xs) = D.pures xs := by simp [D.pure]
@[simp] theorem pu_dk {ks xs} : D.pure (.dk ks xs) = D.pures xs := by simp [D.pure]
@[simp] theorem pu_dt {ks xs} : D.pure (.dt ks xs) = D.pures xs := by simp [D.pure]
@[simp] theorem pus_nil : D.pures [] = true := by simp [D.pures]
@[simp] theorem pus_cons {x xs} : D.pures (x :: xs) = (D.pure x && D.pures xs) := by simp [D.pures]
@[simp] theorem pus_app {xs ys} : D.pures (xs ++ ys) = (D.pures xs && D.pures ys) := pures_append
@[simp] theorem pus_int (ns : List Int) : D.pures (ns.map D.int) = true := pures_iff.mpr fun x hx => by
  obtain ⟨i, _, rfl⟩ := List.mem_map.mp hx
  rfl
theorem frz_pure (S : Store) (n : Nat) : ∀ d : D, d.pure = true → frz S n d = d := by
  intro d
  exact D.rec (motive_1 := fun d => d.pure = true → frz S n d = d) (motive_2 := fun ds => D.pures ds = true → frzs S n ds = ds)
    (fun _ => by simp [frz]) (fun _ _ => by simp [frz]) (fun _ _ => by simp [frz]) (fun _ _ => by simp [frz]) (fun _ _ => by simp [frz])
    (fun xs ih h => by simp [frz, ih (by simpa [D.pure] using h)]) (fun xs ih h => by simp [frz, ih (by simpa [D.pure] using h)]) (fun xs ih h => by simp [frz, ih (by simpa [D.pure] using h)])
    (fun ks vs ih h => by simp [frz, ih (by simpa [D.pure] using h)]) (fun ks vs ih h => by simp [frz, ih (by simpa [D.pure] using h)]) (fun c fs vs ih h => by simp [frz, ih (by simpa [D.pure] using h)]) (fun c fs vs ih h => by simp [D.pure] at h)
    (fun l ns h => by simp [frz]) (fun k h => by simp [D.pure] at h) (fun k h => by simp [D.pure] at h)
    (fun _ => by simp [frzs]) (fun x xs h1 h2 h => by
      obtain ⟨a, b⟩ := Bool.and_eq_true_iff.mp (show (x.pure && D.pures xs) = true by simpa [D.pures] using h)
      simp [frzs, h1 a, h2 b]) d
@[simp] theorem frz_non {n} : frz S n .non = .non := by simp [frz]
@[simp] theorem frz_bl {n b} : frz S n (.bl b) = .bl b := by simp [frz]
@[simp] theorem frz_int {n b} : frz S n (.int b) = .int b := by simp [frz]
@[simp] theorem frz_str {n b} : frz S n (.str b) = .str b := by simp [frz]
@[simp] theorem frz_tup {n xs} : frz S n (.tup xs) = .tup (frzs S n xs) := by simp [frz]
@[simp] theorem frz_lst {n xs} : frz S n (.lst xs) = .lst (frzs S n xs) := by simp [frz]
@[simp] theorem frz_scr {n xs} : frz S n (.scr xs) = .scr (frzs S n xs) := by simp [frz]
@[simp] theorem frz_dk {n ks xs} : frz S n (.dk ks xs) = .dk ks (frzs S n xs) := by simp [frz]
@[simp] theorem frzs_nil {n} : frzs S n [] = [] := by simp [frzs]
@[simp] theorem frzs_cons {n x xs} : frzs S n (x :: xs) = frz S n x :: frzs S n xs := by simp [frzs]
theorem frzs_pure {n xs} (h : D.pures xs = true) : frzs S n xs = xs := by
  have := frz_pure S n (.tup xs) (by simpa using h)
  simpa using this
@[simp] theorem frz_pu {n d} (h : d.pure = true) : frz S n d = d := frz_pure S n d h
@[simp] theorem frzs_pu {n d} (h : D.pures d = true) : frzs S n d = d := frzs_pure h
@[simp] theorem lo_pu {n m d} (h : D.pure d = true) : D.low n m d = true := D.low_pure h
@[simp] theorem los_pu {n m d} (h : D.pures d = true) : D.lows n m d = true := D.lows_pure h
@[simp] theorem lo_ref {n m k} : D.low n m (.ref k) = decide (k < n) := by simp [D.low]
@[simp] theorem lo_tup {n m xs} : D.low n m (.tup xs) = D.lows n m xs := by simp [D.low]
@[simp] theorem lo_lst {n m xs} : D.low n m (.lst xs) = D.lows n m xs := by simp [D.low]
@[simp] theorem los_nil {n m} : D.lows n m [] = true := by simp [D.lows]
@[simp] theorem los_cons {n m x xs} : D.lows n m (x :: xs) = (D.low n m x && D.lows n m xs) := by simp [D.lows]
@[simp] theorem kit_NoneType_int : kitB "NoneType" "int" = some false := by first | rfl | decide +kernel
@[simp] theorem kit_NoneType_bool : kitB "NoneType" "bool" = some false := by first | rfl | decide +kernel
@[simp] theorem kit_NoneType_tuple : kitB "NoneType" "tuple" = some false := by first | rfl | decide +kernel
@[simp] theorem kit_NoneType_list : kitB "NoneType" "list" = some false := by first | rfl | decide +kernel
@[simp] theorem kit_NoneType_str : kitB "NoneType" "str" = some false := by first | rfl | decide +kernel
@[simp] theorem kit_NoneType_dict : kitB "NoneType" "dict" = some false := by first | rfl | decide +kernel
@[simp] theorem kit_bool_int : kitB "bool" "int" = some true := by first | rfl | decide +kernel
@[simp] theorem kit_bool_bool : kitB "bool" "bool" = some true := by first | rfl | decide +kernel
@[simp] theorem kit_bool_tuple : kitB "bool" "tuple" = some false := by first | rfl | decide +kernel
@[simp] theorem kit_bool_list : kitB "bool" "list" = some false := by first | rfl | decide +kernel
@[simp] theorem kit_bool_str : kitB "bool" "str" = some false := by first | rfl | decide +kernel
@[simp] theorem kit_bool_dict : kitB "bool" "dict" = some false := by first | rfl | decide +kernel
@[simp] theorem kit_int_int : kitB "int" "int" = some true := by first | rfl | decide +kernel
@[simp] theorem kit_int_bool : kitB "int" "bool" = some false := by first | rfl | decide +kernel
@[simp] theorem kit_int_tuple : kitB "int" "tuple" = some false := by first | rfl | decide +kernel
@[simp] theorem kit_int_list : kitB "int" "list" = some false := by first | rfl | decide +kernel
@[simp] theorem kit_int_str : kitB "int" "str" = some false := by first | rfl | decide +kernel
@[simp] theorem kit_int_dict : kitB "int" "dict" = some false := by first | rfl | decide +kernel
@[simp] theorem kit_str_int : kitB "str" "int" = some false := by first | rfl | decide +kernel
@[simp] theorem kit_str_bool : kitB "str" "bool" = some false := by first | rfl | decide +kernel
@[simp] theorem kit_str_tuple : kitB "str" "tuple" = some false := by first | rfl | decide +kernel
@[simp] theorem kit_str_list : kitB "str" "list" = some false := by first | rfl | decide +kernel
@[simp] theorem kit_str_str : kitB "str" "str" = some true := by first | rfl | decide +kernel
@[simp] theorem kit_str_dict : kitB "str" "dict" = some false := by first | rfl | decide +kernel
@[simp] theorem kit_tuple_int : kitB "tuple" "int" = some false := by first | rfl | decide +kernel
@[simp] theorem kit_tuple_bool : kitB "tuple" "bool" = some false := by first | rfl | decide +kernel
@[simp] theorem kit_tuple_tuple : kitB "tuple" "tuple" = some true := by first | rfl | decide +kernel
@[simp] theorem kit_tuple_list : kitB "tuple" "list" = some false := by first | rfl | decide +kernel
@[simp] theorem kit_tuple_str : kitB "tuple" "str" = some false := by first | rfl | decide +kernel
@[simp] theorem kit_tuple_dict : kitB "tuple" "dict" = some false := by first | rfl | decide +kernel
@[simp] theorem kit_list_int : kitB "list" "int" = some false := by first | rfl | decide +kernel
@[simp] theorem kit_list_bool : kitB "list" "bool" = some false := by first | rfl | decide +kernel
@[simp] theorem kit_list_tuple : kitB "list" "tuple" = some false := by first | rfl | decide +kernel
@[simp] theorem kit_list_list : kitB "list" "list" = some true := by first | rfl | decide +kernel
@[simp] theorem kit_list_str : kitB "list" "str" = some false := by first | rfl | decide +kernel
@[simp] theorem kit_list_dict : kitB "list" "dict" = some false := by first | rfl | decide +kernel
@[simp] theorem kit_dict_int : kitB "dict" "int" = some false := by first | rfl | decide +kernel
@[simp] theorem kit_dict_bool : kitB "dict" "bool" = some false := by first | rfl | decide +kernel
@[simp] theorem kit_dict_tuple : kitB "dict" "tuple" = some false := by first | rfl | decide +kernel
@[simp] theorem kit_dict_list : kitB "dict" "list" = some false := by first | rfl | decide +kernel
@[simp] theorem kit_dict_str : kitB "dict" "str" = some false := by first | rfl | decide +kernel
@[simp] theorem kit_dict_dict : kitB "dict" "dict" = some true := by first | rfl | decide +kernel
@[simp] theorem isi_e {d t} : dIsi d t S = (match tyN d S, t with
  | some T, .ty b => (match kitB T b with
    | some r => .ok (.bl r) S
    | none => .bad)
  | some T, .tup ts => (match isAny T ts with
    | some r => .ok (.bl r) S
    | none => .bad)
  | _, _ => .bad) := Eq.trans rfl rfl
@[simp] theorem tyN_n : tyN .non S = some "NoneType" := Eq.trans rfl rfl
@[simp] theorem tyN_b {b} : tyN (.bl b) S = some "bool" := Eq.trans rfl rfl
@[simp] theorem tyN_i {b} : tyN (.int b) S = some "int" := Eq.trans rfl rfl
@[simp] theorem tyN_s {b} : tyN (.str b) S = some "str" := Eq.trans rfl rfl
@[simp] theorem tyN_t {b} : tyN (.tup b) S = some "tuple" := Eq.trans rfl rfl
@[simp] theorem tyN_l {b} : tyN (.lst b) S = some "list" := Eq.trans rfl rfl
@[simp] theorem tyN_c {b} : tyN (.scr b) S = some "list" := Eq.trans rfl rfl
@[simp] theorem tyN_d {a b} : tyN (.dk a b) S = some "dict" := Eq.trans rfl rfl
@[simp] theorem isAny_nil {T} : isAny T [] = some false := Eq.trans rfl rfl
@[simp] theorem isAny_cons {T b r} : isAny T (.ty b :: r) = (match kitB T b, isAny T r with
    | some k, some r => some (k || r)
    | _, _ => none) := Eq.trans rfl rfl
mutual
/-- numbers, texts, None, tuples, lists, dicts of such -/
def D.dat : D → Bool
  | .non | .bl _ | .int _ | .str _ => true
  | .tup xs => D.dats xs
  | .lst xs => D.dats xs
  | .scr xs => D.dats xs
  | .dk _ vs => D.dats vs
  | _ => false
def D.dats : List D → Bool
  | [] => true
  | x :: xs => D.dat x && D.dats xs
end
@[simp] theorem da_non : D.dat .non = true := by simp [D.dat]
@[simp] theorem da_bl {b} : D.dat (.bl b) = true := by simp [D.dat]
@[simp] theorem da_int {b} : D.dat (.int b) = true := by simp [D.dat]
@[simp] theorem da_str {b} : D.dat (.str b) = true := by simp [D.dat]
@[simp] theorem da_tup {xs} : D.dat (.tup xs) = D.dats xs := by simp [D.dat]
@[simp] theorem da_lst {xs} : D.dat (.lst xs) = D.dats xs := by simp [D.dat]
@[simp] theorem da_scr {xs} : D.dat (.scr xs) = D.dats xs := by simp [D.dat]
@[simp] theorem da_dk {ks xs} : D.dat (.dk ks xs) = D.dats xs := by simp [D.dat]
@[simp] theorem da_dt {ks xs} : D.dat (.dt ks xs) = false := by simp [D.dat]
@[simp] theorem da_ty {x} : D.dat (.ty x) = false := by simp [D.dat]
@[simp] theorem da_ins {c f x} : D.dat (.ins c f x) = false := by simp [D.dat]
@[simp] theorem da_exn {c f x} : D.dat (.exn c f x) = false := by simp [D.dat]
@[simp] theorem da_clo {c f} : D.dat (.clo c f) = false := by simp [D.dat]
@[simp] theorem da_ref {c} : D.dat (.ref c) = false := by simp [D.dat]
@[simp] theorem da_obj {c} : D.dat (.obj c) = false := by simp [D.dat]
@[simp] theorem das_nil : D.dats [] = true := by simp [D.dats]
@[simp] theorem das_cons {x xs} : D.dats (x :: xs) = (D.dat x && D.dats xs) := by simp [D.dats]
theorem dats_iff : ∀ {xs : List D}, D.dats xs = true ↔ ∀ x ∈ xs, D.dat x = true
  | [] => by simp
  | x :: xs => by simp [dats_iff (xs := xs)]
theorem dat_pure : ∀ d : D, d.dat = true → d.pure = true := by
  intro d
  exact D.rec (motive_1 := fun d => d.dat = true → d.pure = true) (motive_2 := fun ds => D.dats ds = true → D.pures ds = true)
    (by simp) (by simp) (by simp) (by simp) (by simp) (fun xs ih h => by simpa using ih (by simpa using h)) (fun xs ih h => by simpa using ih (by simpa using h)) (fun xs ih h => by simpa using ih (by simpa using h))
    (fun ks xs ih h => by simpa using ih (by simpa using h)) (by simp) (by simp) (by simp) (by simp) (by simp) (by simp) (by simp) (fun x xs h1 h2 h => by
      rw [das_cons, Bool.and_eq_true] at h
      simp [h1 h.1, h2 h.2]) d
theorem dats_pures {xs : List D} (h : D.dats xs = true) : D.pures xs = true := by
  have := dat_pure (.tup xs) (by simpa using h)
  simpa using this
@[simp] theorem ent_cs : S.ent.cs = S.cs := Eq.trans rfl rfl
@[simp] theorem ent_os : S.ent.os = S.os := Eq.trans rfl rfl
@[simp] theorem ent_ret : S.ent.ret S = S := by
  obtain ⟨c, o, v, m⟩ := S
  simp [Store.ent, Store.ret]
@[simp] theorem os_ent : OsOk S S.ent := .inl (by simp)
@[simp] theorem end_nx {own S'} : endF own S (.nx σ S') = fin S .non S' := Eq.trans rfl rfl
@[simp] theorem end_rt {d S'} : endF false S (.rt d S') = fin S d S' := Eq.trans rfl rfl
@[simp] theorem end_rtO {d S'} : endF true S (.rt d S') = finO S d S' := Eq.trans rfl rfl
@[simp] theorem end_exc {own c fs vs S'} : endF own S (.exc c fs vs σ S') = finX S c fs vs S' := Eq.trans rfl rfl
@[simp] theorem fin_pu {d} (h : d.pure = true) : fin S d S.ent = .ok d S := by
  simp [fin, h]
@[simp] theorem finX_pu {c fs vs} (h : D.pures vs = true) : finX S c fs vs S.ent = .exc c fs vs S := by
  simp [finX, h]
/-- a pen's store: the first cell is another one -/
theorem fin_pen {d : D} {p p' : Cell} {r o v m} (h : d.pure = true) : fin ⟨p :: r, o, v, m⟩ d ⟨p' :: r, o, v, none⟩ = .ok d ⟨p' :: r, o, v, m⟩ := by
  simp [fin, h, OsOk, Store.ret]
section
variable {it : Store → Option (List D)} {xs r : List D} {T : Tgt} {B : Sst} {d : D} {σ2 σ3 : Env1} {S3 : Store}
theorem for_nil (h : it S = some xs) : forGo it xs T B [] σ S = .nx σ S := by unfold forGo; simp [h]
theorem for_nx (h : it S = some xs) (hT : T d σ = some σ2) (hB : B σ2 S = .nx σ3 S3) : forGo it xs T B (d :: r) σ S = forGo it xs T B r σ3 S3 := by
  conv => lhs; unfold forGo
  simp [h, hT, hB]
theorem for_bk (h : it S = some xs) (hT : T d σ = some σ2) (hB : B σ2 S = .bk σ3 S3) : forGo it xs T B (d :: r) σ S = .nx σ3 S3 := by
  conv => lhs; unfold forGo
  simp [h, hT, hB]
theorem for_rt {v : D} (h : it S = some xs) (hT : T d σ = some σ2) (hB : B σ2 S = .rt v S3) : forGo it xs T B (d :: r) σ S = .rt v S3 := by
  conv => lhs; unfold forGo
  simp [h, hT, hB]
theorem for_exc {c fs vs} (h : it S = some xs) (hT : T d σ = some σ2) (hB : B σ2 S = .exc c fs vs σ3 S3) : forGo it xs T B (d :: r) σ S = .exc c fs vs σ3 S3 := by
  conv => lhs; unfold forGo
  simp [h, hT, hB]
/-- each turn goes on, by an invariant over the items done -/
theorem for_inv (I : List D → Env1 → Store → Prop) (h0 : ∀ pre σ S, I pre σ S → it S = some xs) (h : ∀ pre d σ S, I pre σ S → pre ++ [d] <+: xs → ∃ σ2 σ3 S3, T d σ = some σ2 ∧ B σ2 S = .nx σ3 S3 ∧ I (pre ++ [d]) σ3 S3) :
    ∀ (r pre : List D) (σ : Env1) (S : Store), pre ++ r = xs → I pre σ S → ∃ σ' S', forGo it xs T B r σ S = .nx σ' S' ∧ I xs σ' S'
  | [], pre, σ, S, e, i => ⟨σ, S, for_nil (h0 _ _ _ i), by simpa [← e] using i⟩
  | d :: r, pre, σ, S, e, i => by
    obtain ⟨σ2, σ3, S3, q1, q2, q3⟩ := h pre d σ S i ⟨r, by simp [← e]⟩
    obtain ⟨σ', S', q4, q5⟩ := for_inv I h0 h r (pre ++ [d]) σ3 S3 (by simp [← e]) q3
    exact ⟨σ', S', by rw [for_nx (h0 _ _ _ i) q1 q2, q4], q5⟩
variable {C E : Sm}
theorem lc_nil (h : it S = some xs) : lcGo it xs T C E σ [] S = .ok (.tup []) S := by unfold lcGo; simp [h]
theorem lc_yes {y : D} {ys : List D} {S2 S4 : Store} (h : it S = some xs) (hT : T d σ = some σ2) (hC : C σ2 S = .ok (.bl true) S2) (hE : E σ2 S2 = .ok y S3) (hr : lcGo it xs T C E σ r S3 = .ok (.tup ys) S4) : lcGo it xs T C E σ (d :: r) S = .ok (.tup (y :: ys)) S4 := by
  conv => lhs; unfold lcGo
  simp [h, hT, hC, hE, hr]
theorem lc_no {S2 : Store} (h : it S = some xs) (hT : T d σ = some σ2) (hC : C σ2 S = .ok (.bl false) S2) : lcGo it xs T C E σ (d :: r) S = lcGo it xs T C E σ r S2 := by
  conv => lhs; unfold lcGo
  simp [h, hT, hC]
/-- a comprehension that leaves the store: filter, then map -/
theorem lc_pure (h : it S = some xs) (p : D → Bool) (g : D → D) : ∀ (r : List D), (∀ d ∈ r, ∃ σ2, T d σ = some σ2 ∧ C σ2 S = .ok (.bl (p d)) S ∧ (p d = true → E σ2 S = .ok (g d) S)) → lcGo it xs T C E σ r S = .ok (.tup ((r.filter p).map g)) S
  | [], _ => lc_nil h
  | d :: r, hr => by
    have ih := lc_pure h p g r fun d hd => hr d (List.mem_cons_of_mem _ hd)
    obtain ⟨σ2, q1, q2, q3⟩ := hr d (List.mem_cons_self ..)
    cases hp : p d with
    | true => rw [lc_yes h q1 (hp ▸ q2) (q3 hp) ih, List.filter_cons_of_pos hp]; rfl
    | false => rw [lc_no h q1 (hp ▸ q2), ih, List.filter_cons_of_neg (by simp [hp])]
/-- .. of all items -/
theorem lc_map (h : it S = some xs) (g : D → D) (r : List D) (hr : ∀ d ∈ r, ∃ σ2, T d σ = some σ2 ∧ C σ2 S = .ok (.bl true) S ∧ E σ2 S = .ok (g d) S) : lcGo it xs T C E σ r S = .ok (.tup (r.map g)) S := by
  have := lc_pure (C := C) (E := E) (T := T) h (fun _ => true) g r fun d hd => by
    obtain ⟨σ2, a, b, c⟩ := hr d hd
    exact ⟨σ2, a, b, fun _ => c⟩
  rwa [List.filter_eq_self.mpr fun _ _ => rfl] at this
/-- a comprehension whose turns change the store, by an invariant -/
theorem lc_inv (I : Nat → Store → Prop) (Q : D → Prop) (h0 : ∀ n S, I n S → it S = some xs) : ∀ (r : List D) (n : Nat) (S : Store), (∀ d n S, d ∈ r → I n S → ∃ σ2 y S3, T d σ = some σ2 ∧ C σ2 S = .ok (.bl true) S ∧ E σ2 S = .ok y S3 ∧ I (n + 1) S3 ∧ Q y) → I n S → ∃ ys S', lcGo it xs T C E σ r S = .ok (.tup ys) S' ∧ I (n + r.length) S' ∧ ys.length = r.length ∧ ∀ y ∈ ys, Q y
  | [], n, S, _, i => ⟨[], S, lc_nil (h0 _ _ i), i, rfl, by simp⟩
  | d :: r, n, S, hr, i => by
    obtain ⟨σ2, y, S3, q1, q2, q3, q4, q5⟩ := hr d n S (List.mem_cons_self ..) i
    obtain ⟨ys, S', a1, a2, a3, a4⟩ := lc_inv I Q h0 r (n + 1) S3 (fun d n S hd => hr d n S (List.mem_cons_of_mem _ hd)) q4
    refine ⟨y :: ys, S', lc_yes (h0 _ _ i) q1 q2 q3 a1, ?_, by simp [a3], ?_⟩
    · have : n + (d :: r).length = n + 1 + r.length := by simp; omega
      rw [this]; exact a2
    · intro z hz
      rcases List.mem_cons.mp hz with rfl | hz
      · exact q5
      · exact a4 z hz
end
end
end Ev
end

section
set_option maxHeartbeats 4000000
namespace Ev
open PySem PySem.Spec PyProof.Rows L2
section
variable {prog : Program} {w : World} {A : Around} {E : Value → Shared → Prop} {s : Shared}
theorem applied_rev {sl : Addr} {vs : Value} {n : Nat} {Q : Int × Int × Nat → Shared → Prop} (hs : s.heap.IsSliceOf sl .none .none vs) (ps : IsPart vs (some (-1))) (h : Q ((n : Int) - 1, -1, n) s) :
    wpAny (model prog w) A (Builtin.Slice.sliceApplied (.ref sl) (pure (n : Int))) Q E s := by
  obtain ⟨os, hos, hcs, hds⟩ := id hs
  unfold Builtin.Slice.sliceApplied Builtin.Slice.sliceFields
  refine wpAny_bind (wpAny_bind (wpAny_field hos hds (x := .none) rfl (wpAny_bind (wpAny_field hos hds (x := .none) rfl (wpAny_bind (wpAny_field hos hds (x := vs) rfl (wpAny_pure ?_)))))))
  refine wpAny_bind (HT.slicePart_ ps ?_)
  show wpAny _ _ (if ((-1 : Int) == 0) = true then _ else _) _ _ s
  rw [if_neg (by decide)]
  refine wpAny_bind (HT.slicePart_ .none (wpAny_bind (HT.slicePart_ .none (wpAny_bind (wpAny_pure ?_)))))
  have ea : Builtin.Slice.sliceAdjust none none (-1) (n : Int) = ((n : Int) - 1, -1) := by
    unfold Builtin.Slice.sliceAdjust
    simp
  have ep : Builtin.Slice.slicePlaces ((n : Int) - 1) (-1) (-1) = n := by
    unfold Builtin.Slice.slicePlaces
    simp
    omega
  show wpAny _ _ (match Builtin.Slice.sliceAdjust none none (-1) (n : Int) with | (lo, hi) => pure (lo, (-1 : Int), Builtin.Slice.slicePlaces lo hi (-1))) _ _ s
  rw [ea]
  show wpAny _ _ (pure ((n : Int) - 1, (-1 : Int), Builtin.Slice.slicePlaces ((n : Int) - 1) (-1) (-1))) _ _ s
  rw [ep]
  exact wpAny_pure h
theorem fm_congr {α β : Type} {f g : α → Option β} : ∀ {l : List α}, (∀ x ∈ l, f x = g x) → l.filterMap f = l.filterMap g
  | [], _ => rfl
  | x :: l, h => by
    rw [List.filterMap_cons, List.filterMap_cons, h x (List.mem_cons_self ..), fm_congr fun y hy => h y (List.mem_cons_of_mem _ hy)]
theorem pick_rev (xs : Array Value) : ((List.range xs.size).filterMap fun (m : Nat) => xs[(((xs.size : Int) - 1) + (m : Int) * (-1)).toNat]?).toArray = xs.toList.reverse.toArray := by
  have e : ∀ m ∈ List.range xs.size, xs[(((xs.size : Int) - 1) + (m : Int) * (-1)).toNat]? = xs[xs.size - 1 - m]? := fun m hm => by
    have := List.mem_range.mp hm
    congr 1
    omega
  rw [fm_congr e]
  have e2 : (fun m => xs[xs.size - 1 - m]?) = (xs[·]?) ∘ fun m => xs.size - 1 - m := rfl
  rw [e2, ← List.filterMap_map, PySem.W.krv_range, List.filterMap_reverse, PySem.W.krv_all]
theorem tuple_rev {t sl : Addr} {items : Array Value} {vs : Value} {Q : Value → Shared → Prop} (ht : IsTup s.heap t items) (hs : s.heap.IsSliceOf sl .none .none vs) (ps : IsPart vs (some (-1)))
    (h : Q (.ref s.heap.objs.size) { s with heap := s.heap.push { cls := .type "tuple", data := .seq items.toList.reverse.toArray } }) (hsz : items.size ≤ sizeLine) : wpAny (model prog w) A (getItem (.ref t) (.ref sl)) Q E s := by
  have htake : sizeOk (.seq items.toList.reverse.toArray) := by
    show items.toList.reverse.toArray.size ≤ sizeLine
    rw [List.size_toArray, List.length_reverse, Array.length_toList]
    exact hsz
  obtain ⟨os, hos, hcs, hds⟩ := id hs
  have hTs : s.TypeIs (.ref sl) "slice" := ⟨os, hos, hcs⟩
  unfold getItem
  try with_reducible refine wpAny_holding ?_
  first | refine wpAny_bind (wpAny_pure ?_) | skip
  refine wpAny_bind (wpAny_sequenceKey ht.typeIs (by decide) ?_)
  refine wpAny_bind (wpAny_callSpecial?_slot (name := Str.ofString "__getitem__") ht.typeIs PyProof.Rows.slot_tuple_getitem
    (wpAny_call_entry PyProof.Rows.slot_tuple_getitem ht.typeIs entry_tuple_getitem ?_ (args_tuple_getitem _ _)))
  show wpAny _ _ (Builtin.Tuple.tupleItemsOf (.ref t) >>= _) _ _ s
  refine wpAny_bind (tupleItemsOf_ ht ?_)
  refine wpAny_bind (wpAny_typeOf hTs ?_)
  rw [if_pos (by decide)]
  refine wpAny_bind (applied_rev hs ps ?_)
  have hno : ¬ (((((items.size : Nat) : Int) - 1) == 0 && (-1 : Int) == 1 && items.size == items.size) = true) := by
    rw [show ((-1 : Int) == 1) = false from rfl]
    simp
  show wpAny _ _ (if ((((items.size : Nat) : Int) - 1) == 0 && (-1 : Int) == 1 && items.size == items.size) = true then _ else _) _ _ s
  rw [if_neg hno, pick_rev]
  first
    | exact wpAny_bind (m := Builtin.Tuple.tupleExact _) (wpAny_newObj_type (wpAny_pure ⟨_, rfl, wpAny_pure h⟩) htake)
    | exact wpAny_bind (m := Builtin.Tuple.tupleExact _) (wpAny_newObj_type (wpAny_bind (wpAny_pure (wpAny_pure ⟨_, rfl, wpAny_pure h⟩))) htake)
    | exact wpAny_bind (wpAny_bind (m := Builtin.Tuple.tupleExact _) (wpAny_newObj_type (wpAny_pure (wpAny_pure ⟨_, rfl, wpAny_pure h⟩)) htake))
    | exact wpAny_bind (wpAny_bind (m := Builtin.Tuple.tupleExact _) (wpAny_newObj_type (wpAny_pure ⟨_, rfl, wpAny_pure h⟩) htake))
end
def rRevS (K : PySem.W.Frag) (x : V) (H : Hp) (Q : VK) : Prop := (∃ a xs, x = .ref a ∧ SqL K H a xs ∧ ∀ p, H p = none → Q (.ref p) (upd H p (.lst xs.reverse))) ∨ ∃ a xs, x = .ref a ∧ SqT K H a xs ∧ ∀ p, H p = none → Q (.ref p) (upd H p (.tup xs.reverse))
section
variable {X : Cx} {W : WX} {a b e e2 : Expr} {A B M : Sm} {pos p p2 : Pos}
theorem pe_revS {st : Expr} {te : TE} {ts : TO} (he : PE X e te) (hst : PO X (some st) ts) : PE X (.Subscript e (.Slice none none (some st) p2) pos) (fun σ H Q => te σ H fun x H1 => ts σ H1 fun o H2 => o = some (-1) ∧ rRevS X.K x H2 Q) := by
  refine ⟨fun pins s σ H Q I h => ?_⟩
  refine Subscript_ (thn (he.run pins s σ H _ I h) fun v s1 ⟨x, H1, I1, r1, q1⟩ => ?_)
  refine wpAny_Slice ?_
  rw [evalPart_none]
  refine wpAny_pure (wpAny_pure ?_)
  refine thn (hst.run pins s1 σ H1 _ I1 q1) fun vs s3 ⟨o, H3, I3, po, eo, q3⟩ => ?_
  subst eo
  have I4 : Inv X pins σ H3 { s3 with heap := s3.heap.push { cls := .type "slice", data := .fields #[.none, .none, vs] } } := I3.kept (t' := s3.toks) fun b ob q => Heap.get?_push_of_some _ q
  have hsl : (s3.heap.push { cls := .type "slice", data := .fields #[.none, .none, vs] }).IsSliceOf s3.heap.objs.size .none .none vs := Heap.IsSliceOf.new ..
  show wpAny (model X.prog X.w) X.A (subscriptTail e (.Slice none none (some st) p2) v (.ref s3.heap.objs.size)) (EP X pins σ Q) X.xe { s3 with heap := s3.heap.push { cls := .type "slice", data := .fields #[.none, .none, vs] } }
  rcases q3 with ⟨l, xs, rfl, hx, q⟩ | ⟨l, xs, rfl, hx, q⟩
  · cases r1
    obtain ⟨its, r, pl, hz⟩ := I4.list hx
    refine tail_any (T := "list") (ops := [.ref l, .ref s3.heap.objs.size]) pl.isList.typeIs list_getitem_lookup (wpAny_getItem_list_slice pl.isList hsl .none .none po (by decide) ?_ (by rw [List.size_toArray, ← r.length]; exact hz)) (by with_unfolding_all rfl)
    rw [PySem.W.krv_pick]
    refine ⟨.ref _, _, I4.laid (t' := s3.toks) (o := .lst xs.reverse) (fun b ob q => Heap.get?_push_of_some _ q) (Nat.le_refl _) ?_, rfl, q _ (I4.hok.fresh (Nat.le_refl _))⟩
    exact ⟨by rw [List.length_reverse]; exact hz, _, 0, r.reverse, Heap.get?_push_size _ rfl⟩
  · cases r1
    obtain ⟨its, r, pl, hz⟩ := I4.tuple hx
    refine tail_any (T := "tuple") (ops := [.ref l, .ref s3.heap.objs.size]) pl.typeIs PyProof.Rows.slot_tuple_getitem.lookup (tuple_rev pl hsl po ?_ (by rw [List.size_toArray, ← r.length]; exact hz)) (by with_unfolding_all rfl)
    refine ⟨.ref _, _, I4.laid (t' := s3.toks) (o := .tup xs.reverse) (fun b ob q => Heap.get?_push_of_some _ q) (Nat.le_refl _) ?_, rfl, q _ (I4.hok.fresh (Nat.le_refl _))⟩
    refine ⟨by rw [List.length_reverse]; exact hz, _, r.reverse, IsTup.new _ _⟩
/-- xs[::-1] -/
def dRevS (own : Bool) (x o : D) (S : Store) : Res := match o with
  | .int i => if i = -1 then (match x with
    | .tup xs => .ok (.tup xs.reverse) S
    | x => (match lstX x S with
      | some xs => mkL own xs.reverse S
      | none => .bad)) else .bad
  | _ => .bad
theorem DRs.rev {K : PySem.W.Frag} {mg : Str → Option Value} {ρ : Adr} {H : Hp} : ∀ {ds : List D} {vs : List V}, DRs K mg ρ H ds vs → DRs K mg ρ H ds.reverse vs.reverse
  | _, _, .nil => .nil
  | _, _, .cons h r => by
    rw [List.reverse_cons, List.reverse_cons]
    exact (DRs.rev r).append (.cons h .nil)
theorem x_revS {own : Bool} {st : Expr} (ha : PE X a (xE X W A)) (hst : PE X st (xE X W B)) : PE X (.Subscript a (.Slice none none (some st) p2) pos) (xE X W (evB A B (dRevS own))) :=
  peImp (pe_revS ha (po_some hst)) fun σ H Q ⟨ρ, σd, S, er, sr, q⟩ => ⟨ρ, σd, S, er, sr, (RQ.bind q).mono fun v1 H1 ⟨d1, S1, ρ1, _, x1, s1, r1, q1⟩ =>
    ⟨ρ1, σd, S1, er.mono x1, s1, (RQ.bind q1).mono fun v2 H2 ⟨d2, S2, ρ2, _, x2, s2, r2, q2⟩ => by
      have r1' := r1.mono x2
      cases d2 with
      | int i =>
        cases r2
        dsimp only [dRevS] at q2
        by_cases hi : i = -1
        · rw [if_pos hi] at q2
          refine ⟨i, rfl, by rw [hi], ?_⟩
          cases ht : isTupD d1 with
          | true =>
            obtain ⟨xs, rfl⟩ := isTup_of ht
            obtain ⟨a', vs, rfl, h1, h2⟩ := seq_tup r1'
            exact .inr ⟨a', vs, rfl, h1, fun p hp => q2.new s2 hp fun ρ' H' e z n => .tup z n (h2.rev.mono e)⟩
          | false =>
            have q3 : RQ X.K X.mg ρ2 H2 σ W (match lstX d1 S2 with
              | some xs => mkL own xs.reverse S2
              | none => .bad) Q := by
              cases d1 <;> first | exact q2 | cases ht
            split at q3
            · rename_i xs e1
              obtain ⟨a', vs, rfl, h1, h2⟩ := lstX_v s2 r1' e1
              exact .inl ⟨a', vs, rfl, h1, fun p hp => mkL_ok q3 s2 h2.rev hp⟩
            · exact False.elim q3
        · rw [if_neg hi] at q2
          exact False.elim q2
      | _ => exact False.elim q2⟩⟩
def chG (C D' : Sm) (q r : Int → Int → Bool) (j : Int) : Sm := fun σd S => (C σd S).bind fun z S3 => match z with
  | .int k => if q j k then (D' σd S3).bind fun u S4 => (match u with
    | .int l => .ok (.bl (r k l)) S4
    | _ => .bad) else .ok (.bl false) S3
  | _ => .bad
def evCh4 (A B C D' : Sm) (p q r : Int → Int → Bool) : Sm := fun σd S => (A σd S).bind fun x S1 => (B σd S1).bind fun y S2 => match x, y with
  | .int i, .int j => if p i j then chG C D' q r j σd S2 else .ok (.bl false) S2
  | _, _ => .bad
def tChain4 (r1 r2 r3 : R2) (ta tb tc td : TE) : TE := fun σ H Q => ta σ H fun x H1 => tb σ H1 fun y H2 => r1 x y H2 fun z H3 => ∃ k, z = .bl k ∧
  (if k = true then tc σ H3 fun w' H4 => r2 y w' H4 fun z' H5 => ∃ k', z' = .bl k' ∧ (if k' = true then td σ H5 fun u' H6 => r3 w' u' H6 Q else Q (.bl false) H5) else Q (.bl false) H3)
theorem pe_chain4 {a b c d : Expr} {op op' op'' : CmpOp} {r r' r'' : R2} {ta tb tc td : TE} (ho : OpR X (compareOp op) r) (ho' : OpR X (compareOp op') r') (ho'' : OpR X (compareOp op'') r'') (ha : PE X a ta) (hb : PE X b tb) (hc : PE X c tc) (hd : PE X d td)
    (hm : lastMarks [op, op', op''] [b, c, d] = false := by with_unfolding_all rfl) : PE X (.Compare a [op, op', op''] [b, c, d] pos) (tChain4 r r' r'' ta tb tc td) := by
  refine ⟨fun pins s σ H Q I h => ?_⟩
  refine Compare_chain (thn (ha.run pins s σ H _ I h) fun v s1 ⟨x, H1, I1, r1, q1⟩ => chain_link (thn (hb.run pins s1 σ H1 _ I1 q1) fun u s2 ⟨y, H2, I2, r2, q2⟩ =>
    thn (ho pins s2 σ H2 x y v u _ I2 r1 r2 q2) fun d s3 ⟨z, H3, I3, r3, k, e, q3⟩ => ?_)) hm
  subst e
  cases r3
  refine wpAny_truthy_bool ?_
  cases k with
  | false => exact ite_ff ⟨.bl false, H3, I3, rfl, q3⟩
  | true =>
    refine ite_tt (chain_link (thn (hc.run pins s3 σ H3 _ I3 q3) fun w' s4 ⟨z', H4, I4, r4, q4⟩ => thn (ho' pins s4 σ H4 y z' u w' _ I4 r2 r4 q4) fun d' s5 ⟨z5, H5, I5, r5, k', e', q5⟩ => ?_))
    subst e'
    cases r5
    refine wpAny_truthy_bool ?_
    cases k' with
    | false => exact ite_ff ⟨.bl false, H5, I5, rfl, q5⟩
    | true => exact ite_tt (chain_last (thn (hd.run pins s5 σ H5 _ I5 q5) fun u' s6 ⟨z6, H6, I6, r6, q6⟩ => ho'' pins s6 σ H6 z' z6 w' u' Q I6 r4 r6 q6))
theorem chain4 {A B C D' : Sm} {p q r : Int → Int → Bool} {σ : L2.St} {H : Hp} {Q : VK} (h : xE X W (evCh4 A B C D' p q r) σ H Q) : tChain4 (rI0 fun i j => .bl (p i j)) (rI0 fun i j => .bl (q i j)) (rI0 fun i j => .bl (r i j)) (xE X W A) (xE X W B) (xE X W C) (xE X W D') σ H Q := by
  obtain ⟨ρ, σd, S, er, sr, h⟩ := h
  refine ⟨ρ, σd, S, er, sr, (RQ.bind h).mono fun v1 H1 ⟨d1, S1, ρ1, _, x1, s1, r1, q1⟩ => ⟨ρ1, σd, S1, er.mono x1, s1, (RQ.bind q1).mono fun v2 H2 ⟨d2, S2, ρ2, _, x2, s2, r2, q2⟩ => ?_⟩⟩
  have r1' := r1.mono x2
  dsimp only at q2
  split at q2
  · cases r1'; cases r2
    refine ⟨_, _, rfl, rfl, _, rfl, ?_⟩
    split at q2
    · rename_i hp
      rw [if_pos hp]
      refine ⟨ρ2, σd, S2, (er.mono x1).mono x2, s2, (RQ.bind q2).mono fun v3 H3 ⟨d3, S3, ρ3, _, x3, s3, r3, q3⟩ => ?_⟩
      dsimp only at q3
      split at q3
      · cases r3
        refine ⟨_, _, rfl, rfl, _, rfl, ?_⟩
        split at q3
        · rename_i hq
          rw [if_pos hq]
          refine ⟨ρ3, σd, S3, ((er.mono x1).mono x2).mono x3, s3, (RQ.bind q3).mono fun v4 H4 ⟨d4, S4, ρ4, _, x4, s4, r4, q4⟩ => ?_⟩
          dsimp only at q4
          split at q4
          · cases r4
            exact ⟨_, _, rfl, rfl, q4.here s4 (.bl _)⟩
          · exact False.elim q4
        · rename_i hq
          rw [if_neg hq]
          exact q3.here s3 (.bl _)
      · exact False.elim q3
    · rename_i hp
      rw [if_neg hp]
      exact q2.here s2 (.bl _)
  · exact False.elim q2
theorem x_ch4 {a b c d : Expr} {A B C D' : Sm} {op op' op'' : CmpOp} {p q r : Int → Int → Bool} (ho : OpR X (compareOp op) (rI0 fun i j => .bl (p i j))) (ho' : OpR X (compareOp op') (rI0 fun i j => .bl (q i j))) (ho'' : OpR X (compareOp op'') (rI0 fun i j => .bl (r i j)))
    (ha : PE X a (xE X W A)) (hb : PE X b (xE X W B)) (hc : PE X c (xE X W C)) (hd : PE X d (xE X W D')) (hm : lastMarks [op, op', op''] [b, c, d] = false := by with_unfolding_all rfl) : PE X (.Compare a [op, op', op''] [b, c, d] pos) (xE X W (evCh4 A B C D' p q r)) :=
  peImp (pe_chain4 ho ho' ho'' ha hb hc hd hm) fun σ H Q h => chain4 h
def okRg (i j : Int) : Bool := (big62 i && big62 j) && decide ((j - i).toNat ≤ 16777216)
def dRgL (own : Bool) (i j : Int) (S : Store) : Res := if okRg i j then mkL own (rngL i (j - i).toNat) S else .bad
def dRgT (i j : Int) (S : Store) : Res := if okRg i j then .ok (.tup (rngL i (j - i).toNat)) S else .bad
def dRgL1 (own : Bool) (x : D) (S : Store) : Res := match x with
  | .int i => dRgL own 0 i S
  | _ => .bad
def dRgL2 (own : Bool) (x y : D) (S : Store) : Res := match x, y with
  | .int i, .int j => dRgL own i j S
  | _, _ => .bad
def dRgT1 (x : D) (S : Store) : Res := match x with
  | .int i => dRgT 0 i S
  | _ => .bad
def dRgT2 (x y : D) (S : Store) : Res := match x, y with
  | .int i, .int j => dRgT i j S
  | _, _ => .bad
theorem okRg_of {i j : Int} (h : okRg i j = true) : RgOk i j := by
  unfold okRg at h
  simp only [Bool.and_eq_true, decide_eq_true_eq] at h
  obtain ⟨a1, a2⟩ := big62_of h.1.1
  obtain ⟨a3, a4⟩ := big62_of h.1.2
  exact ⟨a1, a2, a3, a4, h.2⟩
theorem drs_rg {K : PySem.W.Frag} {mg : Str → Option Value} {ρ : Adr} {H : Hp} (i j : Int) : DRs K mg ρ H (rngL i (j - i).toNat) (rgV i j) := by
  unfold rngL rgV
  induction List.range (j - i).toNat with
  | nil => exact .nil
  | cons k l ih => exact .cons (.int _) ih
theorem rgL_run {K : PySem.W.Frag} {mg : Str → Option Value} {ρ : Adr} {H : Hp} {S : Store} {σ : L2.St} {own : Bool} {i j : Int} {Q : VK} (s : SR K mg ρ H S) (q : RQ K mg ρ H σ W (dRgL own i j S) Q) : RgOk i j ∧ ∀ p, H p = none → Q (.ref p) (upd H p (.lst (rgV i j))) := by
  unfold dRgL at q
  split at q
  · rename_i h
    exact ⟨okRg_of h, fun p hp => mkL_ok q s (drs_rg i j) hp⟩
  · exact False.elim q
theorem rgT_run {K : PySem.W.Frag} {mg : Str → Option Value} {ρ : Adr} {H : Hp} {S : Store} {σ : L2.St} {i j : Int} {Q : VK} (s : SR K mg ρ H S) (q : RQ K mg ρ H σ W (dRgT i j S) Q) : RgOk i j ∧ ∀ p, H p = none → Q (.ref p) (upd H p (.tup (rgV i j))) := by
  unfold dRgT at q
  split at q
  · rename_i h
    exact ⟨okRg_of h, fun p hp => q.new s hp fun ρ' H' e z n => .tup z n (drs_rg i j)⟩
  · exact False.elim q
theorem x_rgL1 {own : Bool} {p3 pos2 : Pos} (cn : Cn X) (hm : X.mg "list" = none) (hm2 : X.mg "range" = none) (ha : PE X a (xE X W A)) (hg : Gl X "list" := by rfl) (hg2 : Gl X "range" := by rfl) (n1 : starEach [a] X.env = (false, eval a X.env) :: starEach [] X.env := by rfl)
    (n2 : starEach [.Call (.Name "range" p3) [a] [] pos2] X.env = (false, eval (.Call (.Name "range" p3) [a] [] pos2) X.env) :: starEach [] X.env := by rfl) :
    PE X (.Call (.Name "list" p) [.Call (.Name "range" p3) [a] [] pos2] [] pos) (xE X W (evU A (dRgL1 own))) :=
  peImp (pe_listRg cn.calm hg hm (prg_1 hg2 hm2 ha n1) n2) fun σ H Q ⟨ρ, σd, S, er, sr, q⟩ => ⟨ρ, σd, S, er, sr, (RQ.bind q).mono fun v1 H1 ⟨d1, S1, ρ1, _, x1, s1, r1, q1⟩ => by
    cases d1 with
    | int i =>
      cases r1
      exact ⟨i, rfl, rgL_run s1 q1⟩
    | _ => exact False.elim q1⟩
theorem x_rgL2 {own : Bool} {p3 pos2 : Pos} (cn : Cn X) (hm : X.mg "list" = none) (hm2 : X.mg "range" = none) (ha : PE X a (xE X W A)) (hb : PE X b (xE X W B)) (hg : Gl X "list" := by rfl) (hg2 : Gl X "range" := by rfl) (n1 : starEach [a, b] X.env = (false, eval a X.env) :: starEach [b] X.env := by rfl)
    (n3 : starEach [b] X.env = (false, eval b X.env) :: starEach [] X.env := by rfl) (n4 : (backTo pos2 (starEach [b] X.env)).any (·.1) = false := by rfl) (n2 : starEach [.Call (.Name "range" p3) [a, b] [] pos2] X.env = (false, eval (.Call (.Name "range" p3) [a, b] [] pos2) X.env) :: starEach [] X.env := by rfl) :
    PE X (.Call (.Name "list" p) [.Call (.Name "range" p3) [a, b] [] pos2] [] pos) (xE X W (evB A B (dRgL2 own))) :=
  peImp (pe_listRg cn.calm hg hm (prg_2 hg2 hm2 ha hb n1 n3 n4) n2) fun σ H Q ⟨ρ, σd, S, er, sr, q⟩ => ⟨ρ, σd, S, er, sr, (RQ.bind q).mono fun v1 H1 ⟨d1, S1, ρ1, _, x1, s1, r1, q1⟩ =>
    ⟨ρ1, σd, S1, er.mono x1, s1, (RQ.bind q1).mono fun v2 H2 ⟨d2, S2, ρ2, _, x2, s2, r2, q2⟩ => by
      have r1' := r1.mono x2
      cases d1 with
      | int i =>
        cases d2 with
        | int j =>
          cases r1'; cases r2
          exact ⟨i, j, rfl, rfl, rgL_run s2 q2⟩
        | _ => exact False.elim q2
      | _ => exact False.elim q2⟩⟩
theorem x_rgT1 {p3 pos2 : Pos} (cn : Cn X) (hm : X.mg "tuple" = none) (hm2 : X.mg "range" = none) (ha : PE X a (xE X W A)) (hg : Gl X "tuple" := by rfl) (hg2 : Gl X "range" := by rfl) (n1 : starEach [a] X.env = (false, eval a X.env) :: starEach [] X.env := by rfl)
    (n2 : starEach [.Call (.Name "range" p3) [a] [] pos2] X.env = (false, eval (.Call (.Name "range" p3) [a] [] pos2) X.env) :: starEach [] X.env := by rfl) :
    PE X (.Call (.Name "tuple" p) [.Call (.Name "range" p3) [a] [] pos2] [] pos) (xE X W (evU A dRgT1)) :=
  peImp (pe_tupRg cn.calm hg hm (prg_1 hg2 hm2 ha n1) n2) fun σ H Q ⟨ρ, σd, S, er, sr, q⟩ => ⟨ρ, σd, S, er, sr, (RQ.bind q).mono fun v1 H1 ⟨d1, S1, ρ1, _, x1, s1, r1, q1⟩ => by
    cases d1 with
    | int i =>
      cases r1
      exact ⟨i, rfl, rgT_run s1 q1⟩
    | _ => exact False.elim q1⟩
theorem x_rgT2 {p3 pos2 : Pos} (cn : Cn X) (hm : X.mg "tuple" = none) (hm2 : X.mg "range" = none) (ha : PE X a (xE X W A)) (hb : PE X b (xE X W B)) (hg : Gl X "tuple" := by rfl) (hg2 : Gl X "range" := by rfl) (n1 : starEach [a, b] X.env = (false, eval a X.env) :: starEach [b] X.env := by rfl)
    (n3 : starEach [b] X.env = (false, eval b X.env) :: starEach [] X.env := by rfl) (n4 : (backTo pos2 (starEach [b] X.env)).any (·.1) = false := by rfl) (n2 : starEach [.Call (.Name "range" p3) [a, b] [] pos2] X.env = (false, eval (.Call (.Name "range" p3) [a, b] [] pos2) X.env) :: starEach [] X.env := by rfl) :
    PE X (.Call (.Name "tuple" p) [.Call (.Name "range" p3) [a, b] [] pos2] [] pos) (xE X W (evB A B dRgT2)) :=
  peImp (pe_tupRg cn.calm hg hm (prg_2 hg2 hm2 ha hb n1 n3 n4) n2) fun σ H Q ⟨ρ, σd, S, er, sr, q⟩ => ⟨ρ, σd, S, er, sr, (RQ.bind q).mono fun v1 H1 ⟨d1, S1, ρ1, _, x1, s1, r1, q1⟩ =>
    ⟨ρ1, σd, S1, er.mono x1, s1, (RQ.bind q1).mono fun v2 H2 ⟨d2, S2, ρ2, _, x2, s2, r2, q2⟩ => by
      have r1' := r1.mono x2
      cases d1 with
      | int i =>
        cases d2 with
        | int j =>
          cases r1'; cases r2
          exact ⟨i, j, rfl, rfl, rgT_run s2 q2⟩
        | _ => exact False.elim q2
      | _ => exact False.elim q2⟩⟩
end
end Ev
end

section
set_option maxHeartbeats 4000000
namespace Ev
open PySem PySem.Spec PyProof.Rows L2
section
variable {σ σ1 : Env1} {S S1 S2 : Store}
@[simp] theorem mul_t {own xs k} : dMul own (.tup xs) (.int k) S = if -1000000000 ≤ k ∧ k ≤ 1000 ∧ xs.length ≤ 1000 then .ok (.tup (repL k xs)) S else .bad := Eq.trans rfl rfl
@[simp] theorem mul_l {own xs k} : dMul own (.lst xs) (.int k) S = if -1000000000 ≤ k ∧ k ≤ 1000000000 ∧ xs.length * k.toNat ≤ 16777216 then mkL own (repL k xs) S else .bad := Eq.trans rfl rfl
@[simp] theorem rep_one {k : Int} {x : D} : repL k [x] = List.replicate k.toNat x := by
  unfold repL
  generalize k.toNat = n
  induction n with
  | zero => rfl
  | succ n ih => rw [List.replicate_succ, List.flatten_cons, ih, List.replicate_succ]; rfl
@[simp] theorem shl_i {i j} : dShl (.int i) (.int j) S = if 0 ≤ j ∧ j ≤ 1000000 ∧ i.natAbs < 18446744073709551616 then .ok (.int (i * 2 ^ j.toNat)) S else .bad := Eq.trans rfl rfl
@[simp] theorem max2_i {i j} : dMax2 (.int i) (.int j) S = .ok (.int (if j > i then j else i)) S := Eq.trans rfl rfl
@[simp] theorem min2_i {i j} : dMin2 (.int i) (.int j) S = .ok (.int (if j < i then j else i)) S := Eq.trans rfl rfl
@[simp] theorem allInt_map (ns : List Int) : allInt (ns.map D.int) = some ns := by
  induction ns with
  | nil => rfl
  | cons n ns ih => simp [allInt, ih]
@[simp] theorem allBl_map (ns : List Bool) : allBl (ns.map D.bl) = some ns := by
  induction ns with
  | nil => rfl
  | cons n ns ih => simp [allBl, ih]
@[simp] theorem lstX_l {xs} : lstX (.lst xs) S = some xs := by simp [lstX, isTupD]
theorem sum_l {ns : List Int} : dSum (.lst (ns.map .int)) S = .ok (.int ns.sum) S := by simp [dSum]
theorem all_l {p : List Bool → Bool} {bs : List Bool} : dAll p (.lst (bs.map .bl)) S = .ok (.bl (p bs)) S := by simp [dAll]
theorem maxL_l {ns : List Int} {m : Int} (h : ns.max? = some m) : dMaxL (.lst (ns.map .int)) S = .ok (.int m) S := by simp [dMaxL, h]
theorem minL_l {ns : List Int} {m : Int} (h : ns.min? = some m) : dMinL (.lst (ns.map .int)) S = .ok (.int m) S := by simp [dMinL, h]
def kCh2 (C : Sm) (p q : Int → Int → Bool) (σ : Env1) (x : D) : D → Store → Res := fun y S => match x, y with
  | .int i, .int j => if p i j then (C σ S).bind (fun z S3 => match z with
    | .int k => .ok (.bl (q j k)) S3
    | _ => .bad) else .ok (.bl false) S
  | _, _ => .bad
def kCh1 (B C : Sm) (p q : Int → Int → Bool) (σ : Env1) : D → Store → Res := fun x S => (B σ S).bind (kCh2 C p q σ x)
@[simp] theorem p_ch {A B C : Sm} {p q : Int → Int → Bool} : evCh A B C p q σ S = (A σ S).bind (kCh1 B C p q σ) := by
  unfold evCh Res.bind
  cases A σ S with
  | ok d S1 => rfl
  | _ => rfl
@[simp] theorem kCh1_e {B C : Sm} {p q : Int → Int → Bool} {x} : kCh1 B C p q σ x S = (B σ S).bind (kCh2 C p q σ x) := Eq.trans rfl rfl
def kCh3 (j : Int) (q : Int → Int → Bool) : D → Store → Res := fun z S3 => match z with
    | .int k => .ok (.bl (q j k)) S3
    | _ => .bad
@[simp] theorem kCh2_e {C : Sm} {p q : Int → Int → Bool} {i j} : kCh2 C p q σ (.int i) (.int j) S = if p i j then (C σ S).bind (kCh3 j q) else .ok (.bl false) S := by
  unfold kCh2
  dsimp only
  split
  · rfl
  · rfl
@[simp] theorem kCh3_e {j k : Int} {q : Int → Int → Bool} : kCh3 j q (.int k) S = .ok (.bl (q j k)) S := Eq.trans rfl rfl
@[simp] theorem rg1_i {own i} : dRgL1 own (.int i) S = dRgL own 0 i S := Eq.trans rfl rfl
@[simp] theorem rg2_i {own i j} : dRgL2 own (.int i) (.int j) S = dRgL own i j S := Eq.trans rfl rfl
@[simp] theorem rgt1_i {i} : dRgT1 (.int i) S = dRgT 0 i S := Eq.trans rfl rfl
@[simp] theorem rgt2_i {i j} : dRgT2 (.int i) (.int j) S = dRgT i j S := Eq.trans rfl rfl
theorem rgL_nat {n : Nat} (h : n ≤ 1000000) : dRgL false 0 (n : Int) S = .ok (.lst (rngL 0 n)) S := by
  have h1 : okRg 0 (n : Int) = true := by simp [okRg, big62]; omega
  unfold dRgL
  rw [if_pos h1]
  have : ((n : Int) - 0).toNat = n := by omega
  rw [this, mkL_f, if_pos (by simp [rngL]; omega)]
@[simp] theorem rev_t {own xs} : dRevS own (.tup xs) (.int (-1)) S = .ok (.tup xs.reverse) S := Eq.trans rfl rfl
@[simp] theorem rev_l {own xs} : dRevS own (.lst xs) (.int (-1)) S = mkL own xs.reverse S := Eq.trans rfl rfl
@[simp] theorem e2_e {x : D} : iE2 (.tup [x]) S = (match seqOf x S with
    | some xs => some (enumD xs)
    | none => none) := Eq.trans rfl rfl
@[simp] theorem z2_e {x y : D} : iZ2 (.tup [x, y]) S = (match seqOf x S, seqOf y S with
    | some xs, some ys => some (zipD xs ys)
    | _, _ => none) := Eq.trans rfl rfl
@[simp] theorem sl_t {own xs lo hi} : dSl own (.tup xs) lo hi S = .ok (.tup (cutD xs lo hi)) S := Eq.trans rfl rfl
@[simp] theorem sl_l {own xs lo hi} : dSl own (.lst xs) lo hi S = mkL own (cutD xs lo hi) S := Eq.trans rfl rfl
/-- .. of small numbers -/
theorem mul_small {own : Bool} {i j : Int} (h1 : i.natAbs < 18446744073709551616) (h2 : j.natAbs < 18446744073709551616) : dMul own (.int i) (.int j) S = .ok (.int (i * j)) S := by
  have e : ∀ n : Nat, n < 18446744073709551616 → n.log2 ≤ 64 := fun n h => by
    by_cases q : n = 0
    · rw [q]; decide
    · have := (Nat.log2_lt q).mpr (show n < 2 ^ 64 from h)
      omega
  have := e _ h1
  have := e _ h2
  rw [mul_i, if_pos (by omega)]
section
variable {α β : Type} {it : Store → Option (List D)} {xs : List D} {T : Tgt} {C E : Sm} {B : Sst}
theorem lc_f (f g : α → D) (p : α → Bool) (h : it S = some xs) : ∀ (rs : List α), (∀ a ∈ rs, ∃ σ2, T (f a) σ = some σ2 ∧ C σ2 S = .ok (.bl (p a)) S ∧ (p a = true → E σ2 S = .ok (g a) S)) → lcGo it xs T C E σ (rs.map f) S = .ok (.tup ((rs.filter p).map g)) S
  | [], _ => lc_nil h
  | a :: rs, hr => by
    have ih := lc_f f g p h rs fun d hd => hr d (List.mem_cons_of_mem _ hd)
    obtain ⟨σ2, q1, q2, q3⟩ := hr a (List.mem_cons_self ..)
    rw [List.map_cons]
    cases hp : p a with
    | true => rw [lc_yes h q1 (hp ▸ q2) (q3 hp) ih, List.filter_cons_of_pos hp]; rfl
    | false => rw [lc_no h q1 (hp ▸ q2), ih, List.filter_cons_of_neg (by simp [hp])]
theorem lc_g (f g : α → D) (h : it S = some xs) (rs : List α) (hr : ∀ a ∈ rs, ∃ σ2, T (f a) σ = some σ2 ∧ C σ2 S = .ok (.bl true) S ∧ E σ2 S = .ok (g a) S) : lcGo it xs T C E σ (rs.map f) S = .ok (.tup (rs.map g)) S := by
  have := lc_f (C := C) (E := E) (T := T) (σ := σ) f g (fun _ => true) h rs fun d hd => by
    obtain ⟨σ2, a, b, c⟩ := hr d hd
    exact ⟨σ2, a, b, fun _ => c⟩
  rwa [List.filter_eq_self.mpr fun _ _ => rfl] at this
theorem for_f (f : α → D) (g : β → α → β) (R : β → Env1 → Store → Prop) (hit : ∀ b σ S, R b σ S → it S = some xs) : ∀ (rs : List α) (b : β) (σ : Env1) (S : Store), (∀ b a σ S, a ∈ rs → R b σ S → ∃ σ2 σ3 S3, T (f a) σ = some σ2 ∧ B σ2 S = .nx σ3 S3 ∧ R (g b a) σ3 S3) → R b σ S → ∃ σ' S', forGo it xs T B (rs.map f) σ S = .nx σ' S' ∧ R (rs.foldl g b) σ' S'
  | [], b, σ, S, _, r => ⟨σ, S, for_nil (hit _ _ _ r), r⟩
  | a :: rs, b, σ, S, h, r => by
    obtain ⟨σ2, σ3, S3, q1, q2, q3⟩ := h b a σ S (List.mem_cons_self ..) r
    obtain ⟨σ', S', q4, q5⟩ := for_f f g R hit rs (g b a) σ3 S3 (fun b a σ S ha => h b a σ S (List.mem_cons_of_mem _ ha)) q3
    exact ⟨σ', S', by rw [List.map_cons, for_nx (hit _ _ _ r) q1 q2, q4], q5⟩
theorem for_ct {d : D} {r : List D} {σ2 σ3 : Env1} {S3 : Store} (h : it S = some xs) (hT : T d σ = some σ2) (hB : B σ2 S = .ct σ3 S3) : forGo it xs T B (d :: r) σ S = forGo it xs T B r σ3 S3 := by
  conv => lhs; unfold forGo
  simp [h, hT, hB]
/-- a comprehension whose turns change the store, with the number of turns done -/
theorem lc_n {M : Nat} (I : Nat → Store → Prop) (Q : D → Prop) (h0 : ∀ n S, I n S → it S = some xs) : ∀ (r : List D) (n : Nat) (S : Store), n + r.length = M → (∀ d n S, d ∈ r → n < M → I n S → ∃ σ2 y S3, T d σ = some σ2 ∧ C σ2 S = .ok (.bl true) S ∧ E σ2 S = .ok y S3 ∧ I (n + 1) S3 ∧ Q y) → I n S → ∃ ys S', lcGo it xs T C E σ r S = .ok (.tup ys) S' ∧ I M S' ∧ ys.length = r.length ∧ ∀ y ∈ ys, Q y
  | [], n, S, e, _, i => ⟨[], S, lc_nil (h0 _ _ i), by
    have : n = M := by simpa using e
    rw [← this]; exact i, rfl, by simp⟩
  | d :: r, n, S, e, hr, i => by
    simp only [List.length_cons] at e
    obtain ⟨σ2, y, S3, q1, q2, q3, q4, q5⟩ := hr d n S (List.mem_cons_self ..) (by omega) i
    obtain ⟨ys, S', a1, a2, a3, a4⟩ := lc_n I Q h0 r (n + 1) S3 (by omega) (fun d n S hd => hr d n S (List.mem_cons_of_mem _ hd)) q4
    refine ⟨y :: ys, S', lc_yes (h0 _ _ i) q1 q2 q3 a1, a2, by simp [a3], ?_⟩
    intro z hz
    rcases List.mem_cons.mp hz with rfl | hz
    · exact q5
    · exact a4 z hz
theorem for_n_go (f : α → D) (g : β → α → β) (R : Nat → β → Env1 → Store → Prop) (N : Nat) (hit : ∀ n b σ S, R n b σ S → it S = some xs) : ∀ (rs : List α) (n : Nat) (b : β) (σ : Env1) (S : Store), n + rs.length = N → (∀ n b a σ S, a ∈ rs → n < N → R n b σ S → ∃ σ2 σ3 S3, T (f a) σ = some σ2 ∧ (B σ2 S = .nx σ3 S3 ∨ B σ2 S = .ct σ3 S3) ∧ R (n + 1) (g b a) σ3 S3) → R n b σ S → ∃ σ' S', forGo it xs T B (rs.map f) σ S = .nx σ' S' ∧ R N (rs.foldl g b) σ' S'
  | [], n, b, σ, S, e, _, r => ⟨σ, S, for_nil (hit _ _ _ _ r), by
    have : n = N := by simpa using e
    rw [← this]; exact r⟩
  | a :: rs, n, b, σ, S, e, h, r => by
    have hn : n < N := by rw [← e, List.length_cons]; omega
    obtain ⟨σ2, σ3, S3, q1, q2, q3⟩ := h n b a σ S (List.mem_cons_self ..) hn r
    obtain ⟨σ', S', q4, q5⟩ := for_n_go f g R N hit rs (n + 1) (g b a) σ3 S3 (by rw [← e, List.length_cons]; omega) (fun n b a σ S ha => h n b a σ S (List.mem_cons_of_mem _ ha)) q3
    refine ⟨σ', S', ?_, q5⟩
    rw [List.map_cons]
    rcases q2 with q2 | q2
    · rw [for_nx (hit _ _ _ _ r) q1 q2, q4]
    · rw [for_ct (hit _ _ _ _ r) q1 q2, q4]
/-- a loop, with the number of turns done -/
theorem for_n (f : α → D) (g : β → α → β) (R : Nat → β → Env1 → Store → Prop) (hit : ∀ n b σ S, R n b σ S → it S = some xs) (rs : List α) (b : β) (σ : Env1) (S : Store) (h : ∀ n b a σ S, a ∈ rs → n < rs.length → R n b σ S → ∃ σ2 σ3 S3, T (f a) σ = some σ2 ∧ (B σ2 S = .nx σ3 S3 ∨ B σ2 S = .ct σ3 S3) ∧ R (n + 1) (g b a) σ3 S3) (r : R 0 b σ S) : ∃ σ' S', forGo it xs T B (rs.map f) σ S = .nx σ' S' ∧ R rs.length (rs.foldl g b) σ' S' :=
  for_n_go f g R rs.length hit rs 0 b σ S (by omega) h r
end
end
/-- the store with more cells behind -/
def Sa (S : Store) (L : List Cell) : Store := { S with cs := S.cs ++ L }
section
variable {S : Store} {L : List Cell} {n i : Nat} {xs : List D} {c : Cell} {y d : D}
@[simp] theorem sa_cs : (Sa S L).cs = S.cs ++ L := Eq.trans rfl rfl
@[simp] theorem sa_os : (Sa S L).os = S.os := Eq.trans rfl rfl
@[simp] theorem sa_mkr : (Sa S L).mkr = S.mkr := Eq.trans rfl rfl
@[simp] theorem sa_vs : (Sa S L).vs = S.vs := Eq.trans rfl rfl
@[simp] theorem sa_nil : Sa S [] = S := by simp [Sa]
theorem sa_at (h : n = S.cs.length + i) : (Sa S L).cs[n]? = L[i]? := by
  subst h
  rw [sa_cs, List.getElem?_append_right (Nat.le_add_right _ _), Nat.add_sub_cancel_left]
theorem sa_get (h : n = S.cs.length + i) : (S.cs ++ L)[n]? = L[i]? := sa_at h
theorem sa_low (h : n < S.cs.length) : (Sa S L).cs[n]? = S.cs[n]? := by rw [sa_cs, List.getElem?_append_left h]
theorem sa_set (h : n = S.cs.length + i) : (S.cs ++ L).set n c = S.cs ++ L.set i c := by
  subst h
  rw [List.set_append_right _ _ (Nat.le_add_right _ _), Nat.add_sub_cancel_left]
theorem sa_new (hl : xs.length ≤ 16777216) (hp : D.pures xs = true) : mkL true xs (Sa S L) = .ok (.ref (S.cs.length + L.length)) (Sa S (L ++ [.lst xs])) := by
  unfold mkL
  rw [if_pos hl, if_pos rfl, if_pos hp]
  simp [Sa]
theorem sa_new0 (hl : xs.length ≤ 16777216) (hp : D.pures xs = true) : mkL true xs S = .ok (.ref S.cs.length) (Sa S [.lst xs]) := by
  have := sa_new (S := S) (L := []) hl hp
  simpa using this
theorem sa_seq (h : n = S.cs.length + i) (hi : L[i]? = some (.lst xs)) : seqOf (.ref n) (Sa S L) = some xs := by
  rw [seq_r, sa_at h, hi]
theorem sa_app (h : n = S.cs.length + i) (hi : L[i]? = some (.lst xs)) (hl : xs.length < 16777216) (hp : y.pure = true) : dAppend (.ref n) [y] (Sa S L) = .ok .non (Sa S (L.set i (.lst (xs ++ [y])))) := by
  unfold dAppend
  simp only [sa_at h, hi, hl, hp, and_self, if_true]
  simp [Sa, sa_set h]
theorem sa_isl (h : n = S.cs.length + i) (hi : L[i]? = some (.lst xs)) : isLstD (.ref n) (Sa S L) = true := by
  simp [isLstD, lstX, isTupD, sa_get h, hi]
theorem sa_tup (h : n = S.cs.length + i) (hi : L[i]? = some (.lst xs)) : dTuple (.ref n) (Sa S L) = mkT xs (Sa S L) := by
  show (match seqOf (.ref n) (Sa S L) with | some xs => mkT xs (Sa S L) | none => .bad) = _
  rw [sa_seq h hi]
theorem sa_len (h : n = S.cs.length + i) (hi : L[i]? = some (.lst xs)) : dLen (.ref n) (Sa S L) = .ok (.int xs.length) (Sa S L) := by
  unfold dLen
  simp [lenD, sa_seq h hi, sa_get h, hi]
theorem fin_sa (h : d.pure = true) : fin S d (Sa S.ent L) = .ok d S := by
  obtain ⟨c, o, v, m⟩ := S
  simp [fin, h, OsOk, Store.ret, Sa, Store.ent]
theorem sa_pop {k : Nat} (h : n = S.cs.length + i) (hi : L[i]? = some (.lst xs)) (hl : xs.length ≤ 16777216) (hk : xs[k]? = some y) : dPopAt (.ref n) [.int (k : Int)] (Sa S L) = .ok y (Sa S (L.set i (.lst (xs.eraseIdx k)))) := by
  have hlt := (List.getElem?_eq_some_iff.mp hk).1
  unfold dPopAt
  have h1 : (0 : Int) ≤ k ∧ (k : Int) < xs.length ∧ xs.length ≤ 16777216 := by omega
  simp only [sa_at h, hi, h1, and_self, if_true, Int.toNat_natCast, hk]
  simp [Sa, sa_set h]
theorem sa_frz (h : n = S.cs.length + i) (hi : L[i]? = some (.lst xs)) : frz (Sa S L) S.cs.length (.ref n) = .lst xs := by
  have : ¬ n < S.cs.length := by omega
  rw [frz]
  simp [this, sa_get h, hi]
theorem sa_ix {k : Nat} (h : n = S.cs.length + i) (hi : L[i]? = some (.lst xs)) (hk : xs[k]? = some y) : dIx (.ref n) (.int (k : Int)) (Sa S L) = .ok y (Sa S L) := by
  rw [ix_i, sa_seq h hi]
  simp [at_nat, hk]
theorem fin_frz {e : D} (h : frz (Sa S.ent L) S.cs.length d = e) (hp : e.pure = true) : fin S d (Sa S.ent L) = .ok e S := by
  obtain ⟨c, o, v, m⟩ := S
  simp only [fin]
  rw [h]
  simp [hp, OsOk, Store.ret, Sa, Store.ent]
end
end Ev
end

section
set_option maxHeartbeats 4000000
namespace Lw
open PySem PySem.Spec PyProof.Rows L2 Ev
open Classical
noncomputable def M_is_whole : Sst := (sRet (evAnd (evA (evCons (evVar 0) (evCons (evC (.ty "int")) evNil)) (twoL dIsi)) (evU (evA (evCons (evVar 0) (evCons (evC (.ty "bool")) evNil)) (twoL dIsi)) dNotV)))
noncomputable def F_is_whole : List D → Store → Res := runF false 1 (M_is_whole)
noncomputable def M_is_pair : Sst := (sSeq (sIf (evOrT (evU (evU (evA (evCons (evVar 0) (evCons (evA (evCons (evC (.ty "tuple")) (evCons (evC (.ty "list")) evNil)) mkT) evNil)) (twoL dIsi)) dTru) dNot) (evB (evA (evCons (evVar 0) evNil) (one dLen)) (evC (.int 2)) (dEq true))) (sRet (evC (.bl false))) sNil)
  (sRet (evAnd (evA (evCons (evB (evVar 0) (evC (.int 0)) dIx) evNil) (callF 1 [] F_is_whole)) (evAnd (evA (evCons (evB (evVar 0) (evC (.int 1)) dIx) evNil) (callF 1 [] F_is_whole)) (evB (evB (evVar 0) (evC (.int 1)) dIx) (evC (.int 0)) (dGt))))))
noncomputable def F_is_pair : List D → Store → Res := runF false 1 (M_is_pair)
noncomputable def M_lowest : Sst := (sSeq (sSet 2 (evIf (evB (evVar 1) (evC (.int 0)) (dGt)) (evA (evCons (evVar 0) (evCons (evVar 1) evNil)) (twoL dGcd)) (evU (evA (evCons (evVar 0) (evCons (evVar 1) evNil)) (twoL dGcd)) dNeg)))
  (sRet (evA (evCons (evB (evVar 0) (evVar 2) (dDiv)) (evCons (evB (evVar 1) (evVar 2) (dDiv)) evNil)) mkT)))
noncomputable def F_lowest : List D → Store → Res := runF false 3 (M_lowest)
noncomputable def M_told : Sst := (sSeq (sIf (evU (evA (evCons (evVar 0) evNil) (callF 1 [] F_is_whole)) dTru) (sRet (evA (evCons (evVar 0) (evCons (evC (.int 1)) evNil)) mkT)) sNil)
  (sSeq (sIf (evU (evU (evA (evCons (evVar 0) evNil) (callF 1 [] F_is_pair)) dTru) dNot) (sRaise "BadRow" ["row"] (evCons (evVar 0) evNil)) sNil)
  (sRet (evA (evCons (evB (evVar 0) (evC (.int 0)) dIx) (evCons (evB (evVar 0) (evC (.int 1)) dIx) evNil)) (callF 2 [] F_lowest)))))
noncomputable def F_told : List D → Store → Res := runF false 1 (M_told)
noncomputable def M_summed : Sst := (sRet (evA (evCons (evB (evB (evB (evVar 0) (evC (.int 0)) dIx) (evB (evVar 1) (evC (.int 1)) dIx) (dMul false)) (evB (evB (evVar 1) (evC (.int 0)) dIx) (evB (evVar 0) (evC (.int 1)) dIx) (dMul false)) (dAdd false)) (evCons (evB (evB (evVar 0) (evC (.int 1)) dIx) (evB (evVar 1) (evC (.int 1)) dIx) (dMul false)) evNil)) (callF 2 [] F_lowest)))
noncomputable def F_summed : List D → Store → Res := runF false 2 (M_summed)
noncomputable def M_plus : Sst := (sSeq (sPar2 2 3 (evCons (evA (evCons (evVar 0) evNil) (callF 1 [] F_told)) (evCons (evA (evCons (evVar 1) evNil) (callF 1 [] F_told)) evNil)))
  (sRet (evA (evCons (evVar 2) (evCons (evVar 3) evNil)) (callF 2 [] F_summed))))
noncomputable def F_plus : List D → Store → Res := runF false 4 (M_plus)
noncomputable def M_lessened : Sst := (sRet (evA (evCons (evB (evB (evB (evVar 0) (evC (.int 0)) dIx) (evB (evVar 1) (evC (.int 1)) dIx) (dMul false)) (evB (evB (evVar 1) (evC (.int 0)) dIx) (evB (evVar 0) (evC (.int 1)) dIx) (dMul false)) (dSub)) (evCons (evB (evB (evVar 0) (evC (.int 1)) dIx) (evB (evVar 1) (evC (.int 1)) dIx) (dMul false)) evNil)) (callF 2 [] F_lowest)))
noncomputable def F_lessened : List D → Store → Res := runF false 2 (M_lessened)
noncomputable def M_minus : Sst := (sSeq (sPar2 2 3 (evCons (evA (evCons (evVar 0) evNil) (callF 1 [] F_told)) (evCons (evA (evCons (evVar 1) evNil) (callF 1 [] F_told)) evNil)))
  (sRet (evA (evCons (evVar 2) (evCons (evVar 3) evNil)) (callF 2 [] F_lessened))))
noncomputable def F_minus : List D → Store → Res := runF false 4 (M_minus)
noncomputable def M_scaled : Sst := (sRet (evA (evCons (evB (evB (evVar 0) (evC (.int 0)) dIx) (evB (evVar 1) (evC (.int 0)) dIx) (dMul false)) (evCons (evB (evB (evVar 0) (evC (.int 1)) dIx) (evB (evVar 1) (evC (.int 1)) dIx) (dMul false)) evNil)) (callF 2 [] F_lowest)))
noncomputable def F_scaled : List D → Store → Res := runF false 2 (M_scaled)
noncomputable def M_times : Sst := (sSeq (sPar2 2 3 (evCons (evA (evCons (evVar 0) evNil) (callF 1 [] F_told)) (evCons (evA (evCons (evVar 1) evNil) (callF 1 [] F_told)) evNil)))
  (sRet (evA (evCons (evVar 2) (evCons (evVar 3) evNil)) (callF 2 [] F_scaled))))
noncomputable def F_times : List D → Store → Res := runF false 4 (M_times)
noncomputable def M_below : Sst := (sRet (evB (evB (evB (evVar 0) (evC (.int 0)) dIx) (evB (evVar 1) (evC (.int 1)) dIx) (dMul false)) (evB (evB (evVar 1) (evC (.int 0)) dIx) (evB (evVar 0) (evC (.int 1)) dIx) (dMul false)) (dLt)))
noncomputable def F_below : List D → Store → Res := runF false 2 (M_below)
noncomputable def M_less : Sst := (sSeq (sPar2 2 3 (evCons (evA (evCons (evVar 0) evNil) (callF 1 [] F_told)) (evCons (evA (evCons (evVar 1) evNil) (callF 1 [] F_told)) evNil)))
  (sRet (evA (evCons (evVar 2) (evCons (evVar 3) evNil)) (callF 2 [] F_below))))
noncomputable def F_less : List D → Store → Res := runF false 4 (M_less)
noncomputable def M_parted : Sst := (sRet (evA (evCons (evB (evB (evVar 0) (evC (.int 0)) dIx) (evB (evVar 1) (evC (.int 1)) dIx) (dMul false)) (evCons (evB (evB (evVar 0) (evC (.int 1)) dIx) (evB (evVar 1) (evC (.int 0)) dIx) (dMul false)) evNil)) (callF 2 [] F_lowest)))
noncomputable def F_parted : List D → Store → Res := runF false 2 (M_parted)
noncomputable def M_share : Sst := (sSeq (sPar2 2 3 (evCons (evA (evCons (evVar 0) evNil) (callF 1 [] F_told)) (evCons (evA (evCons (evVar 1) evNil) (callF 1 [] F_told)) evNil)))
  (sSeq (sIf (evB (evB (evVar 3) (evC (.int 0)) dIx) (evC (.int 0)) (dEq false)) (sRaise "BadNumber" ["what", "number"] (evCons (evC (.str "share")) (evCons (evC (.int 0)) evNil))) sNil)
  (sRet (evA (evCons (evVar 2) (evCons (evVar 3) evNil)) (callF 2 [] F_parted)))))
noncomputable def F_share : List D → Store → Res := runF false 4 (M_share)
noncomputable def M__law_fault (tb : TabK) : Sst := (sSeq (sTryF tb.kn (sExpr (evCallV 0 tb.tab)) [⟨"BadLot", "lot", ["lot"]⟩, ⟨"BadNumber", "number", ["what", "number"]⟩, ⟨"BadRow", "row", ["row"]⟩, ⟨"BadScene", "scene", ["what", "value"]⟩, ⟨"BadTable", "table", ["table"]⟩, ⟨"TooMany", "many", ["what", "many", "limit"]⟩, ⟨"Unlike", "unlike", ["what"]⟩])
  (sRet (evC .non)))
noncomputable def F__law_fault (tb : TabK) : List D → Store → Res := runF false 2 (M__law_fault tb)
noncomputable def E__law_are_due_0 (tb : TabK) : Sm := (evB (evA (evCons (evA (evCons (evVar 1) evNil) (callF 1 [] (F__law_fault tb))) evNil) dRepr1) (evA (evCons (evVar 2) evNil) dRepr1) (dEq false))
noncomputable def M__law_are_due (tb : TabK) : Sst := (sRet (evA (evCons (evLc false (evVar 0) seqOf (tgTup 2 (tgCons (tgN 1) (tgCons (tgN 2) tgNil))) (evC (.bl true)) (E__law_are_due_0 tb) [1, 2]) evNil) (one (dAll (·.all id)))))
noncomputable def F__law_are_due (tb : TabK) : List D → Store → Res := runF false 3 (M__law_are_due tb)
noncomputable def M__law_draw (pc : PenK) : Sst := (sSeq (sSub (evVar 0) (evC (.str "count")) (evB (evB (evVar 0) (evC (.str "count")) dDGet) (evC (.int 1)) (dAdd false)))
  (sSeq (sIf (evAndT (evB (evB (evVar 0) (evC (.str "digits")) dDGet) (evC (.int 0)) (dEq false)) (evB (evB (evVar 0) (evC (.str "at")) dDGet) (evA (evCons (evB (evVar 0) (evC (.str "cells")) dDGet) evNil) (one dLen)) (dLt))) (sSeq (sSet 2 (evB (evB (evVar 0) (evC (.str "cells")) dDGet) (evB (evVar 0) (evC (.str "at")) dDGet) dIx))
  (sSeq (sSub (evVar 0) (evC (.str "at")) (evB (evB (evVar 0) (evC (.str "at")) dDGet) (evC (.int 1)) (dAdd false)))
  (sIf (evB (evVar 2) (evB (evC (.int 10)) (evC (.int 18)) (dPow)) (dGe)) (sSub (evVar 0) (evC (.str "digits")) (evB (evVar 2) (evB (evC (.int 10)) (evC (.int 18)) (dPow)) (dSub))) (sSub (evVar 0) (evC (.str "fold")) (evB (evA (evCons (evB (evB (evB (evVar 0) (evC (.str "fold")) dDGet) (evC (.int pc.f)) (dMul false)) (evVar 2) (dAdd false)) evNil) (one dInt)) (evC (.int pc.m)) (dMod)))))) sNil)
  (sSeq (sIf (evB (evB (evVar 0) (evC (.str "digits")) dDGet) (evC (.int 0)) (dGt)) (sSeq (sSet 3 (evB (evA (evCons (evB (evVar 0) (evC (.str "digits")) dDGet) evNil) (one dInt)) (evVar 1) (dMod)))
  (sSeq (sSub (evVar 0) (evC (.str "digits")) (evB (evB (evVar 0) (evC (.str "digits")) dDGet) (evVar 1) (dDiv)))
  (sRet (evVar 3)))) sNil)
  (sSeq (sSet 4 (evB (evB (evB (evVar 0) (evC (.str "fold")) dDGet) (evB (evB (evVar 0) (evC (.str "count")) dDGet) (evC (.int pc.k1)) (dMul false)) (dAdd false)) (evC (.int pc.k2)) (dAdd false)))
  (sRet (evB (evB (evA (evCons (evB (evB (evVar 4) (evC (.int pc.e)) (dPow)) (evC (.int 2305843009213693951)) (dMod)) evNil) (one dInt)) (evC (.int pc.q)) (dDiv)) (evVar 1) (dMod)))))))
noncomputable def F__law_draw (pc : PenK) : List D → Store → Res := runF false 5 (M__law_draw pc)
noncomputable def M__law_pick (pc : PenK) : Sst := (sRet (evB (evVar 1) (evA (evCons (evVar 0) (evCons (evA (evCons (evVar 1) evNil) (one dLen)) evNil)) (callF 2 [] (F__law_draw pc))) dIx))
noncomputable def F__law_pick (pc : PenK) : List D → Store → Res := runF false 2 (M__law_pick pc)
noncomputable def M__law_handed (pc : PenK) : Sst := (sSeq (sIf (evAndT (evB (evB (evVar 1) (evC (.int 1)) dIx) (evC (.int 1)) (dEq false)) (evB (evA (evCons (evVar 0) (evCons (evC (.int 2)) evNil)) (callF 2 [] (F__law_draw pc))) (evC (.int 0)) (dEq false))) (sRet (evB (evVar 1) (evC (.int 0)) dIx)) sNil)
  (sSeq (sSet 2 (evA (evCons (evVar 0) (evCons (evA (evCons (evC (.int 1)) (evCons (evC (.int 1)) (evCons (evC (.int 2)) (evCons (evC (.int 5)) evNil)))) (mkL false)) evNil)) (callF 2 [] (F__law_pick pc))))
  (sRet (evA (evCons (evVar 0) (evCons (evA (evCons (evA (evCons (evB (evB (evVar 1) (evC (.int 0)) dIx) (evVar 2) (dMul false)) (evCons (evB (evB (evVar 1) (evC (.int 1)) dIx) (evVar 2) (dMul false)) evNil)) mkT) (evCons (evA (evCons (evB (evB (evVar 1) (evC (.int 0)) dIx) (evVar 2) (dMul false)) (evCons (evB (evB (evVar 1) (evC (.int 1)) dIx) (evVar 2) (dMul false)) evNil)) (mkL false)) evNil)) (mkL false)) evNil)) (callF 2 [] (F__law_pick pc))))))
noncomputable def F__law_handed (pc : PenK) : List D → Store → Res := runF false 3 (M__law_handed pc)
noncomputable def M__law_less : Sst := (sRet (evB (evB (evB (evVar 0) (evC (.int 0)) dIx) (evB (evVar 1) (evC (.int 1)) dIx) (dMul false)) (evB (evB (evVar 1) (evC (.int 0)) dIx) (evB (evVar 0) (evC (.int 1)) dIx) (dMul false)) (dLt)))
noncomputable def F__law_less : List D → Store → Res := runF false 2 (M__law_less)
noncomputable def L__law_gcd_0 : Sst := (sSeq (sIf (evB (evVar 1) (evC (.int 0)) (dEq false)) sBreak sNil)
  (sPar2 0 1 (evCons (evVar 1) (evCons (evB (evA (evCons (evVar 0) evNil) (one dInt)) (evVar 1) (dMod)) evNil))))
noncomputable def M__law_gcd : Sst := (sSeq (sPar2 0 1 (evCons (evA (evCons (evVar 0) evNil) (one dAbs)) (evCons (evA (evCons (evVar 1) evNil) (one dAbs)) evNil)))
  (sSeq (sFor (evCons (evB (evC (.int 4)) (evB (evC (.int 2)) (evU (evA (evCons (evVar 1) evNil) (one dInt)) dBits) (dMul false)) (dAdd false)) evNil) iRg1 (tgN 2) (L__law_gcd_0))
  (sRet (evVar 0))))
noncomputable def F__law_gcd : List D → Store → Res := runF false 3 (M__law_gcd)
noncomputable def M__law_q : Sst := (sSeq (sSet 2 (evA (evCons (evVar 0) (evCons (evVar 1) evNil)) (callF 2 [] F__law_gcd)))
  (sSeq (sSet 2 (evIf (evB (evVar 1) (evC (.int 0)) (dLt)) (evU (evVar 2) dNeg) (evVar 2)))
  (sRet (evA (evCons (evB (evVar 0) (evVar 2) (dDiv)) (evCons (evB (evVar 1) (evVar 2) (dDiv)) evNil)) mkT))))
noncomputable def F__law_q : List D → Store → Res := runF false 3 (M__law_q)
noncomputable def M__law_minus : Sst := (sRet (evA (evCons (evB (evB (evB (evVar 0) (evC (.int 0)) dIx) (evB (evVar 1) (evC (.int 1)) dIx) (dMul false)) (evB (evB (evVar 1) (evC (.int 0)) dIx) (evB (evVar 0) (evC (.int 1)) dIx) (dMul false)) (dSub)) (evCons (evB (evB (evVar 0) (evC (.int 1)) dIx) (evB (evVar 1) (evC (.int 1)) dIx) (dMul false)) evNil)) (callF 2 [] F__law_q)))
noncomputable def F__law_minus : List D → Store → Res := runF false 2 (M__law_minus)
noncomputable def M__law_number (pc : PenK) : Sst := (sSeq (sSet 2 (evB (evA (evCons (evVar 0) (evCons (evB (evB (evC (.int 2)) (evVar 1) (dMul false)) (evC (.int 1)) (dAdd false)) evNil)) (callF 2 [] (F__law_draw pc))) (evVar 1) (dSub)))
  (sRet (evA (evCons (evVar 2) (evCons (evA (evCons (evVar 0) (evCons (evA (evCons (evC (.int 1)) (evCons (evC (.int 1)) (evCons (evC (.int 1)) (evCons (evC (.int 2)) (evCons (evC (.int 3)) evNil))))) (mkL false)) evNil)) (callF 2 [] (F__law_pick pc))) evNil)) (callF 2 [] F__law_q))))
noncomputable def F__law_number (pc : PenK) : List D → Store → Res := runF false 3 (M__law_number pc)
noncomputable def L__law_pen_0 : Sst := (sSet 1 (evB (evA (evCons (evB (evB (evVar 1) (evC (.int 83)) (dMul false)) (evVar 2) (dAdd false)) evNil) (one dInt)) (evC (.int 999999761)) (dMod)))
noncomputable def M__law_pen : Sst := (sSeq (sSet 1 (evC (.int 0)))
  (sSeq (sFor (evVar 0) seqOf (tgN 2) (L__law_pen_0))
  (sRet (evDisp true [((evC (.str "cells")), (evA (evCons (evVar 0) evNil) (one (dList false)))), ((evC (.str "at")), (evC (.int 0))), ((evC (.str "digits")), (evC (.int 0))), ((evC (.str "count")), (evC (.int 0))), ((evC (.str "fold")), (evVar 1))]))))
noncomputable def F__law_pen : List D → Store → Res := runF true 3 (M__law_pen)
noncomputable def M__law_plus : Sst := (sRet (evA (evCons (evB (evB (evB (evVar 0) (evC (.int 0)) dIx) (evB (evVar 1) (evC (.int 1)) dIx) (dMul false)) (evB (evB (evVar 1) (evC (.int 0)) dIx) (evB (evVar 0) (evC (.int 1)) dIx) (dMul false)) (dAdd false)) (evCons (evB (evB (evVar 0) (evC (.int 1)) dIx) (evB (evVar 1) (evC (.int 1)) dIx) (dMul false)) evNil)) (callF 2 [] F__law_q)))
noncomputable def F__law_plus : List D → Store → Res := runF false 2 (M__law_plus)
noncomputable def M__law_share : Sst := (sRet (evA (evCons (evB (evB (evVar 0) (evC (.int 0)) dIx) (evB (evVar 1) (evC (.int 1)) dIx) (dMul false)) (evCons (evB (evB (evVar 0) (evC (.int 1)) dIx) (evB (evVar 1) (evC (.int 0)) dIx) (dMul false)) evNil)) (callF 2 [] F__law_q)))
noncomputable def F__law_share : List D → Store → Res := runF false 2 (M__law_share)
noncomputable def M__law_times : Sst := (sRet (evA (evCons (evB (evB (evVar 0) (evC (.int 0)) dIx) (evB (evVar 1) (evC (.int 0)) dIx) (dMul false)) (evCons (evB (evB (evVar 0) (evC (.int 1)) dIx) (evB (evVar 1) (evC (.int 1)) dIx) (dMul false)) evNil)) (callF 2 [] F__law_q)))
noncomputable def F__law_times : List D → Store → Res := runF false 2 (M__law_times)
noncomputable def M_is_ratio : Sst := (sRet (evOr (evA (evCons (evVar 0) evNil) (callF 1 [] F_is_whole)) (evAnd (evA (evCons (evVar 0) (evCons (evC (.ty "tuple")) evNil)) (twoL dIsi)) (evA (evCons (evVar 0) evNil) (callF 1 [] F_is_pair)))))
noncomputable def F_is_ratio : List D → Store → Res := runF false 1 (M_is_ratio)
end Lw
end

section
set_option maxHeartbeats 4000000
namespace Lw
open PySem PySem.Spec PyProof.Rows L2 Ev
open Classical
def pk : List Key := [.inr "cells", .inr "at", .inr "digits", .inr "count", .inr "fold"]
@[simp] theorem lk1 (a b c d e : D) : look (Sum.inr "count" : Key) pk [a, b, c, d, e] = some d := by kernel_rfl
@[simp] theorem lk3 (a b c d e : D) : look (Sum.inr "cells" : Key) pk [a, b, c, d, e] = some a := by kernel_rfl
@[simp] theorem lk4 (a b c d e : D) : look (Sum.inr "at" : Key) pk [a, b, c, d, e] = some b := by kernel_rfl
@[simp] theorem lk5 (a b c d e : D) : look (Sum.inr "digits" : Key) pk [a, b, c, d, e] = some c := by kernel_rfl
@[simp] theorem lk6 (a b c d e : D) : look (Sum.inr "fold" : Key) pk [a, b, c, d, e] = some e := by kernel_rfl
@[simp] theorem pt2 (a b c d e x : D) : put (Sum.inr "count" : Key) x pk [a, b, c, d, e] = (pk, [a, b, c, x, e]) := by kernel_rfl
@[simp] theorem pt3 (a b c d e x : D) : put (Sum.inr "at" : Key) x pk [a, b, c, d, e] = (pk, [a, x, c, d, e]) := by kernel_rfl
@[simp] theorem pt4 (a b c d e x : D) : put (Sum.inr "digits" : Key) x pk [a, b, c, d, e] = (pk, [a, b, x, d, e]) := by kernel_rfl
@[simp] theorem pt5 (a b c d e x : D) : put (Sum.inr "fold" : Key) x pk [a, b, c, d, e] = (pk, [a, b, c, d, x]) := by kernel_rfl
@[simp] theorem pkl : pk.length = 5 := rfl
/-- what the pen's numbers must be -/
structure PcOk (pc : PenK) : Prop where
  f0 : 0 ≤ pc.f
  f1 : pc.f < 1000000
  m0 : 0 < pc.m
  m1 : pc.m < 4294967296
  a0 : 0 ≤ pc.k1
  a1 : pc.k1 < 1000000
  b0 : 0 ≤ pc.k2
  b1 : pc.k2 < 1000000
  e0 : 0 ≤ pc.e
  e1 : pc.e ≤ 1000
  q0 : 0 < pc.q
  q1 : pc.q < 1000000
/-- the pen as a cell -/
def penC (ns : List Int) (a d c f : Int) : Cell := .dk pk [.lst (ns.map .int), .int a, .int d, .int c, .int f]
theorem lg {i : Int} (h0 : 0 ≤ i) (h1 : i < 4611686018427387904) : i.natAbs.log2 < 64 := by
  by_cases q : i.natAbs = 0
  · rw [q]; decide
  · exact (Nat.log2_lt q).mpr (by omega)
theorem pow18 : (10 : Int) ^ (18 : Int).toNat = 1000000000000000000 := by decide
@[simp] theorem keyOf_s {x} : keyOf (.str x) = some (.inr x) := Eq.trans rfl rfl
@[simp] theorem dGet_s {x : D} {y : Str} {S : Store} : dDGet x (.str y) S = (match dGetO x (.str y) S with
    | some (some d) => .ok d S
    | _ => .bad) := Eq.trans rfl rfl
@[simp] theorem dGetO_r {y : Str} {r : List Cell} {o v m} {ks vs} : dGetO (.ref 0) (.str y) ⟨.dk ks vs :: r, o, v, m⟩ = some (look (Sum.inr y : Key) ks vs) := Eq.trans rfl rfl
@[simp] theorem dSet_r {y : Str} {r : List Cell} {o v m} {ks vs} {d : D} : dSet (.ref 0) (.str y) d ⟨.dk ks vs :: r, o, v, m⟩ = (if d.pure = true ∧ ks.length < 16777216 ∧ D.pures (put (Sum.inr y : Key) d ks vs).2 = true then some ⟨.dk (put (Sum.inr y : Key) d ks vs).1 (put (Sum.inr y : Key) d ks vs).2 :: r, o, v, m⟩ else none) := Eq.trans rfl rfl
@[simp] theorem ent_mk {c o v m} : Store.ent ⟨c, o, v, m⟩ = ⟨c, o, v, none⟩ := Eq.trans rfl rfl
section
variable {pc : PenK}
theorem draw_digit (ns : List Int) (a d c f many : Int) (r : List Cell) (o : List OC) (v : List (Option D)) (m : Option Nat) (hd : 0 < d) (hm : 0 < many) (hl : many.natAbs.log2 < 9000) :
    F__law_draw pc [.ref 0, .int many] ⟨penC ns a d c f :: r, o, v, m⟩ = .ok (.int (d % many)) ⟨penC ns a (d / many) (c + 1) f :: r, o, v, m⟩ := by
  have hd0 : d ≠ 0 := by omega
  simp [penC, F__law_draw, runF, M__law_draw, startD, hd, hm, hl, hd0, fin_pen]
/-- no digits, no more numbers: the blend -/
theorem draw_blend (ok : PcOk pc) (ns : List Int) (a c f many : Int) (r : List Cell) (o : List OC) (v : List (Option D)) (m : Option Nat) (ha : ns.length ≤ a) (hc : 0 ≤ c) (hc1 : c ≤ 1000000000) (hf : 0 ≤ f) (hf1 : f < pc.m) (hm : 0 < many) (hl : many.natAbs.log2 < 9000) :
    ∃ x : Int, 0 ≤ x ∧ x < many ∧ F__law_draw pc [.ref 0, .int many] ⟨penC ns a 0 c f :: r, o, v, m⟩ = .ok (.int x) ⟨penC ns a 0 (c + 1) f :: r, o, v, m⟩ := by
  obtain ⟨f0, f1, m0, m1, a0, a1, b0, b1, e0, e1, q0, q1⟩ := ok
  refine ⟨(f + (c + 1) * pc.k1 + pc.k2) ^ pc.e.toNat % 2305843009213693951 / pc.q % many, Int.emod_nonneg _ (by omega), Int.emod_lt_of_pos _ hm, ?_⟩
  have h1 : ¬ a < ns.length := by omega
  have h2 : (c + 1).natAbs.log2 + pc.k1.natAbs.log2 < 1000000 := by
    have e := lg (i := c + 1) (by omega) (by omega)
    have e2 := lg a0 (by omega)
    omega
  have h3 : (f + (c + 1) * pc.k1 + pc.k2).natAbs < 18446744073709551616 := by
    have g0 : 0 ≤ (c + 1) * pc.k1 := Int.mul_nonneg (by omega) a0
    have g1 : (c + 1) * pc.k1 ≤ 1000000001 * 1000000 := Int.mul_le_mul (by omega) (by omega) a0 (by omega)
    omega
  have h4 : pc.q.natAbs.log2 < 9000 := by
    have := lg (i := pc.q) (by omega) (by omega)
    omega
  have e1' : pc.e ≤ 1000000 := by omega
  simp [penC, F__law_draw, runF, M__law_draw, startD, h1, h2, h3, h4, e0, e1', q0, hm, hl, fin_pen]
/-- no digits, a small number: it goes into the fold -/
theorem draw_small (ok : PcOk pc) (ns : List Int) (a : Nat) (z c f many : Int) (r : List Cell) (o : List OC) (v : List (Option D)) (m : Option Nat) (ha : ns[a]? = some z) (hz : z < 1000000000000000000) (hc : 0 ≤ c) (hc1 : c ≤ 1000000000) (hf : 0 ≤ f) (hf1 : f < pc.m) (hm : 0 < many) (hl : many.natAbs.log2 < 9000) :
    ∃ x : Int, 0 ≤ x ∧ x < many ∧ F__law_draw pc [.ref 0, .int many] ⟨penC ns a 0 c f :: r, o, v, m⟩ = .ok (.int x) ⟨penC ns (a + 1) 0 (c + 1) ((f * pc.f + z) % pc.m) :: r, o, v, m⟩ := by
  obtain ⟨f0, f1, m0, m1, a0, a1, b0, b1, e0, e1, q0, q1⟩ := ok
  refine ⟨((f * pc.f + z) % pc.m + (c + 1) * pc.k1 + pc.k2) ^ pc.e.toNat % 2305843009213693951 / pc.q % many, Int.emod_nonneg _ (by omega), Int.emod_lt_of_pos _ hm, ?_⟩
  have h1 : a < ns.length := (List.getElem?_eq_some_iff.mp ha).1
  have g2 := Int.emod_nonneg (f * pc.f + z) (b := pc.m) (by omega)
  have g3 := Int.emod_lt_of_pos (f * pc.f + z) m0
  have h2 : (c + 1).natAbs.log2 + pc.k1.natAbs.log2 < 1000000 := by
    have e := lg (i := c + 1) (by omega) (by omega)
    have e2 := lg a0 (by omega)
    omega
  have h5 : f.natAbs.log2 + pc.f.natAbs.log2 < 1000000 := by
    have e := lg (i := f) (by omega) (by omega)
    have e2 := lg f0 (by omega)
    omega
  have h3 : ((f * pc.f + z) % pc.m + (c + 1) * pc.k1 + pc.k2).natAbs < 18446744073709551616 := by
    have g0 : 0 ≤ (c + 1) * pc.k1 := Int.mul_nonneg (by omega) a0
    have g1 : (c + 1) * pc.k1 ≤ 1000000001 * 1000000 := Int.mul_le_mul (by omega) (by omega) a0 (by omega)
    omega
  have h4 : pc.q.natAbs.log2 < 9000 := by
    have := lg (i := pc.q) (by omega) (by omega)
    omega
  have h6 : atI (ns.map D.int) (a : Int) = some (.int z) := by
    rw [at_nat]; simp [ha]
  have h7 : ¬ (1000000000000000000 : Int) ≤ z := by omega
  have e1' : pc.e ≤ 1000000 := by omega
  simp [penC, F__law_draw, runF, M__law_draw, startD, pow18, h1, h2, h3, h4, h5, h6, h7, e0, e1', m0, q0, hm, hl, fin_pen]
/-- no digits, a great number: its digits come -/
theorem draw_great (ns : List Int) (a : Nat) (z c f many : Int) (r : List Cell) (o : List OC) (v : List (Option D)) (m : Option Nat) (ha : ns[a]? = some z) (hz : 1000000000000000000 < z) (hm : 0 < many) (hl : many.natAbs.log2 < 9000) :
    F__law_draw pc [.ref 0, .int many] ⟨penC ns a 0 c f :: r, o, v, m⟩ = .ok (.int ((z - 1000000000000000000) % many)) ⟨penC ns (a + 1) ((z - 1000000000000000000) / many) (c + 1) f :: r, o, v, m⟩ := by
  have h1 : a < ns.length := (List.getElem?_eq_some_iff.mp ha).1
  have h6 : atI (ns.map D.int) (a : Int) = some (.int z) := by
    rw [at_nat]; simp [ha]
  have h7 : (1000000000000000000 : Int) ≤ z := by omega
  simp [penC, F__law_draw, runF, M__law_draw, startD, h1, h6, h7, hz, pow18, hm, hl, fin_pen]
/-- no digits, just 10 ** 18: no digits come -/
theorem draw_edge (ok : PcOk pc) (ns : List Int) (a : Nat) (c f many : Int) (r : List Cell) (o : List OC) (v : List (Option D)) (m : Option Nat) (ha : ns[a]? = some 1000000000000000000) (hc : 0 ≤ c) (hc1 : c ≤ 1000000000) (hf : 0 ≤ f) (hf1 : f < pc.m) (hm : 0 < many) (hl : many.natAbs.log2 < 9000) :
    ∃ x : Int, 0 ≤ x ∧ x < many ∧ F__law_draw pc [.ref 0, .int many] ⟨penC ns a 0 c f :: r, o, v, m⟩ = .ok (.int x) ⟨penC ns (a + 1) 0 (c + 1) f :: r, o, v, m⟩ := by
  obtain ⟨f0, f1, m0, m1, a0, a1, b0, b1, e0, e1, q0, q1⟩ := ok
  refine ⟨(f + (c + 1) * pc.k1 + pc.k2) ^ pc.e.toNat % 2305843009213693951 / pc.q % many, Int.emod_nonneg _ (by omega), Int.emod_lt_of_pos _ hm, ?_⟩
  have h1 : a < ns.length := (List.getElem?_eq_some_iff.mp ha).1
  have h2 : (c + 1).natAbs.log2 + pc.k1.natAbs.log2 < 1000000 := by
    have e := lg (i := c + 1) (by omega) (by omega)
    have e2 := lg a0 (by omega)
    omega
  have h3 : (f + (c + 1) * pc.k1 + pc.k2).natAbs < 18446744073709551616 := by
    have g0 : 0 ≤ (c + 1) * pc.k1 := Int.mul_nonneg (by omega) a0
    have g1 : (c + 1) * pc.k1 ≤ 1000000001 * 1000000 := Int.mul_le_mul (by omega) (by omega) a0 (by omega)
    omega
  have h4 : pc.q.natAbs.log2 < 9000 := by
    have := lg (i := pc.q) (by omega) (by omega)
    omega
  have h6 : atI (ns.map D.int) (a : Int) = some (.int 1000000000000000000) := by
    rw [at_nat]; simp [ha]
  have e1' : pc.e ≤ 1000000 := by omega
  simp [penC, F__law_draw, runF, M__law_draw, startD, pow18, h1, h2, h3, h4, h6, e0, e1', q0, hm, hl, fin_pen]
/-- a pen that has been drawn from N times at most -/
structure PenOk (pc : PenK) (ns : List Int) (N : Nat) (p : Cell) : Prop where
  ok : PcOk pc
  hn : ns.length ≤ 63
  ex : ∃ (a : Nat) (d c f : Int), p = penC ns a d c f ∧ a ≤ ns.length ∧ 0 ≤ d ∧ 0 ≤ c ∧ c ≤ N ∧ 0 ≤ f ∧ f < pc.m
theorem PenOk.mono {ns N M p} (h : PenOk pc ns N p) (q : N ≤ M) : PenOk pc ns M p := by
  obtain ⟨ok, hn, a, d, c, f, rfl, h1, h2, h3, h4, h5, h6⟩ := h
  exact ⟨ok, hn, a, d, c, f, rfl, h1, h2, h3, by omega, h5, h6⟩
theorem draw {ns : List Int} {N : Nat} {p : Cell} {many : Int} {r : List Cell} {o : List OC} {v : List (Option D)} {m : Option Nat} (hp : PenOk pc ns N p) (hN : N ≤ 1000000000) (hm : 0 < many) (hl : many < 1000000000) :
    ∃ (x : Int) (p' : Cell), 0 ≤ x ∧ x < many ∧ PenOk pc ns (N + 1) p' ∧ F__law_draw pc [.ref 0, .int many] ⟨p :: r, o, v, m⟩ = .ok (.int x) ⟨p' :: r, o, v, m⟩ := by
  obtain ⟨ok, hn, a, d, c, f, rfl, h1, h2, h3, h3', h4, h5⟩ := hp
  have hl : many.natAbs.log2 < 9000 := by
    have := lg (i := many) (by omega) (by omega)
    omega
  have hpm := ok.m0
  by_cases hd : 0 < d
  · exact ⟨_, _, Int.emod_nonneg _ (by omega), Int.emod_lt_of_pos _ hm, ⟨ok, hn, a, d / many, c + 1, f, rfl, h1, Int.ediv_nonneg h2 (by omega), by omega, by omega, h4, h5⟩, draw_digit ns a d c f many r o v m hd hm hl⟩
  · have hd0 : d = 0 := by omega
    subst hd0
    by_cases ha : a < ns.length
    · have hg : ns[a]? = some ns[a] := List.getElem?_eq_getElem ha
      rcases Int.lt_trichotomy ns[a] 1000000000000000000 with hz | hz | hz
      · obtain ⟨x, q1, q2, q3⟩ := draw_small ok ns a ns[a] c f many r o v m hg hz (by omega) (by omega) h4 h5 hm hl
        exact ⟨x, _, q1, q2, ⟨ok, hn, a + 1, 0, c + 1, _, rfl, ha, by omega, by omega, by omega, Int.emod_nonneg _ (by omega), Int.emod_lt_of_pos _ (by omega)⟩, q3⟩
      · rw [hz] at hg
        obtain ⟨x, q1, q2, q3⟩ := draw_edge ok ns a c f many r o v m hg (by omega) (by omega) h4 h5 hm hl
        exact ⟨x, _, q1, q2, ⟨ok, hn, a + 1, 0, c + 1, f, rfl, ha, by omega, by omega, by omega, h4, h5⟩, q3⟩
      · exact ⟨_, _, Int.emod_nonneg _ (by omega), Int.emod_lt_of_pos _ hm, ⟨ok, hn, a + 1, (ns[a] - 1000000000000000000) / many, c + 1, f, rfl, ha, Int.ediv_nonneg (by omega) (by omega), by omega, by omega, h4, h5⟩, draw_great ns a ns[a] c f many r o v m hg hz hm hl⟩
    · obtain ⟨x, q1, q2, q3⟩ := draw_blend ok ns a c f many r o v m (by omega) (by omega) (by omega) h4 h5 hm hl
      exact ⟨x, _, q1, q2, ⟨ok, hn, a, 0, c + 1, f, rfl, h1, by omega, by omega, by omega, h4, h5⟩, q3⟩
/-- one of some -/
theorem pick {ns : List Int} {N : Nat} {p : Cell} {xs : List D} {r : List Cell} {o : List OC} {v : List (Option D)} {m : Option Nat} (hp : PenOk pc ns N p) (hN : N ≤ 1000000000) (h0 : xs ≠ []) (hx : xs.length ≤ 100000) (hpu : D.pures xs = true) :
    ∃ (d : D) (p' : Cell), d ∈ xs ∧ PenOk pc ns (N + 1) p' ∧ F__law_pick pc [.ref 0, .lst xs] ⟨p :: r, o, v, m⟩ = .ok d ⟨p' :: r, o, v, m⟩ := by
  have hlen : 0 < xs.length := List.length_pos_iff.mpr h0
  obtain ⟨x, p', q1, q2, q3, q4⟩ := draw (many := xs.length) (r := r) (o := o) (v := v) (m := none) hp hN (by omega) (by omega)
  have hi : x.toNat < xs.length := by omega
  refine ⟨xs[x.toNat], p', List.getElem_mem hi, q3, ?_⟩
  have hat : atI xs x = some xs[x.toNat] := by
    have e := at_nat xs x.toNat
    rw [show (x.toNat : Int) = x by omega] at e
    simp [e, hi]
  have hd := pures_iff.mp hpu _ (List.getElem_mem hi)
  simp [F__law_pick, runF, M__law_pick, startD, q4, hat, fin_pen, hd]
/-- the pen's loop -/
theorem pen_loop (ns : List Int) : ∀ (rest : List Int) (f : Int) (x : Option D) (S : Store), 0 ≤ f → f < 999999761 → ∃ (f' : Int) (x' : Option D), 0 ≤ f' ∧ f' < 999999761 ∧
    forGo (seqOf (.scr (ns.map .int))) (ns.map .int) (tgN 2) L__law_pen_0 (rest.map .int) [some (.scr (ns.map .int)), some (.int f), x] S = .nx [some (.scr (ns.map .int)), some (.int f'), x'] S
  | [], f, x, S, h0, h1 => ⟨f, x, h0, h1, by simp [forGo]⟩
  | z :: r, f, x, S, h0, h1 => by
    obtain ⟨f', x', q1, q2, q3⟩ := pen_loop ns r ((f * 83 + z) % 999999761) (some (.int z)) S (Int.emod_nonneg _ (by omega)) (Int.emod_lt_of_pos _ (by omega))
    refine ⟨f', x', q1, q2, ?_⟩
    have h2 : f.natAbs.log2 + Nat.log2 83 < 1000000 := by
      have e := lg h0 (by omega)
      have e2 : Nat.log2 83 = 6 := by decide +kernel
      omega
    rw [List.map_cons, for_nx rfl rfl (show L__law_pen_0 _ S = .nx [some (.scr (ns.map .int)), some (.int ((f * 83 + z) % 999999761)), some (.int z)] S by simp [L__law_pen_0, h2]), q3]
theorem fold_pen (a b c d e : D) : foldPut [(Sum.inr "cells", a), (Sum.inr "at", b), (Sum.inr "digits", c), (Sum.inr "count", d), (Sum.inr "fold", e)] = (pk, [a, b, c, d, e]) := by kernel_rfl
theorem pen {ns : List Int} (ok : PcOk pc) (hpm : 999999761 ≤ pc.m) (hn : ns.length ≤ 63) (o : List OC) (v : List (Option D)) (m : Option Nat) : ∃ p, PenOk pc ns 0 p ∧ F__law_pen [.scr (ns.map .int)] ⟨[], o, v, m⟩ = .ok (.ref 0) ⟨[p], o, v, m⟩ := by
  obtain ⟨f, x, h0, h1, hf⟩ := pen_loop ns ns 0 none ⟨[], o, v, none⟩ (by omega) (by omega)
  refine ⟨penC ns 0 0 0 f, ⟨ok, hn, 0, 0, 0, f, rfl, by omega, by omega, by omega, by omega, h0, by omega⟩, ?_⟩
  have hl : ns.length ≤ 16777216 := by omega
  simp [F__law_pen, runF, M__law_pen, startD, Res.go, hf, hl, dDisp, pairUp, fold_pen, mkDk, finO, OsOk, Store.retO, Store.ret, penC]
end
end Lw
end

section
set_option maxHeartbeats 4000000
namespace Lw
open PySem PySem.Spec PyProof.Rows L2 Ev
open Classical
section
variable {S : Store}
abbrev it1 (n : Int) : Store → Option (List D) := iRg1 (.tup [.int n])
theorem gcd_step (x y : Nat) : Nat.gcd y (x % y) = Nat.gcd x y := by
  rw [Nat.gcd_comm x y, Nat.gcd_rec y x, Nat.gcd_comm]
theorem gcd_turn (x y : Nat) (z : Option D) (hy : 0 < y) : L__law_gcd_0 [some (.int x), some (.int y), z] S = .nx [some (.int y), some (.int ((x % y : Nat) : Int)), z] S := by
  have h : y ≠ 0 := by omega
  simp [L__law_gcd_0, hy, h]
theorem gcd_stop (x : Nat) (z : Option D) : L__law_gcd_0 [some (.int x), some (.int 0), z] S = .bk [some (.int x), some (.int 0), z] S := by
  simp [L__law_gcd_0]
theorem gcd_loop {it : Store → Option (List D)} {xs : List D} (hit : it S = some xs) : ∀ (k x y : Nat) (L : List D) (z : Option D), y < 2 ^ k → 2 * k + 1 ≤ L.length → ∃ z', forGo it xs (tgN 2) L__law_gcd_0 L [some (.int x), some (.int y), z] S = .nx [some (.int (Nat.gcd x y : Nat)), some (.int 0), z'] S := by
  intro k
  induction k with
  | zero =>
    intro x y L z hy hL
    have hy0 : y = 0 := by simp at hy; exact hy
    subst hy0
    rcases L with _ | ⟨d, L⟩
    · simp at hL
    · refine ⟨some d, ?_⟩
      unfold forGo
      simp [hit, gcd_stop]
  | succ k ih =>
    intro x y L z hy hL
    rcases L with _ | ⟨d1, _ | ⟨d2, L⟩⟩
    · simp at hL
    · simp at hL
    · by_cases h0 : y = 0
      · subst h0
        refine ⟨some d1, ?_⟩
        unfold forGo
        simp [hit, gcd_stop]
      · have hy0 : 0 < y := by omega
        by_cases h1 : x % y = 0
        · refine ⟨some d2, ?_⟩
          unfold forGo
          have e := gcd_turn (S := S) x y (some d1) hy0
          rw [h1] at e
          simp only [hit, if_true, tg_n, List.set_cons_succ, List.set_cons_zero, e]
          unfold forGo
          have e2 : Nat.gcd x y = y := by rw [← gcd_step, h1, Nat.gcd_zero_right]
          simp [hit, gcd_stop, e2]
        · have hm := Nat.mod_lt x hy0
          have hm1 : 0 < x % y := by omega
          have hlt : y % (x % y) < 2 ^ k := by
            have a1 := Nat.mod_lt y hm1
            have a2 : y % (x % y) ≤ y - x % y := by
              rw [Nat.mod_eq_sub_mod (by omega)]
              exact Nat.mod_le _ _
            have : 2 ^ (k + 1) = 2 * 2 ^ k := by rw [Nat.pow_succ]; omega
            omega
          obtain ⟨z', hz⟩ := ih (x % y) (y % (x % y)) L (some d2) hlt (by simp at hL; omega)
          refine ⟨z', ?_⟩
          unfold forGo
          simp only [hit, if_true, tg_n, List.set_cons_succ, List.set_cons_zero, gcd_turn x y (some d1) hy0]
          unfold forGo
          simp only [hit, if_true, tg_n, List.set_cons_succ, List.set_cons_zero, gcd_turn y (x % y) (some d2) hm1, hz]
          rw [gcd_step, gcd_step]
@[simp] theorem law_gcd {a b : Int} (hb : b.natAbs.log2 < 1000000) : F__law_gcd [.int a, .int b] S = .ok (.int (Nat.gcd a.natAbs b.natAbs : Nat)) S := by
  have eabs : ∀ i : Int, (if i < 0 then -i else i) = (i.natAbs : Int) := fun i => by split <;> omega
  have hbits : Builtin.Int.intBits ((b.natAbs : Nat) : Int) ≤ 1000000 ∧ b.natAbs < 2 ^ (Builtin.Int.intBits ((b.natAbs : Nat) : Int)) := by
    unfold Builtin.Int.intBits
    by_cases h : b.natAbs = 0
    · rw [h]; decide
    · have h' : (((b.natAbs : Nat) : Int) == 0) = false := by rw [beq_eq_false_iff_ne]; omega
      rw [h', if_neg Bool.false_ne_true, Int.natAbs_natCast]
      exact ⟨hb, Nat.lt_log2_self⟩
  generalize hk : Builtin.Int.intBits ((b.natAbs : Nat) : Int) = k at hbits
  have hl : (2 : Int).natAbs.log2 + (k : Int).natAbs.log2 < 1000000 := by
    have : (k : Int).natAbs.log2 < 64 := lg (by omega) (by omega)
    have e2 : (2 : Int).natAbs.log2 = 1 := by decide +kernel
    omega
  have hbig : big62 (4 + 2 * (k : Int)) = true := by simp [big62]; omega
  obtain ⟨z, hz⟩ := gcd_loop (S := S.ent) (it := it1 (4 + 2 * (k : Int))) (xs := rngL 0 (4 + 2 * (k : Int)).toNat) (by simp [it1, hbig]) k a.natAbs b.natAbs (rngL 0 (4 + 2 * (k : Int)).toNat) none hbits.2 (by simp [rngL]; omega)
  have hl' : Nat.log2 2 + Nat.log2 k < 1000000 := by simpa using hl
  simp [F__law_gcd, runF, M__law_gcd, startD, eabs, hk, hl', hbig, hz]

/-- the pair in lowest terms -/
def lowQ (t b : Int) : Int × Int := if 0 < b then (t / (Nat.gcd t.natAbs b.natAbs : Nat), b / (Nat.gcd t.natAbs b.natAbs : Nat)) else (t.fdiv (-(Nat.gcd t.natAbs b.natAbs : Nat)), b.fdiv (-(Nat.gcd t.natAbs b.natAbs : Nat)))
abbrev rat (p : Int × Int) : D := .tup [.int p.1, .int p.2]
theorem log2_gcd {a b : Nat} (hb : b ≠ 0) : (Nat.gcd a b).log2 ≤ b.log2 := by
  have h1 : Nat.gcd a b ≤ b := Nat.gcd_le_right a (by omega)
  have h0 : Nat.gcd a b ≠ 0 := by intro h; exact hb (Nat.eq_zero_of_gcd_eq_zero_right h)
  have h2 := Nat.log2_self_le h0
  have h3 : 2 ^ (Nat.gcd a b).log2 ≤ b := by omega
  exact (Nat.le_log2 hb).mpr h3
/-- a bottom that the program can divide by -/
def okB (b : Int) : Prop := (0 < b ∧ b.natAbs.log2 < 9000) ∨ (b < 0 ∧ b.natAbs < 1073741824)
theorem gcd_pos {t b : Int} (hb : b ≠ 0) : (0 : Int) < (Nat.gcd t.natAbs b.natAbs : Nat) := by
  have : Nat.gcd t.natAbs b.natAbs ≠ 0 := by
    intro h
    have := Nat.eq_zero_of_gcd_eq_zero_right h
    omega
  omega
theorem gcd_le {t b : Int} (hb : b ≠ 0) : Nat.gcd t.natAbs b.natAbs ≤ b.natAbs := Nat.gcd_le_right _ (by omega)
@[simp] theorem f_lowest {t b : Int} (h : okB b) : F_lowest [.int t, .int b] S = .ok (rat (lowQ t b)) S := by
  rcases h with ⟨h1, h2⟩ | ⟨h1, h2⟩
  · have g := gcd_pos (t := t) (b := b) (by omega)
    have g2 : (Nat.gcd t.natAbs b.natAbs).log2 < 9000 := Nat.lt_of_le_of_lt (log2_gcd (by omega)) h2
    have g3 : 0 < Nat.gcd t.natAbs b.natAbs := by omega
    simp [F_lowest, runF, M_lowest, startD, lowQ, h1, g3, g2, -Nat.gcd_pos_iff, Nat.pos_iff_ne_zero]
  · have g := gcd_pos (t := t) (b := b) (by omega)
    have g2 := gcd_le (t := t) (b := b) (by omega)
    have n1 : ¬ 0 < b := by omega
    generalize hg : Nat.gcd t.natAbs b.natAbs = G at g g2
    have n2 : ¬ (0 : Int) < -(G : Int) := by omega
    have n3 : -(G : Int) < 0 := by omega
    have n4 : G < 1073741824 := by omega
    have n5 : 0 < G := by omega
    have n7 : ¬ (G : Int) < 0 := by omega
    simp [F_lowest, runF, M_lowest, startD, lowQ, n1, hg, n4, n5, n7]
@[simp] theorem law_q {t b : Int} (h : okB b) : F__law_q [.int t, .int b] S = .ok (rat (lowQ t b)) S := by
  rcases h with ⟨h1, h2⟩ | ⟨h1, h2⟩
  · have g := gcd_pos (t := t) (b := b) (by omega)
    have g2 : (Nat.gcd t.natAbs b.natAbs).log2 < 9000 := Nat.lt_of_le_of_lt (log2_gcd (by omega)) h2
    have g3 : 0 < Nat.gcd t.natAbs b.natAbs := by omega
    have n1 : ¬ b < 0 := by omega
    have n2 : b.natAbs.log2 < 1000000 := by omega
    simp [F__law_q, runF, M__law_q, startD, lowQ, h1, g3, g2, n1, n2, -Nat.gcd_pos_iff, Nat.pos_iff_ne_zero]
  · have g := gcd_pos (t := t) (b := b) (by omega)
    have g2 := gcd_le (t := t) (b := b) (by omega)
    have n1 : ¬ 0 < b := by omega
    have n6 : b.natAbs.log2 < 1000000 := by
      have := (Nat.log2_lt (n := b.natAbs) (k := 30) (by omega)).mpr (by omega)
      omega
    generalize hg : Nat.gcd t.natAbs b.natAbs = G at g g2
    have n2 : ¬ (0 : Int) < -(G : Int) := by omega
    have n3 : -(G : Int) < 0 := by omega
    have n4 : G < 1073741824 := by omega
    have n5 : 0 < G := by omega
    have n7 : ¬ (G : Int) < 0 := by omega
    simp [F__law_q, runF, M__law_q, startD, lowQ, n1, h1, hg, n4, n5, n6, n7]

/-- a told ratio -/
structure Rt (p : Int × Int) : Prop where
  pos : 0 < p.2
  low : Nat.gcd p.1.natAbs p.2.natAbs = 1
/-- .. of numbers below a bound -/
structure RtB (B : Nat) (p : Int × Int) : Prop extends Rt p where
  b1 : p.1.natAbs ≤ B
  b2 : p.2.natAbs ≤ B
theorem lowQ_pos {t b : Int} (h : 0 < b) : lowQ t b = (t / (Nat.gcd t.natAbs b.natAbs : Nat), b / (Nat.gcd t.natAbs b.natAbs : Nat)) := if_pos h
theorem dvd_gcd_l (t b : Int) : ((Nat.gcd t.natAbs b.natAbs : Nat) : Int) ∣ t := Int.ofNat_dvd_left.mpr (Nat.gcd_dvd_left _ _)
theorem dvd_gcd_r (t b : Int) : ((Nat.gcd t.natAbs b.natAbs : Nat) : Int) ∣ b := Int.ofNat_dvd_left.mpr (Nat.gcd_dvd_right _ _)
theorem natAbs_div {t : Int} {g : Nat} (hg : 0 < g) (hd : (g : Int) ∣ t) : (t / (g : Int)).natAbs = t.natAbs / g := by
  rw [Int.natAbs_ediv_of_dvd hd, Int.natAbs_natCast]
theorem lowQ_rt {t b : Int} (h : b ≠ 0) : Rt (lowQ t b) := by
  have g0 := gcd_pos (t := t) h
  have gn : 0 < Nat.gcd t.natAbs b.natAbs := by omega
  have hc : Nat.gcd (t.natAbs / Nat.gcd t.natAbs b.natAbs) (b.natAbs / Nat.gcd t.natAbs b.natAbs) = 1 := by
    rw [Nat.gcd_div (Nat.gcd_dvd_left _ _) (Nat.gcd_dvd_right _ _), Nat.div_self gn]
  by_cases hb : 0 < b
  · rw [lowQ_pos hb]
    refine ⟨?_, ?_⟩
    · obtain ⟨c, hc⟩ := dvd_gcd_r t b
      show 0 < b / _
      have hcp : 0 < c := by
        rcases Int.lt_trichotomy c 0 with q | q | q
        · have := Int.mul_neg_of_pos_of_neg g0 q; omega
        · subst q; simp at hc; omega
        · exact q
      conv => rhs; arg 1; rw [hc]
      rw [Int.mul_ediv_cancel_left _ (by omega)]
      exact hcp
    · show Nat.gcd (t / _).natAbs (b / _).natAbs = 1
      rw [natAbs_div gn (dvd_gcd_l t b), natAbs_div gn (dvd_gcd_r t b)]
      exact hc
  · have e : lowQ t b = (t.fdiv (-(Nat.gcd t.natAbs b.natAbs : Nat)), b.fdiv (-(Nat.gcd t.natAbs b.natAbs : Nat))) := if_neg hb
    rw [e]
    have e1 : ∀ x : Int, ((Nat.gcd t.natAbs b.natAbs : Nat) : Int) ∣ x → x.fdiv (-(Nat.gcd t.natAbs b.natAbs : Nat)) = -(x / (Nat.gcd t.natAbs b.natAbs : Nat)) := fun x hx => by
      obtain ⟨c, rfl⟩ := hx
      rw [Int.mul_ediv_cancel_left _ (by omega)]
      generalize ((Nat.gcd t.natAbs b.natAbs : Nat) : Int) = G at *
      have : G * c = (-c) * (-G) := by rw [Int.neg_mul_neg, Int.mul_comm]
      rw [this, Int.mul_fdiv_cancel _ (by omega)]
    rw [e1 _ (dvd_gcd_l t b), e1 _ (dvd_gcd_r t b)]
    refine ⟨?_, ?_⟩
    · obtain ⟨c, hc⟩ := dvd_gcd_r t b
      show 0 < -(b / _)
      have hcp : c < 0 := by
        rcases Int.lt_trichotomy c 0 with q | q | q
        · exact q
        · subst q; simp at hc; omega
        · have := Int.mul_pos g0 q; omega
      conv => rhs; arg 1; arg 1; rw [hc]
      rw [Int.mul_ediv_cancel_left _ (by omega)]
      omega
    · show Nat.gcd (-(t / _)).natAbs (-(b / _)).natAbs = 1
      rw [Int.natAbs_neg, Int.natAbs_neg, natAbs_div gn (dvd_gcd_l t b), natAbs_div gn (dvd_gcd_r t b)]
      exact hc
/-- a multiple of a told ratio comes to it -/
theorem lowQ_mul {p : Int × Int} (h : Rt p) {k : Int} (hk : 0 < k) : lowQ (p.1 * k) (p.2 * k) = p := by
  have hp : 0 < p.2 * k := Int.mul_pos h.pos hk
  rw [lowQ_pos hp]
  have e : Nat.gcd (p.1 * k).natAbs (p.2 * k).natAbs = k.natAbs := by
    rw [Int.natAbs_mul, Int.natAbs_mul, Nat.gcd_mul_right, h.low, Nat.one_mul]
  rw [e]
  have ek : ((k.natAbs : Nat) : Int) = k := by omega
  rw [ek, Int.mul_ediv_cancel _ (by omega), Int.mul_ediv_cancel _ (by omega)]
theorem lowQ_bound {t b : Int} (h : b ≠ 0) : (lowQ t b).1.natAbs ≤ t.natAbs ∧ (lowQ t b).2.natAbs ≤ b.natAbs := by
  have g0 := gcd_pos (t := t) h
  have gn : 0 < Nat.gcd t.natAbs b.natAbs := by omega
  by_cases hb : 0 < b
  · rw [lowQ_pos hb]
    exact ⟨by rw [natAbs_div gn (dvd_gcd_l t b)]; exact Nat.div_le_self _ _, by rw [natAbs_div gn (dvd_gcd_r t b)]; exact Nat.div_le_self _ _⟩
  · have e : lowQ t b = (t.fdiv (-(Nat.gcd t.natAbs b.natAbs : Nat)), b.fdiv (-(Nat.gcd t.natAbs b.natAbs : Nat))) := if_neg hb
    rw [e]
    have e1 : ∀ x : Int, ((Nat.gcd t.natAbs b.natAbs : Nat) : Int) ∣ x → x.fdiv (-(Nat.gcd t.natAbs b.natAbs : Nat)) = -(x / (Nat.gcd t.natAbs b.natAbs : Nat)) := fun x hx => by
      obtain ⟨c, rfl⟩ := hx
      rw [Int.mul_ediv_cancel_left _ (by omega)]
      generalize ((Nat.gcd t.natAbs b.natAbs : Nat) : Int) = G at *
      have : G * c = (-c) * (-G) := by rw [Int.neg_mul_neg, Int.mul_comm]
      rw [this, Int.mul_fdiv_cancel _ (by omega)]
    rw [e1 _ (dvd_gcd_l t b), e1 _ (dvd_gcd_r t b)]
    exact ⟨by rw [Int.natAbs_neg, natAbs_div gn (dvd_gcd_l t b)]; exact Nat.div_le_self _ _, by rw [Int.natAbs_neg, natAbs_div gn (dvd_gcd_r t b)]; exact Nat.div_le_self _ _⟩
end
end Lw
end

section
set_option maxHeartbeats 4000000
namespace Lw
open PySem PySem.Spec PyProof.Rows L2 Ev
open Classical
section
variable {S : Store}
theorem log2_mul (a b : Nat) : (a * b).log2 ≤ a.log2 + b.log2 + 1 := by
  by_cases h : a * b = 0
  · rw [h]; simp
  · have ha : a < 2 ^ (a.log2 + 1) := Nat.lt_log2_self
    have hb : b < 2 ^ (b.log2 + 1) := Nat.lt_log2_self
    have hab : a * b < 2 ^ (a.log2 + b.log2 + 2) := by
      have e : (2 : Nat) ^ (a.log2 + b.log2 + 2) = 2 ^ (a.log2 + 1) * 2 ^ (b.log2 + 1) := by rw [← Nat.pow_add]; congr 1; omega
      rw [e]
      exact Nat.mul_lt_mul'' ha hb
    have := (Nat.log2_lt h).mpr hab
    omega
/-- a small number -/
def sm (i : Int) : Prop := i.natAbs.log2 < 4000
theorem sm_mul {i j : Int} (hi : sm i) (hj : sm j) : i.natAbs.log2 + j.natAbs.log2 < 1000000 := by unfold sm at *; omega
theorem sm_okB {i j : Int} (hi : sm i) (hj : sm j) (pi : 0 < i) (pj : 0 < j) : okB (i * j) := by
  refine .inl ⟨Int.mul_pos pi pj, ?_⟩
  rw [Int.natAbs_mul]
  have := log2_mul i.natAbs j.natAbs
  unfold sm at *
  omega
theorem sm_of_le {i : Int} {B : Nat} (h : i.natAbs ≤ B) (hB : B.log2 < 4000) : sm i := by
  unfold sm
  by_cases q : i.natAbs = 0
  · rw [q]; decide
  · have h2 := Nat.log2_self_le q
    by_cases hB0 : B = 0
    · omega
    · exact Nat.lt_of_le_of_lt ((Nat.le_log2 hB0).mpr (by omega)) hB
structure RatS (p : Int × Int) : Prop extends Rt p where
  s1 : sm p.1
  s2 : sm p.2
def sumQ (p q : Int × Int) : Int × Int := lowQ (p.1 * q.2 + q.1 * p.2) (p.2 * q.2)
def minQ (p q : Int × Int) : Int × Int := lowQ (p.1 * q.2 - q.1 * p.2) (p.2 * q.2)
def mulQ (p q : Int × Int) : Int × Int := lowQ (p.1 * q.1) (p.2 * q.2)
def parQ (p q : Int × Int) : Int × Int := lowQ (p.1 * q.2) (p.2 * q.1)
def lesQ (p q : Int × Int) : Bool := decide (p.1 * q.2 < q.1 * p.2)
section
variable {p q : Int × Int} (hp : RatS p) (hq : RatS q)
include hp hq
theorem ra_facts : p.1.natAbs.log2 + q.2.natAbs.log2 < 1000000 ∧ q.1.natAbs.log2 + p.2.natAbs.log2 < 1000000 ∧ p.2.natAbs.log2 + q.2.natAbs.log2 < 1000000 ∧ p.1.natAbs.log2 + q.1.natAbs.log2 < 1000000 ∧ p.2.natAbs.log2 + q.1.natAbs.log2 < 1000000 ∧ okB (p.2 * q.2) :=
  ⟨sm_mul hp.s1 hq.s2, sm_mul hq.s1 hp.s2, sm_mul hp.s2 hq.s2, sm_mul hp.s1 hq.s1, sm_mul hp.s2 hq.s1, sm_okB hp.s2 hq.s2 hp.pos hq.pos⟩
theorem f_summed : F_summed [rat p, rat q] S = .ok (rat (sumQ p q)) S := by
  obtain ⟨h1, h2, h3, h4, h5, h6⟩ := ra_facts hp hq
  simp [F_summed, runF, M_summed, startD, h1, h2, h3, h6, sumQ]
theorem f_lessened : F_lessened [rat p, rat q] S = .ok (rat (minQ p q)) S := by
  obtain ⟨h1, h2, h3, h4, h5, h6⟩ := ra_facts hp hq
  simp [F_lessened, runF, M_lessened, startD, h1, h2, h3, h6, minQ]
theorem f_scaled : F_scaled [rat p, rat q] S = .ok (rat (mulQ p q)) S := by
  obtain ⟨h1, h2, h3, h4, h5, h6⟩ := ra_facts hp hq
  simp [F_scaled, runF, M_scaled, startD, h4, h3, h6, mulQ]
theorem f_below : F_below [rat p, rat q] S = .ok (.bl (lesQ p q)) S := by
  obtain ⟨h1, h2, h3, h4, h5, h6⟩ := ra_facts hp hq
  simp [F_below, runF, M_below, startD, h1, h2, lesQ]
theorem f_parted (hb : okB (p.2 * q.1)) : F_parted [rat p, rat q] S = .ok (rat (parQ p q)) S := by
  obtain ⟨h1, h2, h3, h4, h5, h6⟩ := ra_facts hp hq
  simp [F_parted, runF, M_parted, startD, h1, h5, hb, parQ]
theorem l_plus : F__law_plus [rat p, rat q] S = .ok (rat (sumQ p q)) S := by
  obtain ⟨h1, h2, h3, h4, h5, h6⟩ := ra_facts hp hq
  simp [F__law_plus, runF, M__law_plus, startD, h1, h2, h3, h6, sumQ]
theorem l_minus : F__law_minus [rat p, rat q] S = .ok (rat (minQ p q)) S := by
  obtain ⟨h1, h2, h3, h4, h5, h6⟩ := ra_facts hp hq
  simp [F__law_minus, runF, M__law_minus, startD, h1, h2, h3, h6, minQ]
theorem l_times : F__law_times [rat p, rat q] S = .ok (rat (mulQ p q)) S := by
  obtain ⟨h1, h2, h3, h4, h5, h6⟩ := ra_facts hp hq
  simp [F__law_times, runF, M__law_times, startD, h4, h3, h6, mulQ]
theorem l_less : F__law_less [rat p, rat q] S = .ok (.bl (lesQ p q)) S := by
  obtain ⟨h1, h2, h3, h4, h5, h6⟩ := ra_facts hp hq
  simp [F__law_less, runF, M__law_less, startD, h1, h2, lesQ]
theorem l_share (hb : okB (p.2 * q.1)) : F__law_share [rat p, rat q] S = .ok (rat (parQ p q)) S := by
  obtain ⟨h1, h2, h3, h4, h5, h6⟩ := ra_facts hp hq
  simp [F__law_share, runF, M__law_share, startD, h1, h5, hb, parQ]
end
def wholeD : D → Bool
  | .int _ => true
  | _ => false
theorem f_whole {d : D} (h : d.dat = true) : F_is_whole [d] S = .ok (.bl (wholeD d)) S := by
  cases d <;> simp at h <;> simp [F_is_whole, runF, M_is_whole, startD, wholeD]
def pairD : D → Option (Int × Int)
  | .tup [.int a, .int b] => if 0 < b then some (a, b) else none
  | .lst [.int a, .int b] => if 0 < b then some (a, b) else none
  | .scr [.int a, .int b] => if 0 < b then some (a, b) else none
  | _ => none
theorem len2 (xs : List D) : ¬ (xs.length : Int) + 1 + 1 + 1 = 2 := by omega
theorem f_pair {d : D} (h : d.dat = true) : F_is_pair [d] S = .ok (.bl (pairD d).isSome) S := by
  have three : ∀ xs : List D, xs = [] ∨ (∃ x, xs = [x]) ∨ (∃ x y, xs = [x, y]) ∨ ∃ x y z r, xs = x :: y :: z :: r := fun xs => by
    rcases xs with _ | ⟨x, _ | ⟨y, _ | ⟨z, r⟩⟩⟩ <;> simp
  cases d with
  | tup xs =>
    rcases three xs with rfl | ⟨x, rfl⟩ | ⟨x, y, rfl⟩ | ⟨x, y, z, r, rfl⟩
    · simp [F_is_pair, runF, M_is_pair, startD, pairD]
    · simp [F_is_pair, runF, M_is_pair, startD, pairD]
    · simp at h
      cases x <;> simp at h <;> cases y <;> simp at h <;> simp [F_is_pair, runF, M_is_pair, startD, pairD, f_whole, h, wholeD]
      split <;> simp [*]
    · have e := len2 r
      simp [F_is_pair, runF, M_is_pair, startD, pairD, e]
  | lst xs =>
    rcases three xs with rfl | ⟨x, rfl⟩ | ⟨x, y, rfl⟩ | ⟨x, y, z, r, rfl⟩
    · simp [F_is_pair, runF, M_is_pair, startD, pairD]
    · simp [F_is_pair, runF, M_is_pair, startD, pairD]
    · simp at h
      cases x <;> simp at h <;> cases y <;> simp at h <;> simp [F_is_pair, runF, M_is_pair, startD, pairD, f_whole, h, wholeD]
      split <;> simp [*]
    · have e := len2 r
      simp [F_is_pair, runF, M_is_pair, startD, pairD, e]
  | scr xs =>
    rcases three xs with rfl | ⟨x, rfl⟩ | ⟨x, y, rfl⟩ | ⟨x, y, z, r, rfl⟩
    · simp [F_is_pair, runF, M_is_pair, startD, pairD]
    · simp [F_is_pair, runF, M_is_pair, startD, pairD]
    · simp at h
      cases x <;> simp at h <;> cases y <;> simp at h <;> simp [F_is_pair, runF, M_is_pair, startD, pairD, f_whole, h, wholeD]
      split <;> simp [*]
    · have e := len2 r
      simp [F_is_pair, runF, M_is_pair, startD, pairD, e]
  | _ => simp at h <;> simp [F_is_pair, runF, M_is_pair, startD, pairD]
def toldD (d : D) : Option (Int × Int) := match d with
  | .int i => some (i, 1)
  | d => (pairD d).map fun p => lowQ p.1 p.2
/-- its bottom can be divided by -/
def smD (d : D) : Prop := ∀ a b, pairD d = some (a, b) → b.natAbs.log2 < 9000
theorem pair_pos {d a b} (h : pairD d = some (a, b)) : 0 < b := by
  unfold pairD at h
  split at h <;> first | (split at h <;> simp at h <;> omega) | simp at h
theorem pair_seq {d a b} (h : pairD d = some (a, b)) : seqOf d S = some [.int a, .int b] := by
  unfold pairD at h
  split at h <;> first | (split at h <;> simp at h <;> (obtain ⟨rfl, rfl⟩ := h; rfl)) | simp at h
theorem f_told {d : D} (h : d.dat = true) (hs : smD d) : F_told [d] S = (match toldD d with | some p => .ok (rat p) S | none => .exc "BadRow" ["row"] [d] S) := by
  by_cases hw : wholeD d = true
  · cases d <;> simp [wholeD] at hw
    simp [F_told, runF, M_told, startD, f_whole, wholeD, toldD]
  · have hw' : wholeD d = false := by simpa using hw
    have ht : toldD d = (pairD d).map fun p => lowQ p.1 p.2 := by cases d <;> simp [wholeD] at hw <;> rfl
    rw [ht]
    cases hp : pairD d with
    | none => simp [F_told, runF, M_told, startD, f_whole, hw', h, f_pair, hp, dat_pure]
    | some p =>
      obtain ⟨a, b⟩ := p
      have hb : okB b := .inl ⟨pair_pos hp, hs a b hp⟩
      have e := fun S => pair_seq (S := S) hp
      simp [F_told, runF, M_told, startD, f_whole, hw', h, f_pair, hp, e, hb]
end
end Lw
end

section
set_option maxHeartbeats 4000000
namespace Lw
open PySem PySem.Spec PyProof.Rows L2 Ev
open Classical
theorem repr_ok {d : D} (h : okRepr d = true) (hd : ∀ n, d ≠ .ref n) (S : Store) : dRepr d S = .ok (.str (py d).shown) S := by
  have e : res S d = d := by
    cases d <;> first | rfl | exact absurd rfl (hd _)
  unfold dRepr
  rw [e, if_pos h]
def kn7 : List Str := ["BadLot", "BadNumber", "BadRow", "BadScene", "BadTable", "TooMany", "Unlike"]
/-- the seven classes are known -/
def KnOk (tb : TabK) : Prop := ∀ c ∈ kn7, c ∈ tb.kn
theorem hand_hit {kn : List Str} {c tag : Str} {ff fs : List Str} {vs ds : List D} {σ : Env1} {S : Store} {r : List Hdl} (h : c ∈ kn) (hf : flds fs vs ff = some ds) (hl : ds.length < 16777216) : sHand kn c fs vs σ S (⟨c, tag, ff⟩ :: r) = .rt (.tup (.str tag :: ds)) S := by
  unfold sHand
  rw [if_pos ⟨h, h⟩, if_pos rfl, hf]
  simp [hl]
theorem hand_miss {kn : List Str} {c c' tag : Str} {ff fs : List Str} {vs : List D} {σ : Env1} {S : Store} {r : List Hdl} (h : c ∈ kn) (h' : c' ∈ kn) (hn : c ≠ c') : sHand kn c fs vs σ S (⟨c', tag, ff⟩ :: r) = sHand kn c fs vs σ S r := by
  conv => lhs; unfold sHand
  rw [if_pos ⟨h, h'⟩, if_neg hn]
section
variable {tb : TabK} {S : Store} {l : LamI} {ns : List Nat} {cs : List D}
abbrev hds : List Hdl := [⟨"BadLot", "lot", ["lot"]⟩, ⟨"BadNumber", "number", ["what", "number"]⟩, ⟨"BadRow", "row", ["row"]⟩, ⟨"BadScene", "scene", ["what", "value"]⟩, ⟨"BadTable", "table", ["table"]⟩, ⟨"TooMany", "many", ["what", "many", "limit"]⟩, ⟨"Unlike", "unlike", ["what"]⟩]
/-- an error of a lambda, as it is told -/
theorem fault_of {c : Str} {fs : List Str} {vs : List D} {d : D} (hc : capV S.ent ns = some cs) (hl : ns.length = l.caps.length) (ht : tb.tab l cs S.ent = .exc c fs vs S.ent)
    (hh : sHand tb.kn c fs vs [some (.clo l ns), none] S.ent hds = .rt d S.ent) (hp : d.pure = true) : F__law_fault tb [.clo l ns] S = .ok d S := by
  have e : M__law_fault tb [some (.clo l ns), none] S.ent = .rt d S.ent := by
    unfold M__law_fault
    simp only [q_seq]
    have e2 : sTryF tb.kn (sExpr (evCallV 0 tb.tab)) hds [some (.clo l ns), none] S.ent = .rt d S.ent := by
      unfold sTryF
      have e3 : sExpr (evCallV 0 tb.tab) [some (.clo l ns), none] S.ent = .exc c fs vs [some (.clo l ns), none] S.ent := by
        unfold sExpr evCallV
        simp [hc, hl, ht]
      rw [e3]
      simp [hh]
    rw [e2, seq_rt]
  have e4 : startD 2 [D.clo l ns] = [some (.clo l ns), none] := rfl
  simp [F__law_fault, runF, e4, e, hp]
theorem hand_row (k : KnOk tb) {d : D} {σ : Env1} {S : Store} : sHand tb.kn "BadRow" ["row"] [d] σ S hds = .rt (.tup [.str "row", d]) S := by
  rw [hand_miss (k _ (by decide)) (k _ (by decide)) (by decide), hand_miss (k _ (by decide)) (k _ (by decide)) (by decide), hand_hit (ds := [d]) (k _ (by decide)) (by kernel_rfl) (by simp)]
theorem hand_number (k : KnOk tb) {d e : D} {σ : Env1} {S : Store} : sHand tb.kn "BadNumber" ["number", "what"] [e, d] σ S hds = .rt (.tup [.str "number", d, e]) S := by
  rw [hand_miss (k _ (by decide)) (k _ (by decide)) (by decide), hand_hit (ds := [d, e]) (k _ (by decide)) (by kernel_rfl) (by simp)]
theorem hand_lot (k : KnOk tb) {d : D} {σ : Env1} {S : Store} : sHand tb.kn "BadLot" ["lot"] [d] σ S hds = .rt (.tup [.str "lot", d]) S := by
  rw [hand_hit (ds := [d]) (k _ (by decide)) (by kernel_rfl) (by simp)]
theorem hand_scene (k : KnOk tb) {d e : D} {σ : Env1} {S : Store} : sHand tb.kn "BadScene" ["value", "what"] [e, d] σ S hds = .rt (.tup [.str "scene", d, e]) S := by
  rw [hand_miss (k _ (by decide)) (k _ (by decide)) (by decide), hand_miss (k _ (by decide)) (k _ (by decide)) (by decide), hand_miss (k _ (by decide)) (k _ (by decide)) (by decide), hand_hit (ds := [d, e]) (k _ (by decide)) (by kernel_rfl) (by simp)]
theorem hand_table (k : KnOk tb) {d : D} {σ : Env1} {S : Store} : sHand tb.kn "BadTable" ["table"] [d] σ S hds = .rt (.tup [.str "table", d]) S := by
  rw [hand_miss (k _ (by decide)) (k _ (by decide)) (by decide), hand_miss (k _ (by decide)) (k _ (by decide)) (by decide), hand_miss (k _ (by decide)) (k _ (by decide)) (by decide), hand_miss (k _ (by decide)) (k _ (by decide)) (by decide), hand_hit (ds := [d]) (k _ (by decide)) (by kernel_rfl) (by simp)]
theorem hand_many (k : KnOk tb) {d e f : D} {σ : Env1} {S : Store} : sHand tb.kn "TooMany" ["limit", "many", "what"] [f, e, d] σ S hds = .rt (.tup [.str "many", d, e, f]) S := by
  rw [hand_miss (k _ (by decide)) (k _ (by decide)) (by decide), hand_miss (k _ (by decide)) (k _ (by decide)) (by decide), hand_miss (k _ (by decide)) (k _ (by decide)) (by decide), hand_miss (k _ (by decide)) (k _ (by decide)) (by decide), hand_miss (k _ (by decide)) (k _ (by decide)) (by decide), hand_hit (ds := [d, e, f]) (k _ (by decide)) (by kernel_rfl) (by simp)]
theorem hand_unlike (k : KnOk tb) {d : D} {σ : Env1} {S : Store} : sHand tb.kn "Unlike" ["what"] [d] σ S hds = .rt (.tup [.str "unlike", d]) S := by
  rw [hand_miss (k _ (by decide)) (k _ (by decide)) (by decide), hand_miss (k _ (by decide)) (k _ (by decide)) (by decide), hand_miss (k _ (by decide)) (k _ (by decide)) (by decide), hand_miss (k _ (by decide)) (k _ (by decide)) (by decide), hand_miss (k _ (by decide)) (k _ (by decide)) (by decide), hand_miss (k _ (by decide)) (k _ (by decide)) (by decide), hand_hit (ds := [d]) (k _ (by decide)) (by kernel_rfl) (by simp)]
/-- a lambda that raises -/
theorem runL_exc {B : Sm} {c fs vs} (h : B (cs.map some) S.off = .exc c fs vs S.off) (hp : D.pures vs = true) : runL B cs S = .exc c fs vs S := by
  unfold runL
  rw [h]
  have : OsOk S S.off := .inl (by show S.os.take S.os.length = S.os; simp)
  show finX S c fs vs S.off = _
  unfold finX
  rw [frzs_pure hp, if_pos ⟨los_pu hp, this⟩]
  obtain ⟨a, b, c, d⟩ := S
  simp [Store.off, Store.ret]
/-- all that is due -/
theorem are_due {n : Nat} {items : List D} (h : S.cs[n]? = some (.lst items)) (hi : ∀ x ∈ items, ∃ w d, x = .tup [w, d] ∧ F__law_fault tb [w] S.ent = .ok d S.ent ∧ okRepr d = true ∧ ∀ n, d ≠ .ref n) (hn : items.length ≤ 16777216) :
    F__law_are_due tb [.ref n] S = .ok (.bl true) S := by
  have hs : seqOf (.ref n) S.ent = some items := by simp [h]
  have e := lc_map (C := evC (.bl true)) (E := E__law_are_due_0 tb) (T := tgTup 2 (tgCons (tgN 1) (tgCons (tgN 2) tgNil))) (σ := [some (.ref n), none, none]) (S := S.ent) (it := seqOf (.ref n)) (xs := items) hs (fun _ => .bl true) items fun x hx => by
    obtain ⟨w, d, rfl, h1, h2, h3⟩ := hi x hx
    have e := fun S => repr_ok h2 h3 S
    refine ⟨[some (.ref n), some w, some d], by simp, by simp, ?_⟩
    simp [E__law_are_due_0, h1, e]
  have hb : ∀ ys : List D, allBl (ys.map fun _ => D.bl true) = some (ys.map fun _ => true) := fun ys => by
    induction ys with
    | nil => rfl
    | cons y ys ih => simp [allBl, ih]
  have hall : (items.map fun _ => true).all id = true := by simp
  simp [F__law_are_due, runF, M__law_are_due, startD, wipeD, h, e, hn, dAll, lstX, isTupD, hb]
end
end Lw
end

section
set_option maxHeartbeats 4000000
namespace Lw
open PySem PySem.Spec PyProof.Rows L2 Ev
open Classical
noncomputable def E_all_rows_0 : Sm := (evB (evVar 4) (evA (evCons (evVar 5) evNil) mkT) (dAdd false))
noncomputable def L_all_rows_1 : Sst := (sSet 3 (evB (evVar 3) (evLc false (evCons (evVar 2) evNil) iRg1 (tgN 5) (evC (.bl true)) (E_all_rows_0) [5]) (dAdd false)))
noncomputable def L_all_rows_2 : Sst := (sSeq (sSet 3 (evA evNil (mkL false)))
  (sSeq (sFor (evVar 1) seqOf (tgN 4) (L_all_rows_1))
  (sSet 1 (evVar 3))))
noncomputable def M_all_rows : Sst := (sSeq (sSet 1 (evA (evCons (evA evNil mkT) evNil) (mkL false)))
  (sSeq (sFor (evVar 0) seqOf (tgN 2) (L_all_rows_2))
  (sRet (evVar 1))))
noncomputable def F_all_rows : List D → Store → Res := runF false 6 (M_all_rows)
noncomputable def E_all_signs_0 : Sm := (evB (evB (evC (.int 2)) (evVar 3) (dMul false)) (evC (.int 1)) (dSub))
noncomputable def E_all_signs_1 : Sm := (evA (evCons (evLc false (evVar 2) seqOf (tgN 3) (evC (.bl true)) (E_all_signs_0) [3]) evNil) (one dTuple))
noncomputable def C_all_signs_2 : Sm := (evB (evVar 4) (evU (evC (.int 1)) dNeg) (dEq false))
noncomputable def E_all_signs_3 : Sm := (evVar 4)
noncomputable def C_all_signs_4 : Sm := (evB (evB (evA (evCons (evLc false (evVar 2) seqOf (tgN 4) (C_all_signs_2) (E_all_signs_3) [4]) evNil) (one dLen)) (evC (.int 2)) (dMod)) (evC (.int 1)) (dEq false))
noncomputable def E_all_signs_5 : Sm := (evVar 2)
noncomputable def M_all_signs : Sst := (sSeq (sSet 1 (evLc false (evA (evCons (evB (evA (evCons (evC (.int 2)) evNil) mkT) (evVar 0) (dMul false)) evNil) (callF 1 [] F_all_rows)) seqOf (tgN 2) (evC (.bl true)) (E_all_signs_1) [2]))
  (sRet (evLc false (evVar 1) seqOf (tgN 2) (C_all_signs_4) (E_all_signs_5) [2])))
noncomputable def F_all_signs : List D → Store → Res := runF false 5 (M_all_signs)
noncomputable def M_need_between : Sst := (sSeq (sIf (evU (evU (evA (evCons (evVar 1) evNil) (callF 1 [] F_is_whole)) dTru) dNot) (sRaise "BadNumber" ["what", "number"] (evCons (evVar 0) (evCons (evVar 1) evNil))) sNil)
  (sIf (evOrT (evAndT (evB (evVar 2) (evC .non) (dIs true)) (evB (evVar 1) (evVar 2) (dLt))) (evAndT (evB (evVar 3) (evC .non) (dIs true)) (evB (evVar 1) (evVar 3) (dGt)))) (sRaise "BadNumber" ["what", "number"] (evCons (evVar 0) (evCons (evVar 1) evNil))) sNil))
noncomputable def F_need_between : List D → Store → Res := runF false 4 (M_need_between)
noncomputable def M_sign_rows : Sst := (sSeq (sExpr (evA (evCons (evC (.str "many")) (evCons (evVar 0) (evCons (evC (.int 3)) (evCons (evC (.int 8)) evNil)))) (callF 4 [] F_need_between)))
  (sRet (evA (evCons (evA (evCons (evVar 0) evNil) (callF 1 [] F_all_signs)) evNil) (one dTuple))))
noncomputable def F_sign_rows : List D → Store → Res := runF false 1 (M_sign_rows)
noncomputable def M_sign_of : Sst := (sRet (evB (evC (.int 1)) (evB (evC (.int 2)) (evVar 0) (dMul false)) (dSub)))
noncomputable def F_sign_of : List D → Store → Res := runF false 1 (M_sign_of)
noncomputable def E_plan_turns_0 : Sm := (evB (evA (evCons (evB (evVar 0) (evVar 2) dIx) evNil) (callF 1 [] F_sign_of)) (evA (evCons (evB (evVar 0) (evB (evB (evVar 2) (evC (.int 1)) (dAdd false)) (evVar 1) (dMod)) dIx) evNil) (callF 1 [] F_sign_of)) (dMul false))
noncomputable def M_plan_turns : Sst := (sSeq (sSet 1 (evA (evCons (evVar 0) evNil) (one dLen)))
  (sRet (evLc false (evCons (evVar 1) evNil) iRg1 (tgN 2) (evC (.bl true)) (E_plan_turns_0) [2])))
noncomputable def F_plan_turns : List D → Store → Res := runF false 3 (M_plan_turns)
noncomputable def E_are_signs_0 : Sm := (evAnd (evA (evCons (evVar 1) evNil) (callF 1 [] F_is_whole)) (evB (evVar 1) (evA (evCons (evC (.int 1)) (evCons (evU (evC (.int 1)) dNeg) evNil)) mkT) (dIn false)))
noncomputable def C_are_signs_1 : Sm := (evB (evVar 1) (evU (evC (.int 1)) dNeg) (dEq false))
noncomputable def E_are_signs_2 : Sm := (evVar 1)
noncomputable def M_are_signs : Sst := (sSeq (sIf (evOrT (evU (evU (evA (evCons (evVar 0) (evCons (evC (.ty "tuple")) evNil)) (twoL dIsi)) dTru) dNot) (evU (evCh (evC (.int 3)) (evA (evCons (evVar 0) evNil) (one dLen)) (evC (.int 8)) (fun i j => decide (i ≤ j)) (fun i j => decide (i ≤ j))) dNot)) (sRet (evC (.bl false))) sNil)
  (sSeq (sIf (evU (evU (evA (evCons (evLc false (evVar 0) seqOf (tgN 1) (evC (.bl true)) (E_are_signs_0) [1]) evNil) (one (dAll (·.all id)))) dTru) dNot) (sRet (evC (.bl false))) sNil)
  (sRet (evB (evB (evA (evCons (evLc false (evVar 0) seqOf (tgN 1) (C_are_signs_1) (E_are_signs_2) [1]) evNil) (one dLen)) (evC (.int 2)) (dMod)) (evC (.int 1)) (dEq false)))))
noncomputable def F_are_signs : List D → Store → Res := runF false 2 (M_are_signs)
noncomputable def E_in_tuples_0 (self : List D → Store → Res) : Sm := (evA (evCons (evVar 1) evNil) (callF 1 [] self))
noncomputable def M_in_tuples (self : List D → Store → Res) : Sst := (sSeq (sIf (evU (evU (evA (evCons (evVar 0) (evCons (evA (evCons (evC (.ty "tuple")) (evCons (evC (.ty "list")) evNil)) mkT) evNil)) (twoL dIsi)) dTru) dNot) (sRet (evVar 0)) sNil)
  (sRet (evA (evCons (evLc false (evVar 0) seqOf (tgN 1) (evC (.bl true)) (E_in_tuples_0 self) [1]) evNil) (one dTuple))))
noncomputable def F_in_tuples_ : Nat → List D → Store → Res
  | 0 => fun _ _ => .bad
  | n + 1 => runF false 2 (M_in_tuples (F_in_tuples_ n))
noncomputable def F_in_tuples : List D → Store → Res := F_in_tuples_ 12
noncomputable def M_signs_from : Sst := (sSeq (sSet 1 (evA (evCons (evVar 0) evNil) (callF 1 [] F_in_tuples)))
  (sSeq (sIf (evU (evU (evA (evCons (evVar 1) evNil) (callF 1 [] F_are_signs)) dTru) dNot) (sRaise "BadRow" ["row"] (evCons (evVar 0) evNil)) sNil)
  (sRet (evVar 1))))
noncomputable def F_signs_from : List D → Store → Res := runF false 2 (M_signs_from)
noncomputable def E_tight_plans_0 : Sm := (evB (evVar 4) (evVar 5) (dMul false))
noncomputable def L_tight_plans_1 : Sst := (sIf (evB (evA (evCons (evLc false (evCons (evVar 1) (evCons (evA (evCons (evVar 3) evNil) (callF 1 [] F_plan_turns)) evNil)) iZ2 (tgTup 2 (tgCons (tgN 4) (tgCons (tgN 5) tgNil))) (evC (.bl true)) (E_tight_plans_0) [4, 5]) evNil) (one dSum)) (evB (evA (evCons (evVar 1) evNil) (one dLen)) (evC (.int 2)) (dSub)) (dEq false)) (sExpr (evMth (evVar 2) (evCons (evVar 3) evNil) isLstD dAppend)) sNil)
noncomputable def M_tight_plans : Sst := (sSeq (sPar2 1 2 (evCons (evA (evCons (evVar 0) evNil) (callF 1 [] F_signs_from)) (evCons (evA evNil (mkL true)) evNil)))
  (sSeq (sFor (evA (evCons (evB (evA (evCons (evC (.int 2)) evNil) mkT) (evA (evCons (evVar 1) evNil) (one dLen)) (dMul false)) evNil) (callF 1 [] F_all_rows)) seqOf (tgN 3) (L_tight_plans_1))
  (sRet (evA (evCons (evVar 2) evNil) (one dTuple)))))
noncomputable def F_tight_plans : List D → Store → Res := runF false 6 (M_tight_plans)
noncomputable def M__law_fault_2 (tb : TabK) : Sst := (sSeq (sTryF tb.kn (sExpr (evCallV 0 tb.tab)) [⟨"BadNumber", "number", ["what", "number"]⟩, ⟨"BadRow", "row", ["row"]⟩, ⟨"BadLot", "lot", ["lot"]⟩, ⟨"Unlike", "unlike", ["what"]⟩, ⟨"TooMany", "many", ["what", "many", "limit"]⟩])
  (sRet (evC .non)))
noncomputable def F__law_fault_2 (tb : TabK) : List D → Store → Res := runF false 2 (M__law_fault_2 tb)
noncomputable def M__law_no_number (pc : PenK) : Sst := (sRet (evA (evCons (evVar 0) (evCons (evA (evCons (evB (evVar 1) (evC (.int 1)) (dSub)) (evCons (evB (evVar 2) (evC (.int 1)) (dAdd false)) (evCons (evC .non) (evCons (evC (.bl true)) (evCons (evC (.str "1")) (evCons (evA (evCons (evC (.int 1)) evNil) mkT) (evCons (evB (evVar 1) (evC (.int 9)) (dSub)) evNil))))))) (mkL false)) evNil)) (callF 2 [] (F__law_pick pc))))
noncomputable def F__law_no_number (pc : PenK) : List D → Store → Res := runF false 3 (M__law_no_number pc)
noncomputable def E__law_rows_0 : Sm := (evB (evVar 4) (evA (evCons (evVar 5) evNil) mkT) (dAdd false))
noncomputable def L__law_rows_1 : Sst := (sSet 3 (evB (evVar 3) (evLc false (evCons (evVar 2) evNil) iRg1 (tgN 5) (evC (.bl true)) (E__law_rows_0) [5]) (dAdd false)))
noncomputable def L__law_rows_2 : Sst := (sSeq (sSet 3 (evA evNil (mkL false)))
  (sSeq (sFor (evVar 1) seqOf (tgN 4) (L__law_rows_1))
  (sSet 1 (evVar 3))))
noncomputable def M__law_rows : Sst := (sSeq (sSet 1 (evA (evCons (evA evNil mkT) evNil) (mkL false)))
  (sSeq (sFor (evVar 0) seqOf (tgN 2) (L__law_rows_2))
  (sRet (evVar 1))))
noncomputable def F__law_rows : List D → Store → Res := runF false 6 (M__law_rows)
noncomputable def E__law_all_signs_0 : Sm := (evB (evB (evC (.int 2)) (evVar 3) (dMul false)) (evC (.int 1)) (dSub))
noncomputable def E__law_all_signs_1 : Sm := (evA (evCons (evLc false (evVar 2) seqOf (tgN 3) (evC (.bl true)) (E__law_all_signs_0) [3]) evNil) (one dTuple))
noncomputable def C__law_all_signs_2 : Sm := (evB (evVar 4) (evU (evC (.int 1)) dNeg) (dEq false))
noncomputable def E__law_all_signs_3 : Sm := (evVar 4)
noncomputable def C__law_all_signs_4 : Sm := (evB (evB (evA (evCons (evLc false (evVar 2) seqOf (tgN 4) (C__law_all_signs_2) (E__law_all_signs_3) [4]) evNil) (one dLen)) (evC (.int 2)) (dMod)) (evC (.int 1)) (dEq false))
noncomputable def E__law_all_signs_5 : Sm := (evVar 2)
noncomputable def M__law_all_signs : Sst := (sSeq (sSet 1 (evLc false (evA (evCons (evB (evA (evCons (evC (.int 2)) evNil) mkT) (evVar 0) (dMul false)) evNil) (callF 1 [] F__law_rows)) seqOf (tgN 2) (evC (.bl true)) (E__law_all_signs_1) [2]))
  (sRet (evLc false (evVar 1) seqOf (tgN 2) (C__law_all_signs_4) (E__law_all_signs_5) [2])))
noncomputable def F__law_all_signs : List D → Store → Res := runF false 5 (M__law_all_signs)
noncomputable def E__law_plan_height_0 : Sm := (evB (evB (evVar 3) (evB (evC (.int 1)) (evB (evC (.int 2)) (evB (evVar 1) (evVar 2) dIx) (dMul false)) (dSub)) (dMul false)) (evB (evC (.int 1)) (evB (evC (.int 2)) (evB (evVar 1) (evB (evA (evCons (evB (evVar 2) (evC (.int 1)) (dAdd false)) evNil) (one dInt)) (evA (evCons (evVar 1) evNil) (one dLen)) (dMod)) dIx) (dMul false)) (dSub)) (dMul false))
noncomputable def M__law_plan_height : Sst := (sRet (evA (evCons (evLc false (evCons (evVar 0) evNil) iE2 (tgTup 2 (tgCons (tgN 2) (tgCons (tgN 3) tgNil))) (evC (.bl true)) (E__law_plan_height_0) [2, 3]) evNil) (one dSum)))
noncomputable def F__law_plan_height : List D → Store → Res := runF false 4 (M__law_plan_height)
noncomputable def E__law_point_0 : Sm := (evB (evC (.int 1)) (evB (evC (.int 2)) (evVar 2) (dMul false)) (dSub))
noncomputable def E__law_point_1 : Sm := (evA (evCons (evVar 3) (evCons (evC (.int 1)) evNil)) mkT)
noncomputable def E__law_point_2 : Sm := (evA (evCons (evB (evB (evVar 1) (evVar 4) dIx) (evB (evVar 1) (evB (evA (evCons (evB (evVar 4) (evC (.int 1)) (dAdd false)) evNil) (one dInt)) (evA (evCons (evVar 1) evNil) (one dLen)) (dMod)) dIx) (dMul false)) (evCons (evC (.int 1)) evNil)) mkT)
noncomputable def M__law_point : Sst := (sSeq (sSet 1 (evLc false (evVar 0) seqOf (tgN 2) (evC (.bl true)) (E__law_point_0) [2]))
  (sRet (evB (evB (evLc false (evVar 1) seqOf (tgN 3) (evC (.bl true)) (E__law_point_1) [3]) (evLc false (evCons (evA (evCons (evVar 1) evNil) (one dLen)) evNil) iRg1 (tgN 4) (evC (.bl true)) (E__law_point_2) [4]) (dAdd false)) (evA (evCons (evA (evCons (evC (.int 1)) (evCons (evC (.int 1)) evNil)) mkT) evNil) (mkL false)) (dAdd false))))
noncomputable def F__law_point : List D → Store → Res := runF false 5 (M__law_point)
noncomputable def E__law_less_times_0 : Sm := (evA (evCons (evVar 3) (evCons (evA (evCons (evA (evCons (evU (evB (evVar 2) (evC (.int 0)) dIx) dNeg) (evCons (evB (evVar 2) (evC (.int 1)) dIx) evNil)) mkT) (evCons (evVar 4) evNil)) (callF 2 [] F__law_times)) evNil)) (callF 2 [] F__law_plus))
noncomputable def M__law_less_times : Sst := (sRet (evLc false (evCons (evVar 0) (evCons (evVar 1) evNil)) iZ2 (tgTup 2 (tgCons (tgN 3) (tgCons (tgN 4) tgNil))) (evC (.bl true)) (E__law_less_times_0) [3, 4]))
noncomputable def F__law_less_times : List D → Store → Res := runF false 5 (M__law_less_times)
noncomputable def E__law_steps_0 : Sm := (evA (evCons (evVar 9) evNil) (one (dList false)))
noncomputable def C__law_steps_1 : Sm := (evB (evB (evB (evB (evVar 2) (evVar 10) dIx) (evVar 5) dIx) (evC (.int 0)) dIx) (evC (.int 0)) (dEq true))
noncomputable def E__law_steps_2 : Sm := (evVar 10)
noncomputable def E__law_steps_3 : Sm := (evA (evCons (evB (evB (evVar 11) (evC (.int 0)) dIx) (evB (evVar 8) (evC (.int 1)) dIx) (dMul false)) (evCons (evB (evB (evVar 11) (evC (.int 1)) dIx) (evB (evVar 8) (evC (.int 0)) dIx) (dMul false)) evNil)) (callF 2 [] F__law_q))
noncomputable def E__law_steps_4 : Sm := (evA (evCons (evVar 9) (evCons (evVar 7) (evCons (evB (evVar 9) (evVar 5) dIx) evNil))) (callF 3 [] F__law_less_times))
noncomputable def E__law_steps_5 : Sm := (evA (evCons (evVar 9) (evCons (evVar 7) (evCons (evB (evVar 9) (evVar 5) dIx) evNil))) (callF 3 [] F__law_less_times))
noncomputable def L__law_steps_6 : Sst := (sSeq (sSet 6 (evLc false (evCons (evA (evCons (evVar 2) evNil) (one dLen)) evNil) iRg1 (tgN 10) (C__law_steps_1) (E__law_steps_2) [10]))
  (sSeq (sIf (evB (evVar 6) (evA evNil (mkL false)) (dEq false)) sCont sNil)
  (sSeq (sSet 7 (evMth (evVar 2) (evCons (evB (evVar 6) (evC (.int 0)) dIx) evNil) isLstD dPopAt))
  (sSeq (sSet 8 (evB (evVar 7) (evVar 5) dIx))
  (sSeq (sSet 7 (evLc false (evVar 7) seqOf (tgN 11) (evC (.bl true)) (E__law_steps_3) [11]))
  (sSeq (sSet 2 (evLc true (evVar 2) seqOf (tgN 9) (evC (.bl true)) (E__law_steps_4) [9]))
  (sSeq (sSet 3 (evB (evLc false (evVar 3) seqOf (tgN 9) (evC (.bl true)) (E__law_steps_5) [9]) (evA (evCons (evVar 7) evNil) (mkL false)) (dAdd false)))
  (sExpr (evMth (evVar 4) (evCons (evVar 5) evNil) isLstD dAppend)))))))))
noncomputable def M__law_steps : Sst := (sSeq (sAsg (tgTup 3 (tgCons (tgN 2) (tgCons (tgN 3) (tgCons (tgN 4) tgNil)))) (evA (evCons (evLc true (evVar 0) seqOf (tgN 9) (evC (.bl true)) (E__law_steps_0) [9]) (evCons (evA evNil (mkL false)) (evCons (evA evNil (mkL true)) evNil))) mkT))
  (sSeq (sFor (evCons (evVar 1) evNil) iRg1 (tgN 5) (L__law_steps_6))
  (sRet (evA (evCons (evVar 3) (evCons (evVar 4) (evCons (evVar 2) evNil))) mkT))))
noncomputable def F__law_steps : List D → Store → Res := runF false 12 (M__law_steps)
noncomputable def E__law_rank_0 : Sm := (evA (evCons (evVar 2) evNil) (one (dList false)))
noncomputable def M__law_rank : Sst := (sRet (evA (evCons (evB (evA (evCons (evLc false (evVar 0) seqOf (tgN 2) (evC (.bl true)) (E__law_rank_0) [2]) (evCons (evVar 1) evNil)) (callF 2 [] F__law_steps)) (evC (.int 1)) dIx) evNil) (one dLen)))
noncomputable def F__law_rank : List D → Store → Res := runF false 3 (M__law_rank)
noncomputable def E__law_signs_0 (pc : PenK) : Sm := (evA (evCons (evVar 0) (evCons (evA (evCons (evC (.int 1)) (evCons (evU (evC (.int 1)) dNeg) evNil)) (mkL false)) evNil)) (callF 2 [] (F__law_pick pc)))
noncomputable def C__law_signs_1 (pc : PenK) : Sm := (evB (evVar 4) (evU (evC (.int 1)) dNeg) (dEq false))
noncomputable def E__law_signs_2 (pc : PenK) : Sm := (evVar 4)
noncomputable def M__law_signs (pc : PenK) : Sst := (sSeq (sSet 2 (evLc true (evCons (evVar 1) evNil) iRg1 (tgN 3) (evC (.bl true)) (E__law_signs_0 pc) [3]))
  (sSeq (sIf (evB (evB (evA (evCons (evLc false (evVar 2) seqOf (tgN 4) (C__law_signs_1 pc) (E__law_signs_2 pc) [4]) evNil) (one dLen)) (evC (.int 2)) (dMod)) (evC (.int 0)) (dEq false)) (sSub (evVar 2) (evC (.int 0)) (evU (evB (evVar 2) (evC (.int 0)) dIx) dNeg)) sNil)
  (sRet (evA (evCons (evVar 2) evNil) (one dTuple)))))
noncomputable def F__law_signs (pc : PenK) : List D → Store → Res := runF false 5 (M__law_signs pc)
noncomputable def E__law_one_0 (pc : PenK) : Sm := (evA (evCons (evA (evCons (evVar 3) (evCons (evVar 7) evNil)) (callF 2 [] F__law_plan_height)) (evCons (evVar 7) evNil)) mkT)
noncomputable def E__law_one_1 (pc : PenK) : Sm := (evVar 8)
noncomputable def C__law_one_2 (pc : PenK) : Sm := (evB (evVar 8) (evB (evVar 1) (evC (.int 2)) (dSub)) (dEq false))
noncomputable def E__law_one_3 (pc : PenK) : Sm := (evVar 7)
noncomputable def E__law_one_4 (pc : PenK) : Sm := (evA (evCons (evVar 7) evNil) (callF 1 [] F__law_point))
noncomputable def M__law_one (pc : PenK) : Sst := (sSeq (sSet 1 (evB (evC (.int 3)) (evA (evCons (evVar 0) (evCons (evC (.int 5)) evNil)) (callF 2 [] (F__law_draw pc))) (dAdd false)))
  (sSeq (sSet 2 (evA (evCons (evVar 1) evNil) (callF 1 [] F_sign_rows)))
  (sSeq (sIf (evOrT (evB (evA (evCons (evVar 2) evNil) dRepr1) (evA (evCons (evA (evCons (evA (evCons (evVar 1) evNil) (callF 1 [] F__law_all_signs)) evNil) (one dTuple)) evNil) dRepr1) (dEq true)) (evB (evA (evCons (evVar 2) evNil) (one dLen)) (evB (evC (.int 1)) (evB (evVar 1) (evC (.int 1)) (dSub)) (dShl)) (dEq true))) (sRet (evC (.bl false))) sNil)
  (sSeq (sSet 3 (evA (evCons (evVar 0) (evCons (evVar 1) evNil)) (callF 2 [] (F__law_signs pc))))
  (sSeq (sSet 4 (evLc false (evA (evCons (evB (evA (evCons (evC (.int 2)) evNil) mkT) (evVar 1) (dMul false)) evNil) (callF 1 [] F__law_rows)) seqOf (tgN 7) (evC (.bl true)) (E__law_one_0 pc) [7]))
  (sSeq (sIf (evB (evA (evCons (evLc false (evVar 4) seqOf (tgTup 2 (tgCons (tgN 8) (tgCons (tgN 7) tgNil))) (evC (.bl true)) (E__law_one_1 pc) [8, 7]) evNil) (one dMaxL)) (evB (evVar 1) (evC (.int 2)) (dSub)) (dEq true)) (sRet (evC (.bl false))) sNil)
  (sSeq (sSet 5 (evA (evCons (evLc false (evVar 4) seqOf (tgTup 2 (tgCons (tgN 8) (tgCons (tgN 7) tgNil))) (C__law_one_2 pc) (E__law_one_3 pc) [8, 7]) evNil) (one dTuple)))
  (sSeq (sSet 6 (evA (evCons (evA (evCons (evVar 0) (evCons (evA (evCons (evVar 3) (evCons (evA (evCons (evVar 3) evNil) (one (dList false))) evNil)) (mkL false)) evNil)) (callF 2 [] (F__law_pick pc))) evNil) (callF 1 [] F_tight_plans)))
  (sSeq (sIf (evOrT (evB (evA (evCons (evVar 6) evNil) dRepr1) (evA (evCons (evVar 5) evNil) dRepr1) (dEq true)) (evB (evA (evCons (evVar 6) evNil) (one dLen)) (evB (evC (.int 2)) (evVar 1) (dMul false)) (dEq true))) (sRet (evC (.bl false))) sNil)
  (sRet (evOr (evB (evVar 1) (evC (.int 6)) (dGt)) (evB (evA (evCons (evLc false (evVar 6) seqOf (tgN 7) (evC (.bl true)) (E__law_one_4 pc) [7]) (evCons (evB (evB (evC (.int 2)) (evVar 1) (dMul false)) (evC (.int 1)) (dAdd false)) evNil)) (callF 2 [] F__law_rank)) (evB (evC (.int 2)) (evVar 1) (dMul false)) (dEq false)))))))))))))
noncomputable def F__law_one (pc : PenK) : List D → Store → Res := runF false 9 (M__law_one pc)
noncomputable def M__law_same : Sst := (sRet (evAnd (evA (evCons (evVar 0) (evCons (evC (.ty "tuple")) evNil)) (twoL dIsi)) (evB (evA (evCons (evVar 0) evNil) dRepr1) (evA (evCons (evVar 1) evNil) dRepr1) (dEq false))))
noncomputable def F__law_same : List D → Store → Res := runF false 2 (M__law_same)
end Lw
end

section
set_option maxHeartbeats 4000000
namespace Lw
open PySem PySem.Spec PyProof.Rows L2 Ev
open Classical
def tI (r : List Int) : D := .tup (r.map .int)
def lI (r : List Int) : D := .lst (r.map .int)
/-- a row with each answer behind it -/
def extL (m : Int) (r : List Int) : List (List Int) := (List.range m.toNat).map fun i : Nat => r ++ [(i : Int)]
def rowsL (ms : List Int) : List (List Int) := ms.foldl (fun out m => out.flatMap (extL m)) [[]]
section
variable {S : Store}
@[simp] theorem seq_tI {r} : seqOf (tI r) S = some (r.map .int) := Eq.trans rfl rfl
@[simp] theorem seq_lI {r} : seqOf (lI r) S = some (r.map .int) := Eq.trans rfl rfl
@[simp] theorem len_tI {r} : dLen (tI r) S = .ok (.int r.length) S := by simp [tI]
@[simp] theorem len_lI {r} : dLen (lI r) S = .ok (.int r.length) S := by simp [lI]
@[simp] theorem pu_tI {r} : (tI r).pure = true := by simp [tI]
@[simp] theorem pu_lI {r} : (lI r).pure = true := by simp [lI]
@[simp] theorem tyN_tI {r} : tyN (tI r) S = some "tuple" := Eq.trans rfl rfl
@[simp] theorem tyN_lI {r} : tyN (lI r) S = some "list" := Eq.trans rfl rfl
@[simp] theorem tru_tI {r} : truthD (tI r) S = some (!r.isEmpty) := by simp [tI]
@[simp] theorem tru_lI {r} : truthD (lI r) S = some (!r.isEmpty) := by simp [lI]
@[simp] theorem tup_tI {r} : dTuple (tI r) S = .ok (tI r) S := Eq.trans rfl rfl
theorem ext_map (m : Int) (r : List Int) : (rngL 0 m.toNat).map (fun d => D.tup (r.map D.int ++ [d])) = (extL m r).map tI := by
  unfold rngL extL
  simp [tI, Function.comp_def]
theorem ar_row {it : Store → Option (List D)} {xs : List D} {d o1 : D} {m : Int} (hm : 0 ≤ m) (hm1 : m ≤ 1000) {r : List Int} (hr : r.length ≤ 1000) {more : List D} (hl : more.length + m.toNat ≤ 16777216) :
    L_all_rows_1 [some d, some o1, some (.int m), some (.lst more), some (tI r), none] S = .nx [some d, some o1, some (.int m), some (.lst (more ++ (extL m r).map tI)), some (tI r), none] S := by
  have hbig : big62 m = true := by simp [big62]; omega
  have e := lc_map (C := evC (.bl true)) (E := E_all_rows_0) (T := tgN 5) (σ := [some d, some o1, some (.int m), some (.lst more), some (tI r), none]) (S := S) (it := iRg1 (.tup [.int m])) (xs := rngL 0 m.toNat) (by simp [hbig]) (fun y => .tup (r.map .int ++ [y])) (rngL 0 m.toNat) fun y hy => by
    refine ⟨[some d, some o1, some (.int m), some (.lst more), some (tI r), some y], by simp, by simp, ?_⟩
    have : r.length + 1 ≤ 16777216 := by omega
    simp [E_all_rows_0, tI, this]
  rw [ext_map] at e
  have h2 : (extL m r).length = m.toNat := by simp [extL]
  have h3 : m.toNat ≤ 16777216 := by omega
  simp [L_all_rows_1, wipeD, hbig, e, h2, h3, hl]
theorem ar_inner {it : Store → Option (List D)} {xs : List D} (hit : it S = some xs) {d o1 : D} {m : Int} (hm : 0 ≤ m) (hm1 : m ≤ 1000) : ∀ (rs : List (List Int)) (more : List D) (x4 : Option D), (∀ r ∈ rs, r.length ≤ 1000) → more.length + rs.length * m.toNat ≤ 16777216 →
    ∃ x4', forGo it xs (tgN 4) L_all_rows_1 (rs.map tI) [some d, some o1, some (.int m), some (.lst more), x4, none] S = .nx [some d, some o1, some (.int m), some (.lst (more ++ (rs.flatMap (extL m)).map tI)), x4', none] S
  | [], more, x4, _, _ => ⟨x4, by simp [for_nil hit]⟩
  | r :: rs, more, x4, hr, hl => by
    have hr0 := hr r (List.mem_cons_self ..)
    have hl' : more.length + m.toNat + rs.length * m.toNat ≤ 16777216 := by
      rw [List.length_cons, Nat.succ_mul] at hl; omega
    have h2 : (extL m r).length = m.toNat := by simp [extL]
    obtain ⟨x4', q⟩ := ar_inner hit hm hm1 rs (more ++ (extL m r).map tI) (some (tI r)) (fun r' h => hr r' (List.mem_cons_of_mem _ h)) (by rw [List.length_append, List.length_map, h2]; exact hl')
    refine ⟨x4', ?_⟩
    rw [List.map_cons, for_nx hit rfl (ar_row (d := d) (o1 := o1) (more := more) (it := it) (xs := xs) hm hm1 hr0 (by omega)), q]
    simp
theorem flat_len (m : Int) : ∀ rs : List (List Int), (rs.flatMap (extL m)).length = rs.length * m.toNat
  | [] => by simp
  | r :: rs => by rw [List.flatMap_cons, List.length_append, flat_len m rs, List.length_cons, Nat.succ_mul]; simp [extL]; omega
theorem ext_len {m : Int} {r s : List Int} (h : s ∈ extL m r) : s.length = r.length + 1 := by
  simp [extL] at h
  obtain ⟨a, _, rfl⟩ := h
  simp
/-- how many rows there are at most -/
def prodN (ms : List Int) : Nat := ms.foldr (fun m n => m.toNat * n) 1
theorem prodN_pos : ∀ {ms : List Int}, (∀ m ∈ ms, 1 ≤ m) → 1 ≤ prodN ms
  | [], _ => Nat.le_refl _
  | m :: ms, h => by
    have h1 := h m (List.mem_cons_self ..)
    have h2 := prodN_pos fun m' h' => h m' (List.mem_cons_of_mem _ h')
    show 1 ≤ m.toNat * prodN ms
    exact Nat.mul_pos (by omega) h2
theorem ar_outer {it : Store → Option (List D)} {xs : List D} (hit : it S = some xs) {d : D} : ∀ (ms : List Int) (out : List (List Int)) (x2 x3 x4 : Option D), (∀ m ∈ ms, 1 ≤ m ∧ m ≤ 1000) → (∀ r ∈ out, r.length + ms.length ≤ 1000) → out.length * prodN ms ≤ 16777216 →
    ∃ x2' x3' x4', forGo it xs (tgN 2) L_all_rows_2 (ms.map .int) [some d, some (.lst (out.map tI)), x2, x3, x4, none] S = .nx [some d, some (.lst ((ms.foldl (fun out m => out.flatMap (extL m)) out).map tI)), x2', x3', x4', none] S
  | [], out, x2, x3, x4, _, _, _ => ⟨x2, x3, x4, by simp [for_nil hit]⟩
  | m :: ms, out, x2, x3, x4, hm, hr, hp => by
    have hm0 := hm m (List.mem_cons_self ..)
    have hpos := prodN_pos fun m' h' => (hm m' (List.mem_cons_of_mem _ h')).1
    have hp' : out.length * m.toNat * prodN ms ≤ 16777216 := by
      rw [Nat.mul_assoc]; exact hp
    have hp2 : out.length * m.toNat ≤ 16777216 := Nat.le_trans (Nat.le_mul_of_pos_right _ hpos) hp'
    have hrl : ∀ r ∈ out, r.length ≤ 1000 := fun r h => by have := hr r h; simp at this; omega
    obtain ⟨y4, q⟩ := ar_inner (it := seqOf (.lst (out.map tI))) (xs := out.map tI) (S := S) rfl (d := d) (o1 := .lst (out.map tI)) (m := m) (by omega) (by omega) out [] x4 hrl (by simpa using hp2)
    obtain ⟨x2', x3', x4', q2⟩ := ar_outer hit ms (out.flatMap (extL m)) (some (.int m)) (some (.lst ((out.flatMap (extL m)).map tI))) y4 (fun m' h => hm m' (List.mem_cons_of_mem _ h)) (fun r h => by
      obtain ⟨s, h1, h2⟩ := List.mem_flatMap.mp h
      have := ext_len h2
      have := hr s h1
      simp at this; omega) (by rw [flat_len]; exact hp')
    refine ⟨x2', x3', x4', ?_⟩
    rw [List.map_cons, for_nx hit rfl (σ3 := [some d, some (.lst ((out.flatMap (extL m)).map tI)), some (.int m), some (.lst ((out.flatMap (extL m)).map tI)), y4, none]) (S3 := S) ?_, q2]
    · rfl
    · simp [L_all_rows_2]
      rw [q]
      simp
theorem f_all_rows {d : D} {ms : List Int} (hd : ∀ S, seqOf d S = some (ms.map .int)) (hm : ∀ m ∈ ms, 1 ≤ m ∧ m ≤ 1000) (hl : ms.length ≤ 1000) (hp : prodN ms ≤ 16777216) (hpu : ∀ S n, frz S n d = d) : F_all_rows [d] S = .ok (.lst ((rowsL ms).map tI)) S := by
  obtain ⟨x2, x3, x4, q⟩ := ar_outer (it := seqOf d) (S := S.ent) (xs := ms.map .int) (hd _) (d := d) ms [[]] none none none hm (by simpa using hl) (by simpa using hp)
  have hp2 : ∀ rs : List (List Int), D.pures (rs.map tI) = true := fun rs => by
    induction rs with
    | nil => simp
    | cons r rs ih => simp [ih, tI]
  simp [F_all_rows, runF, M_all_rows, startD, hd]
  rw [show [D.tup []] = ([[]] : List (List Int)).map tI from rfl, q]
  simp [hp2, rowsL]
end
end Lw
end

section
set_option maxHeartbeats 4000000
namespace Lw
open PySem PySem.Spec PyProof.Rows L2 Ev
open Classical
/-- repr may be asked of d: its cost, its depth -/
structure RG (c k : Nat) (d : D) : Prop where
  dat : isData d = true
  shw : (py d).showable = true
  dep : (py d).depth ≤ k
  cst : costP (py d) ≤ c
theorem RG.mono {c k c' k' : Nat} {d : D} (h : RG c k d) (h1 : c ≤ c') (h2 : k ≤ k') : RG c' k' d := ⟨h.dat, h.shw, Nat.le_trans h.dep h2, Nat.le_trans h.cst h1⟩
theorem RG.ok {c k : Nat} {d : D} (h : RG c k d) (h1 : c ≤ 16777216 := by decide) (h2 : k ≤ 64 := by decide) : okRepr d = true := by
  unfold okRepr
  rw [h.dat, h.shw]
  simp [Nat.le_trans h.dep h2, Nat.le_trans h.cst h1]
theorem RG.int {i : Int} (h : i.natAbs.log2 < 1920) : RG 1930 1 (.int i) := ⟨by simp [isData], by simp [py, PyData.showable, h], by simp [py, PyData.depth], by simp [py, costP]⟩
theorem RG.bl {b : Bool} : RG 5 1 (.bl b) := ⟨by simp [isData], by simp [py, PyData.showable], by simp [py, PyData.depth], by simp [py, costP]⟩
theorem RG.non : RG 4 1 .non := ⟨by simp [isData], by simp [py, PyData.showable], by simp [py, PyData.depth], by simp [py, costP]⟩
theorem log_small {i : Int} {n : Nat} (h : i.natAbs < 2 ^ n) (hn : n ≤ 1900 := by decide) : i.natAbs.log2 < 1920 := by
  by_cases q : i.natAbs = 0
  · rw [q]; decide
  · have := (Nat.log2_lt q).mpr h
    omega
theorem areData_iff : ∀ {xs : List D}, areData xs = true ↔ ∀ x ∈ xs, isData x = true
  | [] => by simp [areData]
  | x :: xs => by simp [areData, areData_iff (xs := xs)]
theorem rg_all {c k : Nat} : ∀ {xs : List D}, (∀ x ∈ xs, RG c k x) → areData xs = true ∧ PyData.showableAll (pys xs) = true ∧ PyData.depthAll (pys xs) ≤ k ∧ costPs (pys xs) ≤ xs.length * (c + 2)
  | [], _ => by simp [areData, pys, PyData.showableAll, PyData.depthAll, costPs]
  | x :: xs, h => by
    obtain ⟨h1, h2, h3, h4⟩ := rg_all fun y hy => h y (List.mem_cons_of_mem _ hy)
    have hx := h x (List.mem_cons_self ..)
    have hd := hx.dep
    have hc := hx.cst
    refine ⟨by simp [areData, hx.dat, h1], by simp [pys, PyData.showableAll, hx.shw, h2], by simp [pys, PyData.depthAll]; omega, ?_⟩
    rw [List.length_cons, Nat.succ_mul]
    simp only [pys, costPs]
    omega
theorem RG.tup {c k n : Nat} {xs : List D} (h : ∀ x ∈ xs, RG c k x) (hn : xs.length ≤ n) : RG (n * (c + 2) + 3) (k + 1) (.tup xs) := by
  obtain ⟨h1, h2, h3, h4⟩ := rg_all h
  have := Nat.mul_le_mul_right (c + 2) hn
  exact ⟨by simp [isData, h1], by simp [py, PyData.showable, h2], by simp [py, PyData.depth]; omega, by simp only [py, costP]; omega⟩
theorem RG.lst {c k n : Nat} {xs : List D} (h : ∀ x ∈ xs, RG c k x) (hn : xs.length ≤ n) : RG (n * (c + 2) + 3) (k + 1) (.lst xs) := by
  obtain ⟨h1, h2, h3, h4⟩ := rg_all h
  have := Nat.mul_le_mul_right (c + 2) hn
  exact ⟨by simp [isData, h1], by simp [py, PyData.showable, h2], by simp [py, PyData.depth]; omega, by simp only [py, costP]; omega⟩
/-- == may be asked of d -/
structure EG (k : Nat) (d : D) : Prop where
  dat : isData d = true
  lay : (py d).canLay0 = true
  dep : (py d).depth ≤ k
theorem EG.mono {k k' : Nat} {d : D} (h : EG k d) (h2 : k ≤ k') : EG k' d := ⟨h.dat, h.lay, Nat.le_trans h.dep h2⟩
theorem EG.ok {k : Nat} {d : D} (h : EG k d) (h2 : k ≤ 64 := by decide) : okEq d = true := by
  unfold okEq SeqAt.shaped
  rw [h.dat, h.lay]
  simp [Nat.le_trans h.dep h2]
theorem EG.int {i : Int} : EG 1 (.int i) := ⟨by simp [isData], by simp [py, PyData.canLay0], by simp [py, PyData.depth]⟩
theorem EG.bl {i : Bool} : EG 1 (.bl i) := ⟨by simp [isData], by simp [py, PyData.canLay0], by simp [py, PyData.depth]⟩
theorem EG.non : EG 1 .non := ⟨by simp [isData], by simp [py, PyData.canLay0], by simp [py, PyData.depth]⟩
theorem eg_all {k : Nat} : ∀ {xs : List D}, (∀ x ∈ xs, EG k x) → areData xs = true ∧ PyData.canLayAll0 (pys xs) = true ∧ PyData.depthAll (pys xs) ≤ k
  | [], _ => by simp [areData, pys, PyData.canLayAll0, PyData.depthAll]
  | x :: xs, h => by
    obtain ⟨h1, h2, h3⟩ := eg_all fun y hy => h y (List.mem_cons_of_mem _ hy)
    have hx := h x (List.mem_cons_self ..)
    have hd := hx.dep
    exact ⟨by simp [areData, hx.dat, h1], by simp [pys, PyData.canLayAll0, hx.lay, h2], by simp [pys, PyData.depthAll]; omega⟩
theorem EG.tup {k : Nat} {xs : List D} (h : ∀ x ∈ xs, EG k x) : EG (k + 1) (.tup xs) := by
  obtain ⟨h1, h2, h3⟩ := eg_all h
  exact ⟨by simp [isData, h1], by simp [py, PyData.canLay0, h2], by simp [py, PyData.depth]; omega⟩
theorem EG.lst {k : Nat} {xs : List D} (h : ∀ x ∈ xs, EG k x) : EG (k + 1) (.lst xs) := by
  obtain ⟨h1, h2, h3⟩ := eg_all h
  exact ⟨by simp [isData, h1], by simp [py, PyData.canLay0, h2], by simp [py, PyData.depth]; omega⟩
theorem eg_ints (ns : List Int) : ∀ x ∈ ns.map D.int, EG 1 x := fun x hx => by
  obtain ⟨i, _, rfl⟩ := List.mem_map.mp hx
  exact .int
theorem eqv_int (i j : Int) : PyData.eqv (.int i) (.int j) = decide (i = j) := by
  unfold PyData.eqv
  simp [BEq.beq]
theorem eqv_ints : ∀ ns ms : List Int, PyData.eqvAll (pys (ns.map D.int)) (pys (ms.map D.int)) = decide (ns = ms)
  | [], [] => by simp [pys, PyData.eqvAll]
  | [], _ :: _ => by simp [pys, PyData.eqvAll]
  | _ :: _, [] => by simp [pys, PyData.eqvAll]
  | i :: ns, j :: ms => by
    simp only [List.map_cons, pys, py, PyData.eqvAll, eqv_int, eqv_ints ns ms]
    by_cases h : i = j <;> by_cases h2 : ns = ms <;> simp [h, h2]
/-- == of two data, no text, no ref -/
theorem dEq_dat {neg : Bool} {d e : D} {S : Store} {k : Nat} (h1 : EG k d) (h2 : EG k e) (hk : k ≤ 64) (n1 : ∀ x, d ≠ .str x) (n2 : ∀ n, d ≠ .ref n) (n3 : ∀ n, e ≠ .ref n) : dEq neg d e S = .ok (.bl (if neg then !PyData.eqv (py d) (py e) else PyData.eqv (py d) (py e))) S := by
  have r1 : res S d = d := by cases d <;> first | rfl | exact absurd rfl (n2 _)
  have r2 : res S e = e := by cases e <;> first | rfl | exact absurd rfl (n3 _)
  have : dEq neg d e S = dEqD neg d e S := by
    cases d <;> first | rfl | exact absurd rfl (n1 _)
  rw [this]
  unfold dEqD
  rw [r1, r2, h1.ok hk, h2.ok hk]
  rfl
@[simp] theorem eq_lints {neg : Bool} {ns ms : List Int} {S : Store} : dEq neg (.lst (ns.map .int)) (.lst (ms.map .int)) S = .ok (.bl (if neg then !decide (ns = ms) else decide (ns = ms))) S := by
  rw [dEq_dat (EG.lst (eg_ints ns)) (EG.lst (eg_ints ms)) (by decide) (fun _ => nofun) (fun _ => nofun) (fun _ => nofun)]
  simp only [py, PyData.eqv, eqv_ints]
@[simp] theorem eq_tints {neg : Bool} {ns ms : List Int} {S : Store} : dEq neg (.tup (ns.map .int)) (.tup (ms.map .int)) S = .ok (.bl (if neg then !decide (ns = ms) else decide (ns = ms))) S := by
  rw [dEq_dat (EG.tup (eg_ints ns)) (EG.tup (eg_ints ms)) (by decide) (fun _ => nofun) (fun _ => nofun) (fun _ => nofun)]
  simp only [py, PyData.eqv, eqv_ints]
theorem in_ints {neg : Bool} {i : Int} {y : D} {ns : List Int} {S : Store} (h : seqOf y S = some (ns.map .int)) : dIn neg (.int i) y S = .ok (.bl (if neg then !decide (i ∈ ns) else decide (i ∈ ns))) S := by
  have hk : okIn (.int i) (ns.map .int) = true := by
    obtain ⟨h1, h2, h3⟩ := eg_all (eg_ints ns)
    have e1 : okEq (.int i) = true := EG.int.ok
    unfold okIn SeqAt.shaped
    rw [e1, h1]
    simp [PyData.canLay0, h2, PyData.depth]
    omega
  have hi : inD (.int i) (ns.map .int) = decide (i ∈ ns) := by
    unfold inD
    clear hk h
    rw [show py (.int i) = .int i by simp [py]]
    induction ns with
    | nil => simp [pys]
    | cons n ns ih =>
      simp only [List.map_cons, pys, List.any_cons, ih, py, eqv_int]
      by_cases h : n = i
      · subst h; simp
      · have h' : ¬ i = n := fun e => h e.symm
        simp [h, h']
  unfold dIn
  rw [h]
  simp only [res, hk, hi, if_true]
mutual
def inT : D → D
  | .tup xs => .tup (inTs xs)
  | .lst xs => .tup (inTs xs)
  | .scr xs => .tup (inTs xs)
  | d => d
def inTs : List D → List D
  | [] => []
  | x :: xs => inT x :: inTs xs
end
theorem inTs_map : ∀ xs, inTs xs = xs.map inT
  | [] => by simp [inTs]
  | x :: xs => by simp [inTs, inTs_map xs]
mutual
def depD : D → Nat
  | .tup xs => depDs xs + 1
  | .lst xs => depDs xs + 1
  | .scr xs => depDs xs + 1
  | _ => 0
def depDs : List D → Nat
  | [] => 0
  | x :: xs => max (depD x) (depDs xs)
end
mutual
/-- no list within is too long -/
def lenD : D → Bool
  | .tup xs => decide (xs.length ≤ 16777216) && lenDs xs
  | .lst xs => decide (xs.length ≤ 16777216) && lenDs xs
  | .scr xs => decide (xs.length ≤ 16777216) && lenDs xs
  | _ => true
def lenDs : List D → Bool
  | [] => true
  | x :: xs => lenD x && lenDs xs
end
theorem depDs_mem : ∀ {xs : List D} {x : D}, x ∈ xs → depD x ≤ depDs xs
  | y :: xs, x, h => by
    rcases List.mem_cons.mp h with rfl | h
    · simp [depDs]; omega
    · have := depDs_mem h; simp [depDs]; omega
theorem lenDs_mem : ∀ {xs : List D} {x : D}, lenDs xs = true → x ∈ xs → lenD x = true
  | y :: xs, x, h, hx => by
    simp [lenDs] at h
    rcases List.mem_cons.mp hx with rfl | hx
    · exact h.1
    · exact lenDs_mem h.2 hx
theorem inT_pure : ∀ d : D, d.dat = true → (inT d).pure = true := by
  intro d
  exact D.rec (motive_1 := fun d => d.dat = true → (inT d).pure = true) (motive_2 := fun ds => D.dats ds = true → D.pures (inTs ds) = true)
    (by simp [inT]) (by simp [inT]) (by simp [inT]) (by simp [inT]) (by simp) (fun xs ih h => by simpa [inT] using ih (by simpa using h)) (fun xs ih h => by simpa [inT] using ih (by simpa using h)) (fun xs ih h => by simpa [inT] using ih (by simpa using h))
    (fun ks xs ih h => by
      have := dat_pure _ h
      simpa [inT] using this) (by simp) (by simp) (by simp) (by simp) (by simp) (by simp) (by simp [inTs]) (fun x xs h1 h2 h => by
      rw [das_cons, Bool.and_eq_true] at h
      simp [inTs, h1 h.1, h2 h.2]) d
end Lw
end

section
set_option maxHeartbeats 4000000
namespace Lw
open PySem PySem.Spec PyProof.Rows L2 Ev
open Classical
theorem dats_ints (s : List Int) : D.dats (s.map D.int) = true := dats_iff.mpr fun x hx => by
  obtain ⟨i, _, rfl⟩ := List.mem_map.mp hx
  rfl
theorem dep_ints (s : List Int) : depDs (s.map D.int) = 0 := by
  induction s with
  | nil => rfl
  | cons a s ih => simp [depDs, depD, ih]
theorem len_ints (s : List Int) : lenDs (s.map D.int) = true := by
  induction s with
  | nil => rfl
  | cons a s ih => simp [lenDs, lenD, ih]
theorem inT_ints (s : List Int) : inTs (s.map D.int) = s.map D.int := by rw [inTs_map, List.map_map]; rfl
theorem at_getD' {p : List Int} {k : Nat} (h : k < p.length) : atI (p.map D.int) (k : Int) = some (.int (p.getD k 0)) := by
  rw [at_nat]
  simp [List.getD_eq_getElem?_getD, List.getElem?_eq_getElem h]
section
variable {S : Store}
theorem it_list {n : Nat} {d : D} {xs : List D} {T : Tgt} (ih : ∀ (x : D) (S : Store), x ∈ xs → F_in_tuples_ n [x] S = .ok (inT x) S) (hd : ∀ S, seqOf d S = some xs) (hl : xs.length ≤ 16777216) (S : Store) :
    lcGo (seqOf d) xs (tgN 1) (evC (.bl true)) (E_in_tuples_0 (F_in_tuples_ n)) [some d, none] xs S = .ok (.tup (inTs xs)) S := by
  rw [inTs_map]
  refine lc_map (hd S) inT xs fun x hx => ⟨[some d, some x], by simp, by simp, ?_⟩
  simp [E_in_tuples_0, ih x S hx]
theorem f_in_tuples_ : ∀ (n : Nat) (d : D) (S : Store), d.dat = true → depD d < n → lenD d = true → F_in_tuples_ n [d] S = .ok (inT d) S
  | 0, d, S, _, h, _ => absurd h (Nat.not_lt_zero _)
  | n + 1, d, S, hd, hn, hl => by
    have go : ∀ xs : List D, D.dats xs = true → depDs xs + 1 < n + 1 → lenDs xs = true → ∀ (x : D) (S : Store), x ∈ xs → F_in_tuples_ n [x] S = .ok (inT x) S := fun xs h1 h2 h3 x S hx =>
      f_in_tuples_ n x S (dats_iff.mp h1 x hx) (by have := depDs_mem hx; omega) (lenDs_mem h3 hx)
    have hp := inT_pure d hd
    have hlen : ∀ xs : List D, (inTs xs).length = xs.length := fun xs => by rw [inTs_map]; simp
    cases d with
    | tup xs =>
      simp [lenD] at hl
      have e := it_list (T := tgN 1) (d := .tup xs) (go xs (by simpa using hd) (by simpa [depD] using hn) hl.2) (fun _ => rfl) hl.1 S.ent
      simp [F_in_tuples_, runF, M_in_tuples, startD, wipeD, e, hl.1, hlen, inT]
      simp [inT] at hp
      simp [hp]
    | lst xs =>
      simp [lenD] at hl
      have e := it_list (T := tgN 1) (d := .lst xs) (go xs (by simpa using hd) (by simpa [depD] using hn) hl.2) (fun _ => rfl) hl.1 S.ent
      simp [F_in_tuples_, runF, M_in_tuples, startD, wipeD, e, hl.1, hlen, inT]
      simp [inT] at hp
      simp [hp]
    | scr xs =>
      simp [lenD] at hl
      have e := it_list (T := tgN 1) (d := .scr xs) (go xs (by simpa using hd) (by simpa [depD] using hn) hl.2) (fun _ => rfl) hl.1 S.ent
      simp [F_in_tuples_, runF, M_in_tuples, startD, wipeD, e, hl.1, hlen, inT]
      simp [inT] at hp
      simp [hp]
    | dk ks vs =>
      have hq := dat_pure _ hd
      simp at hq
      simp [F_in_tuples_, runF, M_in_tuples, startD, inT, hq]
    | non => simp [F_in_tuples_, runF, M_in_tuples, startD, inT]
    | bl b => simp [F_in_tuples_, runF, M_in_tuples, startD, inT]
    | int b => simp [F_in_tuples_, runF, M_in_tuples, startD, inT]
    | str b => simp [F_in_tuples_, runF, M_in_tuples, startD, inT]
    | _ => simp at hd
theorem f_in_tuples {d : D} (hd : d.dat = true) (hn : depD d < 12) (hl : lenD d = true) : F_in_tuples [d] S = .ok (inT d) S := f_in_tuples_ 12 d S hd hn hl
/-- a whole number between two -/
def btw (d : D) (lo hi : Int) : Bool := match d with
  | .int i => decide (lo ≤ i) && decide (i ≤ hi)
  | _ => false
theorem f_need_between {d : D} {x : Str} {lo hi : Int} (hd : d.dat = true) : F_need_between [.str x, d, .int lo, .int hi] S = (if btw d lo hi then .ok .non S else .exc "BadNumber" ["number", "what"] [d, .str x] S) := by
  have hp := dat_pure _ hd
  cases hw : wholeD d with
  | true =>
    cases d <;> simp [wholeD] at hw
    rename_i i
    by_cases h1 : i < lo
    · have : ¬ lo ≤ i := by omega
      simp [F_need_between, runF, M_need_between, startD, f_whole, wholeD, btw, h1, this, dIs, dLt, dGt]
    · have h1' : lo ≤ i := by omega
      by_cases h2 : hi < i
      · have : ¬ i ≤ hi := by omega
        simp [F_need_between, runF, M_need_between, startD, f_whole, wholeD, btw, h1, h1', h2, this, dIs, dLt, dGt]
      · have : i ≤ hi := by omega
        simp [F_need_between, runF, M_need_between, startD, f_whole, wholeD, btw, h1, h1', h2, this, dIs, dLt, dGt]
  | false =>
    have hb : btw d lo hi = false := by cases d <;> simp [wholeD] at hw <;> rfl
    simp [F_need_between, runF, M_need_between, startD, f_whole, hd, hw, hb, hp]
end
end Lw
end

section
set_option maxHeartbeats 4000000
namespace Lw
open PySem PySem.Spec PyProof.Rows L2 Ev
open Classical
/-- the text of _law_fault -/
noncomputable def faultM (tb : TabK) (hs : List Hdl) : Sst := sSeq (sTryF tb.kn (sExpr (evCallV 0 tb.tab)) hs) (sRet (evC .non))
section
variable {tb : TabK} {S : Store} {l : LamI} {ns : List Nat} {cs : List D} {hs : List Hdl}
theorem fault_exc {c : Str} {fs : List Str} {vs : List D} {d : D} (hc : capV S.ent ns = some cs) (hl : ns.length = l.caps.length) (ht : tb.tab l cs S.ent = .exc c fs vs S.ent)
    (hh : sHand tb.kn c fs vs [some (.clo l ns), none] S.ent hs = .rt d S.ent) (hp : d.pure = true) : runF false 2 (faultM tb hs) [.clo l ns] S = .ok d S := by
  have e : faultM tb hs [some (.clo l ns), none] S.ent = .rt d S.ent := by
    unfold faultM
    simp only [q_seq]
    have e2 : sTryF tb.kn (sExpr (evCallV 0 tb.tab)) hs [some (.clo l ns), none] S.ent = .rt d S.ent := by
      unfold sTryF
      have e3 : sExpr (evCallV 0 tb.tab) [some (.clo l ns), none] S.ent = .exc c fs vs [some (.clo l ns), none] S.ent := by
        unfold sExpr evCallV
        simp [hc, hl, ht]
      rw [e3]
      simp [hh]
    rw [e2, seq_rt]
  have e4 : startD 2 [D.clo l ns] = [some (.clo l ns), none] := rfl
  simp [runF, e4, e, hp]
/-- isinstance(fault, tuple) and repr(fault) == repr(due) -/
theorem same_true {d : D} {xs : List D} (hd : d = .tup xs) (hr : okRepr d = true) (hp : d.pure = true) : runF false 2 (sRet (evAnd (evA (evCons (evVar 0) (evCons (evC (.ty "tuple")) evNil)) (twoL dIsi)) (evB (evA (evCons (evVar 0) evNil) dRepr1) (evA (evCons (evVar 1) evNil) dRepr1) (dEq false)))) [d, d] S = .ok (.bl true) S := by
  subst hd
  have e := fun S => repr_ok hr (fun _ => nofun) S
  simp [runF, startD, e]
end
end Lw
end

section
set_option maxHeartbeats 4000000
namespace Lw
open PySem PySem.Spec PyProof.Rows L2 Ev
open Classical
noncomputable def M_Scene___eq__ : Sst := (sRet (evAnd (evU (evVar 1) (dIsiO "Scene" ["Scene"])) (evAnd (evB (evU (evVar 0) (dFld ["Scene"] "answers")) (evU (evVar 1) (dFld ["Scene"] "answers")) (dEq false)) (evB (evU (evVar 0) (dFld ["Scene"] "lots")) (evU (evVar 1) (dFld ["Scene"] "lots")) (dEq false)))))
noncomputable def F_Scene___eq__ : List D → Store → Res := runF false 2 (M_Scene___eq__)
noncomputable def E_is_lot_0 : Sm := (evAnd (evA (evCons (evVar 2) evNil) (callF 1 [] F_is_whole)) (evCh (evC (.int 0)) (evVar 2) (evVar 1) (fun i j => decide (i ≤ j)) (fun i j => decide (i < j))))
noncomputable def E_is_lot_1 : Sm := (evB (evB (evVar 0) (evVar 3) dIx) (evB (evVar 0) (evB (evVar 3) (evC (.int 1)) (dAdd false)) dIx) (dLt))
noncomputable def M_is_lot : Sst := (sSeq (sIf (evOrT (evU (evU (evA (evCons (evVar 0) (evCons (evC (.ty "tuple")) evNil)) (twoL dIsi)) dTru) dNot) (evU (evU (evA (evCons (evLc false (evVar 0) seqOf (tgN 2) (evC (.bl true)) (E_is_lot_0) [2]) evNil) (one (dAll (·.all id)))) dTru) dNot)) (sRet (evC (.bl false))) sNil)
  (sRet (evA (evCons (evLc false (evCons (evB (evA (evCons (evVar 0) evNil) (one dLen)) (evC (.int 1)) (dSub)) evNil) iRg1 (tgN 3) (evC (.bl true)) (E_is_lot_1) [3]) evNil) (one (dAll (·.all id))))))
noncomputable def F_is_lot : List D → Store → Res := runF false 4 (M_is_lot)
noncomputable def E_is_within_0 : Sm := (evB (evVar 2) (evVar 1) (dIn false))
noncomputable def M_is_within : Sst := (sRet (evA (evCons (evLc false (evVar 0) seqOf (tgN 2) (evC (.bl true)) (E_is_within_0) [2]) evNil) (one (dAll (·.all id)))))
noncomputable def F_is_within : List D → Store → Res := runF false 3 (M_is_within)
noncomputable def E_are_lots_0 : Sm := (evAnd (evA (evCons (evVar 3) (evCons (evVar 1) evNil)) (callF 2 [] F_is_lot)) (evB (evA (evCons (evVar 3) evNil) (one dLen)) (evC (.int 0)) (dGt)))
noncomputable def E_are_lots_1 : Sm := (evAnd (evB (evVar 2) (evVar 4) (dEq true)) (evA (evCons (evB (evVar 0) (evVar 2) dIx) (evCons (evB (evVar 0) (evVar 4) dIx) evNil)) (callF 2 [] F_is_within)))
noncomputable def L_are_lots_2 : Sst := (sIf (evU (evA (evCons (evLc false (evCons (evA (evCons (evVar 0) evNil) (one dLen)) evNil) iRg1 (tgN 4) (evC (.bl true)) (E_are_lots_1) [4]) evNil) (one (dAll (·.any id)))) dTru) (sRet (evC (.bl false))) sNil)
noncomputable def E_are_lots_3 : Sm := (evB (evVar 5) (evVar 3) (dIn false))
noncomputable def E_are_lots_4 : Sm := (evA (evCons (evLc false (evVar 0) seqOf (tgN 3) (evC (.bl true)) (E_are_lots_3) [3]) evNil) (one (dAll (·.any id))))
noncomputable def M_are_lots : Sst := (sSeq (sIf (evOrT (evU (evU (evA (evCons (evVar 0) (evCons (evC (.ty "tuple")) evNil)) (twoL dIsi)) dTru) dNot) (evU (evCh (evC (.int 1)) (evA (evCons (evVar 0) evNil) (one dLen)) (evC (.int 12)) (fun i j => decide (i ≤ j)) (fun i j => decide (i ≤ j))) dNot)) (sRet (evC (.bl false))) sNil)
  (sSeq (sIf (evU (evU (evA (evCons (evLc false (evVar 0) seqOf (tgN 3) (evC (.bl true)) (E_are_lots_0) [3]) evNil) (one (dAll (·.all id)))) dTru) dNot) (sRet (evC (.bl false))) sNil)
  (sSeq (sFor (evCons (evA (evCons (evVar 0) evNil) (one dLen)) evNil) iRg1 (tgN 2) (L_are_lots_2))
  (sRet (evA (evCons (evLc false (evCons (evVar 1) evNil) iRg1 (tgN 5) (evC (.bl true)) (E_are_lots_4) [5]) evNil) (one (dAll (·.all id))))))))
noncomputable def F_are_lots : List D → Store → Res := runF false 6 (M_are_lots)
noncomputable def E_Scene___init___0 : Sm := (evAnd (evA (evCons (evVar 5) evNil) (callF 1 [] F_is_whole)) (evCh (evC (.int 2)) (evVar 5) (evC (.int 5)) (fun i j => decide (i ≤ j)) (fun i j => decide (i ≤ j))))
noncomputable def M_Scene___init__ : Sst := (sSeq (sSet 3 (evA (evCons (evVar 1) evNil) (callF 1 [] F_in_tuples)))
  (sSeq (sIf (evOrT (evU (evU (evA (evCons (evVar 3) (evCons (evC (.ty "tuple")) evNil)) (twoL dIsi)) dTru) dNot) (evU (evCh (evC (.int 1)) (evA (evCons (evVar 3) evNil) (one dLen)) (evC (.int 9)) (fun i j => decide (i ≤ j)) (fun i j => decide (i ≤ j))) dNot)) (sRaise "BadScene" ["what", "value"] (evCons (evC (.str "answers")) (evCons (evVar 1) evNil))) sNil)
  (sSeq (sIf (evU (evU (evA (evCons (evLc false (evVar 3) seqOf (tgN 5) (evC (.bl true)) (E_Scene___init___0) [5]) evNil) (one (dAll (·.all id)))) dTru) dNot) (sRaise "BadScene" ["what", "value"] (evCons (evC (.str "answers")) (evCons (evVar 1) evNil))) sNil)
  (sSeq (sSet 4 (evA (evCons (evVar 2) evNil) (callF 1 [] F_in_tuples)))
  (sSeq (sIf (evU (evU (evA (evCons (evVar 4) (evCons (evA (evCons (evVar 3) evNil) (one dLen)) evNil)) (callF 2 [] F_are_lots)) dTru) dNot) (sRaise "BadScene" ["what", "value"] (evCons (evC (.str "lots")) (evCons (evVar 2) evNil))) sNil)
  (sSeq (sFst ["Scene"] "answers" (evVar 0) (evVar 3))
  (sFst ["Scene"] "lots" (evVar 0) (evVar 4))))))))
noncomputable def F_Scene___init__ : List D → Store → Res := runF false 6 (M_Scene___init__)
noncomputable def M_Scene___ne__ : Sst := (sRet (evU (evB (evVar 0) (evVar 1) (dEqG false ["Scene"] (eqT1 "Scene" F_Scene___eq__))) dNotV))
noncomputable def F_Scene___ne__ : List D → Store → Res := runF false 2 (M_Scene___ne__)
noncomputable def L_product_of_0 : Sst := (sSet 1 (evB (evVar 1) (evVar 2) (dMul false)))
noncomputable def M_product_of : Sst := (sSeq (sSet 1 (evC (.int 1)))
  (sSeq (sFor (evVar 0) seqOf (tgN 2) (L_product_of_0))
  (sRet (evVar 1))))
noncomputable def F_product_of : List D → Store → Res := runF false 3 (M_product_of)
noncomputable def M_need_few : Sst := (sSeq (sSet 1 (evA (evCons (evU (evVar 0) (dFld ["Scene"] "answers")) evNil) (callF 1 [] F_product_of)))
  (sIf (evB (evVar 1) (evC (.int 512)) (dGt)) (sRaise "TooMany" ["what", "many", "limit"] (evCons (evC (.str "plans")) (evCons (evVar 1) (evCons (evC (.int 512)) evNil)))) sNil))
noncomputable def F_need_few : List D → Store → Res := runF false 2 (M_need_few)
noncomputable def M_need_scene : Sst := (sIf (evU (evU (evU (evVar 0) (dIsiO "Scene" ["Scene"])) dTru) dNot) (sRaise "Unlike" ["what"] (evCons (evC (.str "scene")) evNil)) sNil)
noncomputable def F_need_scene : List D → Store → Res := runF false 1 (M_need_scene)
noncomputable def M_plans : Sst := (sSeq (sExpr (evA (evCons (evVar 0) evNil) (callF 1 [] F_need_scene)))
  (sSeq (sExpr (evA (evCons (evVar 0) evNil) (callF 1 [] F_need_few)))
  (sRet (evA (evCons (evA (evCons (evU (evVar 0) (dFld ["Scene"] "answers")) evNil) (callF 1 [] F_all_rows)) evNil) (one dTuple)))))
noncomputable def F_plans : List D → Store → Res := runF false 1 (M_plans)
noncomputable def M_many_plans : Sst := (sSeq (sExpr (evA (evCons (evVar 0) evNil) (callF 1 [] F_need_scene)))
  (sRet (evA (evCons (evU (evVar 0) (dFld ["Scene"] "answers")) evNil) (callF 1 [] F_product_of))))
noncomputable def F_many_plans : List D → Store → Res := runF false 1 (M_many_plans)
noncomputable def E_lot_rows_0 : Sm := (evB (evU (evVar 0) (dFld ["Scene"] "answers")) (evVar 2) dIx)
noncomputable def M_lot_rows : Sst := (sRet (evA (evCons (evLc false (evB (evU (evVar 0) (dFld ["Scene"] "lots")) (evVar 1) dIx) seqOf (tgN 2) (evC (.bl true)) (E_lot_rows_0) [2]) evNil) (callF 1 [] F_all_rows)))
noncomputable def F_lot_rows : List D → Store → Res := runF false 3 (M_lot_rows)
noncomputable def M_need_number : Sst := (sExpr (evA (evCons (evC (.str "number")) (evCons (evVar 1) (evCons (evC (.int 0)) (evCons (evB (evA (evCons (evU (evVar 0) (dFld ["Scene"] "lots")) evNil) (one dLen)) (evC (.int 1)) (dSub)) evNil)))) (callF 4 [] F_need_between)))
noncomputable def F_need_number : List D → Store → Res := runF false 2 (M_need_number)
noncomputable def M_rows_of : Sst := (sSeq (sExpr (evA (evCons (evVar 0) evNil) (callF 1 [] F_need_scene)))
  (sSeq (sExpr (evA (evCons (evVar 0) (evCons (evVar 1) evNil)) (callF 2 [] F_need_number)))
  (sRet (evA (evCons (evA (evCons (evVar 0) (evCons (evVar 1) evNil)) (callF 2 [] F_lot_rows)) evNil) (one dTuple)))))
noncomputable def F_rows_of : List D → Store → Res := runF false 2 (M_rows_of)
noncomputable def M_is_tuple_of : Sst := (sRet (evAnd (evA (evCons (evVar 0) (evCons (evC (.ty "tuple")) evNil)) (twoL dIsi)) (evB (evA (evCons (evVar 0) evNil) (one dLen)) (evVar 1) (dEq false))))
noncomputable def F_is_tuple_of : List D → Store → Res := runF false 2 (M_is_tuple_of)
noncomputable def E_is_row_of_0 : Sm := (evAnd (evA (evCons (evVar 2) evNil) (callF 1 [] F_is_whole)) (evCh (evC (.int 0)) (evVar 2) (evVar 3) (fun i j => decide (i ≤ j)) (fun i j => decide (i < j))))
noncomputable def M_is_row_of : Sst := (sSeq (sIf (evU (evU (evA (evCons (evVar 0) (evCons (evA (evCons (evVar 1) evNil) (one dLen)) evNil)) (callF 2 [] F_is_tuple_of)) dTru) dNot) (sRet (evC (.bl false))) sNil)
  (sRet (evA (evCons (evLc false (evCons (evVar 0) (evCons (evVar 1) evNil)) iZ2 (tgTup 2 (tgCons (tgN 2) (tgCons (tgN 3) tgNil))) (evC (.bl true)) (E_is_row_of_0) [2, 3]) evNil) (one (dAll (·.all id))))))
noncomputable def F_is_row_of : List D → Store → Res := runF false 4 (M_is_row_of)
noncomputable def M_plan_from : Sst := (sSeq (sSet 2 (evA (evCons (evVar 1) evNil) (callF 1 [] F_in_tuples)))
  (sSeq (sIf (evU (evU (evA (evCons (evVar 2) (evCons (evU (evVar 0) (dFld ["Scene"] "answers")) evNil)) (callF 2 [] F_is_row_of)) dTru) dNot) (sRaise "BadRow" ["row"] (evCons (evVar 1) evNil)) sNil)
  (sRet (evVar 2))))
noncomputable def F_plan_from : List D → Store → Res := runF false 3 (M_plan_from)
noncomputable def E_seen_by_0 : Sm := (evB (evVar 1) (evVar 3) dIx)
noncomputable def M_seen_by : Sst := (sRet (evA (evCons (evLc false (evB (evU (evVar 0) (dFld ["Scene"] "lots")) (evVar 2) dIx) seqOf (tgN 3) (evC (.bl true)) (E_seen_by_0) [3]) evNil) (one dTuple)))
noncomputable def F_seen_by : List D → Store → Res := runF false 4 (M_seen_by)
noncomputable def M_seen : Sst := (sSeq (sExpr (evA (evCons (evVar 0) evNil) (callF 1 [] F_need_scene)))
  (sSeq (sSet 3 (evA (evCons (evVar 0) (evCons (evVar 1) evNil)) (callF 2 [] F_plan_from)))
  (sSeq (sExpr (evA (evCons (evVar 0) (evCons (evVar 2) evNil)) (callF 2 [] F_need_number)))
  (sRet (evA (evCons (evVar 0) (evCons (evVar 3) (evCons (evVar 2) evNil))) (callF 3 [] F_seen_by))))))
noncomputable def F_seen : List D → Store → Res := runF false 4 (M_seen)
noncomputable def E__law_lot_rows_0 : Sm := (evB (evVar 0) (evVar 2) dIx)
noncomputable def M__law_lot_rows : Sst := (sRet (evA (evCons (evLc false (evVar 1) seqOf (tgN 2) (evC (.bl true)) (E__law_lot_rows_0) [2]) evNil) (callF 1 [] F__law_rows)))
noncomputable def F__law_lot_rows : List D → Store → Res := runF false 3 (M__law_lot_rows)
noncomputable def L__law_shuffled_0 (pc : PenK) : Sst := (sExpr (evMth (evVar 3) (evCons (evMth (evVar 2) (evCons (evA (evCons (evVar 0) (evCons (evA (evCons (evVar 2) evNil) (one dLen)) evNil)) (callF 2 [] (F__law_draw pc))) evNil) isLstD dPopAt) evNil) isLstD dAppend))
noncomputable def M__law_shuffled (pc : PenK) : Sst := (sSeq (sPar2 2 3 (evCons (evA (evCons (evVar 1) evNil) (one (dList true))) (evCons (evA evNil (mkL true)) evNil)))
  (sSeq (sFor (evCons (evA (evCons (evVar 1) evNil) (one dLen)) evNil) iRg1 (tgN 4) (L__law_shuffled_0 pc))
  (sRet (evVar 3))))
noncomputable def F__law_shuffled (pc : PenK) : List D → Store → Res := runF false 5 (M__law_shuffled pc)
noncomputable def E__law_scene_0 (pc : PenK) : Sm := (evB (evC (.int 2)) (evA (evCons (evVar 0) (evCons (evB (evVar 2) (evC (.int 1)) (dSub)) evNil)) (callF 2 [] (F__law_draw pc))) (dAdd false))
noncomputable def L__law_scene_1 (pc : PenK) : Sst := (sSeq (sSet 7 (evB (evC (.int 1)) (evA (evCons (evVar 0) (evCons (evA (evCons (evC (.int 3)) (evCons (evVar 1) evNil)) (twoL dMin2)) evNil)) (callF 2 [] (F__law_draw pc))) (dAdd false)))
  (sExpr (evMth (evVar 5) (evCons (evA (evCons (evA (evCons (evSl false (evA (evCons (evVar 0) (evCons (evU (evVar 1) (dRgL1 false)) evNil)) (callF 2 [] (F__law_shuffled pc))) none (some (evVar 7))) evNil) (one (dSortI false))) evNil) (one dTuple)) evNil) isLstD dAppend)))
noncomputable def E__law_scene_2 (pc : PenK) : Sm := (evB (evVar 8) (evVar 10) (dIn false))
noncomputable def L__law_scene_3 (pc : PenK) : Sst := (sIf (evU (evU (evA (evCons (evLc false (evVar 5) seqOf (tgN 10) (evC (.bl true)) (E__law_scene_2 pc) [10]) evNil) (one (dAll (·.any id)))) dTru) dNot) (sExpr (evMth (evVar 5) (evCons (evA (evCons (evVar 8) evNil) mkT) evNil) isLstD dAppend)) sNil)
noncomputable def E__law_scene_4 (pc : PenK) : Sm := (evB (evVar 11) (evVar 12) (dIn false))
noncomputable def E__law_scene_5 (pc : PenK) : Sm := (evAnd (evB (evVar 10) (evVar 12) (dEq true)) (evA (evCons (evLc false (evVar 10) seqOf (tgN 11) (evC (.bl true)) (E__law_scene_4 pc) [11]) evNil) (one (dAll (·.all id)))))
noncomputable def L__law_scene_6 (pc : PenK) : Sst := (sIf (evAndT (evB (evVar 10) (evVar 9) (dIn true)) (evU (evU (evA (evCons (evLc false (evVar 5) seqOf (tgN 12) (evC (.bl true)) (E__law_scene_5 pc) [12]) evNil) (one (dAll (·.any id)))) dTru) dNot)) (sExpr (evMth (evVar 9) (evCons (evVar 10) evNil) isLstD dAppend)) sNil)
noncomputable def M__law_scene (pc : PenK) : Sst := (sSeq (sSet 4 (evA (evCons (evLc false (evCons (evVar 1) evNil) iRg1 (tgN 11) (evC (.bl true)) (E__law_scene_0 pc) [11]) evNil) (one dTuple)))
  (sSeq (sSet 5 (evA evNil (mkL true)))
  (sSeq (sFor (evCons (evB (evC (.int 1)) (evA (evCons (evVar 0) (evCons (evVar 3) evNil)) (callF 2 [] (F__law_draw pc))) (dAdd false)) evNil) iRg1 (tgN 6) (L__law_scene_1 pc))
  (sSeq (sFor (evCons (evVar 1) evNil) iRg1 (tgN 8) (L__law_scene_3 pc))
  (sSeq (sSet 9 (evA evNil (mkL true)))
  (sSeq (sFor (evVar 5) seqOf (tgN 10) (L__law_scene_6 pc))
  (sRet (evA (evCons (evVar 4) (evCons (evA (evCons (evVar 9) evNil) (one dTuple)) evNil)) mkT))))))))
noncomputable def F__law_scene (pc : PenK) : List D → Store → Res := runF false 13 (M__law_scene pc)
noncomputable def E__law_seen_0 : Sm := (evB (evVar 0) (evVar 2) dIx)
noncomputable def M__law_seen : Sst := (sRet (evA (evCons (evLc false (evVar 1) seqOf (tgN 2) (evC (.bl true)) (E__law_seen_0) [2]) evNil) (one dTuple)))
noncomputable def F__law_seen : List D → Store → Res := runF false 3 (M__law_seen)
end Lw
end

section
set_option maxHeartbeats 4000000
namespace Lw
open PySem PySem.Spec PyProof.Rows L2 Ev
open Classical
theorem rng_n' (n : Nat) : rngL 0 n = (List.range n).map fun k : Nat => D.int (k : Int) := by simp [rngL]
theorem big_nat {n : Nat} (h : n ≤ 1000000000) : big62 (n : Int) = true := by simp [big62]; omega
/-- the ints of a row -/
def intsX (xs : List D) : List Int := xs.filterMap fun | .int i => some i | _ => none
theorem intsX_map (s : List Int) : intsX (s.map D.int) = s := by
  induction s with
  | nil => rfl
  | cons a s ih =>
    show a :: intsX (s.map D.int) = _
    rw [ih]
theorem intsX_of {p : Int → Bool} : ∀ {xs : List D}, xs.all (fun | .int i => p i | _ => false) = true → xs = (intsX xs).map .int ∧ (intsX xs).all p = true
  | [], _ => ⟨rfl, rfl⟩
  | x :: xs, h => by
    simp only [List.all_cons, Bool.and_eq_true] at h
    obtain ⟨h1, h2⟩ := h
    obtain ⟨e1, e2⟩ := intsX_of (xs := xs) h2
    cases x <;> simp at h1
    rename_i i
    refine ⟨?_, ?_⟩
    · show _ = D.int i :: (intsX xs).map .int
      rw [← e1]
    · show (p i && (intsX xs).all p) = true
      rw [h1, e2]; rfl
/-- a whole number from lo to hi - 1 -/
def inQ (q : Nat) : D → Bool
  | .int i => decide (0 ≤ i) && decide (i < (q : Int))
  | _ => false
def asc : List Int → Bool
  | a :: b :: r => decide (a < b) && asc (b :: r)
  | _ => true
def islD (q : Nat) : D → Bool
  | .tup xs => xs.all (inQ q) && asc (intsX xs)
  | _ => false
section
variable {S : Store}
theorem asc_all : ∀ (r : List Int), asc r = ((List.range (r.length - 1)).map fun k => decide (r.getD k 0 < r.getD (k + 1) 0)).all id
  | [] => rfl
  | [a] => rfl
  | a :: b :: r => by
    have ih := asc_all (b :: r)
    have e : (a :: b :: r).length - 1 = (b :: r).length - 1 + 1 := by simp
    rw [asc, ih, e, List.range_succ_eq_map]
    simp [Function.comp_def]
theorem f_is_lot {d : D} {q : Nat} (h : d.dat = true) (hl : lenD d = true) : F_is_lot [d, .int (q : Int)] S = .ok (.bl (islD q d)) S := by
  cases d with
  | tup xs =>
    simp at h
    simp only [lenD, Bool.and_eq_true, decide_eq_true_eq] at hl
    have hd := dats_iff.mp h
    have e1 := lc_map (C := evC (.bl true)) (E := E_is_lot_0) (T := tgN 2) (σ := [some (.tup xs), some (.int (q : Int)), none, none]) (S := S.ent) (it := seqOf (.tup xs)) (xs := xs) rfl (fun x => .bl (inQ q x)) xs fun x hx => by
      refine ⟨_, rfl, by simp, ?_⟩
      have hxd := hd x hx
      clear hx
      cases x <;> simp at hxd <;> simp [E_is_lot_0, f_whole, wholeD, inQ, hxd]
      rename_i i
      by_cases h0 : 0 ≤ i <;> simp [h0]
    have e1' : (xs.map fun x => D.bl (inQ q x)) = (xs.map (inQ q)).map D.bl := by simp [Function.comp_def]
    rw [e1'] at e1
    have hal := fun S => all_l (S := S) (p := (·.all id)) (bs := xs.map (inQ q))
    have hll : xs.length ≤ 16777216 := hl.1
    cases hall : xs.all (inQ q) with
    | false =>
      have hall2 : ((xs.map (inQ q)).all id) = false := by rw [List.all_map]; exact hall
      simp only [hall2] at hal
      simp [F_is_lot, runF, M_is_lot, startD, wipeD, -List.map_map]
      rw [e1]
      simp [hal, hll, islD, hall, -List.map_map]
    | true =>
      have hall2 : ((xs.map (inQ q)).all id) = true := by rw [List.all_map]; exact hall
      simp only [hall2] at hal
      obtain ⟨hx, hq⟩ := intsX_of (p := fun i => decide (0 ≤ i) && decide (i < (q : Int))) (xs := xs) (by
        rw [← hall]; congr 1)
      have hxl : (intsX xs).length = xs.length := by conv => rhs; rw [hx]; simp
      have e2 := lc_g (C := evC (.bl true)) (E := E_is_lot_1) (T := tgN 3) (σ := [some (.tup xs), some (.int (q : Int)), none, none]) (S := S.ent) (it := iRg1 (.tup [.int ((xs.length : Int) - 1)])) (xs := rngL 0 (xs.length - 1)) (fun k : Nat => D.int (k : Int)) (fun k => D.bl (decide ((intsX xs).getD k 0 < (intsX xs).getD (k + 1) 0))) (by
        have hb : big62 ((xs.length : Int) - 1) = true := by simp [big62]; omega
        have ht : ((xs.length : Int) - 1).toNat = xs.length - 1 := by omega
        simp [hb, ht]) (List.range (xs.length - 1)) fun k hk => by
        have hk := List.mem_range.mp hk
        have a1 := at_getD' (p := intsX xs) (k := k) (by omega)
        have a2 := at_getD' (p := intsX xs) (k := k + 1) (by omega)
        rw [← hx] at a1 a2
        have ec : ((k + 1 : Nat) : Int) = (k : Int) + 1 := by omega
        rw [ec] at a2
        exact ⟨_, rfl, by simp, by simp [E_is_lot_1, a1, a2, dLt]⟩
      rw [← rng_n'] at e2
      have e2' : ((List.range (xs.length - 1)).map fun k => D.bl (decide ((intsX xs).getD k 0 < (intsX xs).getD (k + 1) 0))) = ((List.range (xs.length - 1)).map fun k => decide ((intsX xs).getD k 0 < (intsX xs).getD (k + 1) 0)).map D.bl := by simp [Function.comp_def]
      rw [e2'] at e2
      have hal2 := fun S => all_l (S := S) (p := (·.all id)) (bs := (List.range (xs.length - 1)).map fun k => decide ((intsX xs).getD k 0 < (intsX xs).getD (k + 1) 0))
      have has := asc_all (intsX xs)
      rw [hxl] at has
      rw [← has] at hal2
      have hl2 : ((List.range (xs.length - 1)).map fun k => decide ((intsX xs).getD k 0 < (intsX xs).getD (k + 1) 0)).length ≤ 16777216 := by simp; omega
      generalize ((List.range (xs.length - 1)).map fun k => decide ((intsX xs).getD k 0 < (intsX xs).getD (k + 1) 0)) = z at *
      have hb : big62 ((xs.length : Int) - 1) = true := by simp [big62]; omega
      have ht : ((xs.length : Int) - 1).toNat = xs.length - 1 := by omega
      simp [F_is_lot, runF, M_is_lot, startD, wipeD, -List.map_map]
      rw [e1]
      simp [hal, hll, hb, ht, wipeD, -List.map_map]
      rw [e2]
      simp [hal2, hl2, islD, hall]
  | _ => simp at h <;> simp [F_is_lot, runF, M_is_lot, startD, islD]
theorem f_is_within {a b : List Int} (ha : a.length ≤ 16777216) : F_is_within [tI a, tI b] S = .ok (.bl (a.all fun i => decide (i ∈ b))) S := by
  have e := lc_g (C := evC (.bl true)) (E := E_is_within_0) (T := tgN 2) (σ := [some (tI a), some (tI b), none]) (S := S.ent) (it := seqOf (tI a)) (xs := a.map D.int) (fun i => D.int i) (fun i => D.bl (decide (i ∈ b))) rfl a fun i hi => by
    have hin := in_ints (neg := false) (i := i) (y := tI b) (ns := b) (S := S.ent) rfl
    exact ⟨_, rfl, by simp, by simp [E_is_within_0, hin]⟩
  rw [show a.map (fun i => D.int i) = a.map D.int from rfl, show (a.map fun i => D.bl (decide (i ∈ b))) = (a.map fun i => decide (i ∈ b)).map D.bl by simp [Function.comp_def]] at e
  have hal := fun S => all_l (S := S) (p := (·.all id)) (bs := a.map fun i => decide (i ∈ b))
  have hall : ((a.map fun i => decide (i ∈ b)).all id) = a.all fun i => decide (i ∈ b) := by rw [List.all_map]; rfl
  rw [hall] at hal
  have hl : (a.map fun i => decide (i ∈ b)).length ≤ 16777216 := by simp; omega
  generalize (a.map fun i => decide (i ∈ b)) = z at *
  simp [F_is_within, runF, M_is_within, startD, wipeD]
  rw [e]
  simp [hal, hl]
end
/-- a loop that ends with the first item that is found -/
theorem for_find {α : Type} {it : Store → Option (List D)} {xs : List D} {T : Tgt} {B : Sst} {S : Store} (f : α → D) (p : α → Bool) (v : D) (R : Env1 → Prop) (hit : it S = some xs) : ∀ (rs : List α) (σ : Env1), (∀ a σ, a ∈ rs → R σ → ∃ σ2 σ3, T (f a) σ = some σ2 ∧ B σ2 S = (if p a then .rt v S else .nx σ3 S) ∧ R σ3) → R σ → ∃ σ', R σ' ∧ forGo it xs T B (rs.map f) σ S = (if rs.any p then .rt v S else .nx σ' S)
  | [], σ, _, r => ⟨σ, r, by simp [for_nil hit]⟩
  | a :: rs, σ, h, r => by
    obtain ⟨σ2, σ3, q1, q2, q3⟩ := h a σ (List.mem_cons_self ..) r
    rw [List.map_cons]
    cases hp : p a with
    | true =>
      rw [hp] at q2
      exact ⟨σ, r, by rw [for_rt hit q1 q2]; simp [hp]⟩
    | false =>
      rw [hp] at q2
      obtain ⟨σ', r', q4⟩ := for_find f p v R hit rs σ3 (fun a σ ha => h a σ (List.mem_cons_of_mem _ ha)) q3
      exact ⟨σ', r', by rw [for_nx hit q1 q2, q4]; simp [hp]⟩
def lotsX (xs : List D) : List (List Int) := xs.filterMap fun | .tup ys => some (intsX ys) | _ => none
theorem lotsX_map (ls : List (List Int)) : lotsX (ls.map tI) = ls := by
  induction ls with
  | nil => rfl
  | cons a s ih =>
    show intsX (a.map D.int) :: lotsX (s.map tI) = _
    rw [ih, intsX_map]
def neD : D → Bool
  | .tup xs => !xs.isEmpty
  | _ => false
def withinAt (ls : List (List Int)) (i : Nat) : Bool := (List.range ls.length).any fun j => decide (i ≠ j) && (ls.getD i []).all fun k => decide (k ∈ ls.getD j [])
def covers (q : Nat) (ls : List (List Int)) : Bool := (List.range q).all fun k => ls.any fun l => decide ((k : Int) ∈ l)
def arlD (q : Nat) : D → Bool
  | .tup xs => (decide (1 ≤ xs.length) && decide (xs.length ≤ 12)) && (xs.all (fun x => islD q x && neD x) && (!(List.range (lotsX xs).length).any (withinAt (lotsX xs)) && covers q (lotsX xs)))
  | _ => false
section
variable {S : Store}
theorem lots_of {q : Nat} : ∀ {xs : List D}, xs.all (fun x => islD q x && neD x) = true → xs = (lotsX xs).map tI
  | [], _ => rfl
  | x :: xs, h => by
    simp only [List.all_cons, Bool.and_eq_true] at h
    obtain ⟨⟨h1, h2⟩, h3⟩ := h
    have ih := lots_of (xs := xs) h3
    cases x <;> simp [neD] at h2
    rename_i ys
    simp only [islD, Bool.and_eq_true] at h1
    obtain ⟨hy, _⟩ := intsX_of (p := fun i => decide (0 ≤ i) && decide (i < (q : Int))) (xs := ys) (by rw [← h1.1]; congr 1)
    show _ = tI (intsX ys) :: (lotsX xs).map tI
    rw [← ih]
    congr 1
    exact congrArg D.tup hy
theorem ix_lot {ls : List (List Int)} {k : Nat} (h : k < ls.length) : dIx (.tup (ls.map tI)) (.int (k : Int)) S = .ok (tI (ls.getD k [])) S := by
  have : atI (ls.map tI) (k : Int) = some (tI (ls.getD k [])) := by
    rw [at_nat]
    simp [List.getD_eq_getElem?_getD, List.getElem?_eq_getElem h]
  simp only [ix_i, seq_t, this]
theorem within_body {ls : List (List Int)} {q : Nat} {i : Nat} (hi : i < ls.length) (hn : ls.length ≤ 1000000) (hl : ∀ l ∈ ls, l.length ≤ 16777216) : L_are_lots_2 [some (.tup (ls.map tI)), some (.int (q : Int)), some (.int (i : Int)), none, none, none] S = (if withinAt ls i then .rt (.bl false) S else .nx [some (.tup (ls.map tI)), some (.int (q : Int)), some (.int (i : Int)), none, none, none] S) := by
  have e := lc_g (C := evC (.bl true)) (E := E_are_lots_1) (T := tgN 4) (σ := [some (.tup (ls.map tI)), some (.int (q : Int)), some (.int (i : Int)), none, none, none]) (S := S) (it := iRg1 (.tup [.int (ls.length : Int)])) (xs := rngL 0 ls.length) (fun k : Nat => D.int (k : Int)) (fun j => D.bl (decide (i ≠ j) && (ls.getD i []).all fun k => decide (k ∈ ls.getD j []))) (by simp [big_nat (show ls.length ≤ 1000000000 by omega)]) (List.range ls.length) fun j hj => by
    have hj := List.mem_range.mp hj
    have h1 := ix_lot (S := S) hi
    have h2 := ix_lot (S := S) hj
    have h3 := f_is_within (S := S) (a := ls.getD i []) (b := ls.getD j []) (hl _ (by simp [List.getD_eq_getElem?_getD, List.getElem?_eq_getElem hi]))
    refine ⟨[some (.tup (ls.map tI)), some (.int (q : Int)), some (.int (i : Int)), none, some (.int (j : Int)), none], by simp, by simp, ?_⟩
    by_cases hij : i = j
    · subst hij
      simp [E_are_lots_1]
    · have hij' : ¬ (i : Int) = (j : Int) := by omega
      simp only [E_are_lots_1, p_and, p_B, kB_e, p_var, List.getElem?_cons_succ, List.getElem?_cons_zero, bind_ok, ne_i, kAnd_e, tru_b, decide_eq_false hij', Bool.not_false, p_A, p_cons, p_nil, kCons_e, kTup_e, bindA_ok, h1, h2, p_callF, List.append_nil, List.length_cons, List.length_nil, if_true, h3]
      simp [hij]
  rw [← rng_n', show ((List.range ls.length).map fun j => D.bl (decide (i ≠ j) && (ls.getD i []).all fun k => decide (k ∈ ls.getD j []))) = ((List.range ls.length).map fun j => decide (i ≠ j) && (ls.getD i []).all fun k => decide (k ∈ ls.getD j [])).map D.bl by simp [Function.comp_def]] at e
  have hal := fun S => all_l (S := S) (p := (·.any id)) (bs := (List.range ls.length).map fun j => decide (i ≠ j) && (ls.getD i []).all fun k => decide (k ∈ ls.getD j []))
  have hany : (((List.range ls.length).map fun j => decide (i ≠ j) && (ls.getD i []).all fun k => decide (k ∈ ls.getD j [])).any id) = withinAt ls i := by rw [List.any_map]; rfl
  rw [hany] at hal
  have hml : ((List.range ls.length).map fun j => decide (i ≠ j) && (ls.getD i []).all fun k => decide (k ∈ ls.getD j [])).length ≤ 16777216 := by simp; omega
  generalize ((List.range ls.length).map fun j => decide (i ≠ j) && (ls.getD i []).all fun k => decide (k ∈ ls.getD j [])) = z at *
  have hit : iRg1 (.tup [.int (ls.length : Int)]) S = some (rngL 0 ls.length) := by simp [big_nat (show ls.length ≤ 1000000000 by omega)]
  cases hw : withinAt ls i with
  | true =>
    simp only [hw] at hal
    unfold L_are_lots_2
    simp only [q_seq, q_set, q_if, q_expr, q_ret, q_nil, p_A, p_B, kB_e, p_U, p_cons, p_nil, kCons_e, kTup_e, bind_ok, bindA_ok, p_var, p_c, p_lc, kLc_e, p_one, p_two, p_repr1, p_callF, List.getElem?_cons_succ, List.getElem?_cons_zero, List.append_nil, List.length_cons, List.length_nil, if_true, go_ok, kSet_e, seq_nx, kSIf_t, kSIf_f, kRet_e, kExpr_e, p_orT, kOrT_t, kOrT_f, p_andT, kAndT_t, kAndT_f, seq_l, seq_t, wipeD, List.set_cons_succ, List.set_cons_zero, List.foldl_cons, List.foldl_nil, mkL_f, mkT_e, List.length_map, tup_l, tup_t, len_t, len_l, add_i, sub_i, ne_ss, ne_i, eq_i, hit, e, hml, hal, p_tru, tru_b]
  | false =>
    simp only [hw] at hal
    unfold L_are_lots_2
    simp only [q_seq, q_set, q_if, q_expr, q_ret, q_nil, p_A, p_B, kB_e, p_U, p_cons, p_nil, kCons_e, kTup_e, bind_ok, bindA_ok, p_var, p_c, p_lc, kLc_e, p_one, p_two, p_repr1, p_callF, List.getElem?_cons_succ, List.getElem?_cons_zero, List.append_nil, List.length_cons, List.length_nil, if_true, go_ok, kSet_e, seq_nx, kSIf_t, kSIf_f, kRet_e, kExpr_e, p_orT, kOrT_t, kOrT_f, p_andT, kAndT_t, kAndT_f, seq_l, seq_t, wipeD, List.set_cons_succ, List.set_cons_zero, List.foldl_cons, List.foldl_nil, mkL_f, mkT_e, List.length_map, tup_l, tup_t, len_t, len_l, add_i, sub_i, ne_ss, ne_i, eq_i, hit, e, hml, hal, p_tru, tru_b, Bool.false_eq_true, if_false]
theorem cover_body {ls : List (List Int)} {q : Nat} {k : Nat} {x2 : Option D} (hn : ls.length ≤ 1000000) : E_are_lots_4 [some (.tup (ls.map tI)), some (.int (q : Int)), x2, none, none, some (.int (k : Int))] S = .ok (.bl (ls.any fun l => decide ((k : Int) ∈ l))) S := by
  have e := lc_g (C := evC (.bl true)) (E := E_are_lots_3) (T := tgN 3) (σ := [some (.tup (ls.map tI)), some (.int (q : Int)), x2, none, none, some (.int (k : Int))]) (S := S) (it := seqOf (.tup (ls.map tI))) (xs := ls.map tI) tI (fun l => D.bl (decide ((k : Int) ∈ l))) rfl ls fun l hl => by
    have hin := in_ints (neg := false) (i := (k : Int)) (y := tI l) (ns := l) (S := S) rfl
    exact ⟨_, rfl, by simp, by simp [E_are_lots_3, hin]⟩
  rw [show (ls.map fun l => D.bl (decide ((k : Int) ∈ l))) = (ls.map fun l => decide ((k : Int) ∈ l)).map D.bl by simp [Function.comp_def]] at e
  have hal := fun S => all_l (S := S) (p := (·.any id)) (bs := ls.map fun l => decide ((k : Int) ∈ l))
  have hany : ((ls.map fun l => decide ((k : Int) ∈ l)).any id) = ls.any fun l => decide ((k : Int) ∈ l) := by rw [List.any_map]; rfl
  rw [hany] at hal
  have hml : (ls.map fun l => decide ((k : Int) ∈ l)).length ≤ 16777216 := by simp; omega
  generalize (ls.map fun l => decide ((k : Int) ∈ l)) = z at *
  unfold E_are_lots_4
  simp only [q_seq, q_set, q_if, q_expr, q_ret, q_nil, p_A, p_B, kB_e, p_U, p_cons, p_nil, kCons_e, kTup_e, bind_ok, bindA_ok, p_var, p_c, p_lc, kLc_e, p_one, p_two, p_repr1, p_callF, List.getElem?_cons_succ, List.getElem?_cons_zero, List.append_nil, List.length_cons, List.length_nil, if_true, go_ok, kSet_e, seq_nx, kSIf_t, kSIf_f, kRet_e, kExpr_e, p_orT, kOrT_t, kOrT_f, p_andT, kAndT_t, kAndT_f, seq_l, seq_t, wipeD, List.set_cons_succ, List.set_cons_zero, List.foldl_cons, List.foldl_nil, mkL_f, mkT_e, List.length_map, tup_l, tup_t, len_t, len_l, add_i, sub_i, ne_ss, ne_i, eq_i, e, hml, hal]
theorem f_are_lots {d : D} {q : Nat} (h : d.dat = true) (hl : lenD d = true) (hq : q ≤ 1000000) : F_are_lots [d, .int (q : Int)] S = .ok (.bl (arlD q d)) S := by
  cases d with
  | tup xs =>
    simp at h
    simp only [lenD, Bool.and_eq_true, decide_eq_true_eq] at hl
    have hd := dats_iff.mp h
    by_cases hlen : 1 ≤ xs.length ∧ xs.length ≤ 12
    · obtain ⟨l1, l2⟩ := hlen
      have l1' : (1 : Int) ≤ xs.length := by omega
      have l2' : (xs.length : Int) ≤ 12 := by omega
      have e1 := lc_map (C := evC (.bl true)) (E := E_are_lots_0) (T := tgN 3) (σ := [some (.tup xs), some (.int (q : Int)), none, none, none, none]) (S := S.ent) (it := seqOf (.tup xs)) (xs := xs) rfl (fun x => .bl (islD q x && neD x)) xs fun x hx => by
        refine ⟨_, rfl, by simp, ?_⟩
        have hil := f_is_lot (S := S.ent) (q := q) (hd x hx) (lenDs_mem hl.2 hx)
        cases hi : islD q x with
        | false => simp [E_are_lots_0, hil, hi]
        | true =>
          rw [hi] at hil
          cases x <;> simp only [islD, Bool.false_eq_true] at hi
          rename_i ys
          have hgt : (decide (0 < ys.length)) = neD (.tup ys) := by
            cases ys with
            | nil => rfl
            | cons y ys => simp [neD]
          simp [E_are_lots_0, hil, dGt, hgt]
      have e1' : (xs.map fun x => D.bl (islD q x && neD x)) = (xs.map fun x => islD q x && neD x).map D.bl := by simp [Function.comp_def]
      rw [e1'] at e1
      have hal := fun S => all_l (S := S) (p := (·.all id)) (bs := xs.map fun x => islD q x && neD x)
      have hll : xs.length ≤ 16777216 := by omega
      have hall0 : ((xs.map fun x => islD q x && neD x).all id) = xs.all fun x => islD q x && neD x := by rw [List.all_map]; rfl
      rw [hall0] at hal
      have hml : (xs.map fun x => islD q x && neD x).length ≤ 16777216 := by simpa using hll
      cases hall : xs.all (fun x => islD q x && neD x) with
      | false =>
        simp only [hall] at hal
        generalize (xs.map fun x => islD q x && neD x) = z at *
        simp [F_are_lots, runF, M_are_lots, startD, wipeD, l1', l2']
        rw [e1]
        simp [hal, hml, arlD, hall]
      | true =>
        simp only [hall] at hal
        have hx := lots_of hall
        have hxl : (lotsX xs).length = xs.length := by conv => rhs; rw [hx]; simp
        have hel : ∀ l ∈ lotsX xs, l.length ≤ 16777216 := fun l hl' => by
          have hm : tI l ∈ xs := by rw [hx]; exact List.mem_map.mpr ⟨l, hl', rfl⟩
          have := lenDs_mem hl.2 hm
          simpa [tI, lenD] using (show lenD (tI l) = true from this) |> fun h => (by simpa [tI, lenD] using h : l.length ≤ 16777216 ∧ _).1
        have hres : arlD q (.tup xs) = (!(List.range (lotsX xs).length).any (withinAt (lotsX xs)) && covers q (lotsX xs)) := by simp [arlD, l1, l2, hall]
        rw [hres]
        generalize hls : lotsX xs = ls at *
        subst hx
        have hn : ls.length ≤ 1000000 := by omega
        obtain ⟨σ', ⟨x2, hσ⟩, hf⟩ := for_find (it := iRg1 (.tup [.int (ls.length : Int)])) (xs := rngL 0 ls.length) (T := tgN 2) (B := L_are_lots_2) (S := S.ent) (fun k : Nat => D.int (k : Int)) (withinAt ls) (.bl false) (fun σ => ∃ x2, σ = [some (.tup (ls.map tI)), some (.int (q : Int)), x2, none, none, none]) (by simp [big_nat (show ls.length ≤ 1000000000 by omega)]) (List.range ls.length) [some (.tup (ls.map tI)), some (.int (q : Int)), none, none, none, none] (fun i σ hi ⟨x2, e⟩ => by
          subst e
          exact ⟨_, _, rfl, within_body (List.mem_range.mp hi) hn hel, _, rfl⟩) ⟨none, rfl⟩
        rw [← rng_n'] at hf
        have hit : ∀ S, iRg1 (.tup [.int (ls.length : Int)]) S = some (rngL 0 ls.length) := fun S => by simp [big_nat (show ls.length ≤ 1000000000 by omega)]
        have hitq : ∀ S, iRg1 (.tup [.int (q : Int)]) S = some (rngL 0 q) := fun S => by simp [big_nat (show q ≤ 1000000000 by omega)]
        have e4 : startD 6 [D.tup (ls.map tI), D.int (q : Int)] = [some (.tup (ls.map tI)), some (.int (q : Int)), none, none, none, none] := rfl
        have e5 := fun S => lc_g (C := evC (.bl true)) (E := E_are_lots_4) (T := tgN 5) (σ := [some (.tup (ls.map tI)), some (.int (q : Int)), x2, none, none, none]) (S := S) (it := iRg1 (.tup [.int (q : Int)])) (xs := rngL 0 q) (fun k : Nat => D.int (k : Int)) (fun k => D.bl (ls.any fun l => decide ((k : Int) ∈ l))) (hitq S) (List.range q) fun k hk => ⟨_, rfl, by simp, cover_body hn⟩
        rw [← rng_n', show ((List.range q).map fun k : Nat => D.bl (ls.any fun l => decide ((k : Int) ∈ l))) = ((List.range q).map fun k : Nat => ls.any fun l => decide ((k : Int) ∈ l)).map D.bl by simp [Function.comp_def]] at e5
        have hal2 := fun S => all_l (S := S) (p := (·.all id)) (bs := (List.range q).map fun k : Nat => ls.any fun l => decide ((k : Int) ∈ l))
        have hcov : (((List.range q).map fun k : Nat => ls.any fun l => decide ((k : Int) ∈ l)).all id) = covers q ls := by rw [List.all_map]; rfl
        rw [hcov] at hal2
        have hml2 : ((List.range q).map fun k : Nat => ls.any fun l => decide ((k : Int) ∈ l)).length ≤ 16777216 := by simp; omega
        generalize ((List.range q).map fun k : Nat => ls.any fun l => decide ((k : Int) ∈ l)) = z2 at *
        generalize ((ls.map tI).map fun x => islD q x && neD x) = z at *
        rw [List.length_map] at l1' l2'
        simp [F_are_lots, runF, M_are_lots, startD, wipeD, l1', l2']
        rw [e1]
        simp [hal, hml, big_nat (show ls.length ≤ 1000000000 by omega)]
        rw [hf]
        cases hw : (List.range ls.length).any (withinAt ls) with
        | true => simp
        | false =>
          subst hσ
          simp [hitq, wipeD, big_nat (show q ≤ 1000000000 by omega)]
          rw [e5]
          simp [hml2, hal2]
    · have hc : arlD q (.tup xs) = false := by
        simp only [arlD]
        rcases Nat.lt_or_ge xs.length 1 with z | z
        · simp [show ¬ 1 ≤ xs.length by omega]
        · simp [show ¬ xs.length ≤ 12 by omega]
      rw [hc]
      by_cases l1 : (1 : Int) ≤ xs.length
      · have l2 : ¬ (xs.length : Int) ≤ 12 := by omega
        simp [F_are_lots, runF, M_are_lots, startD, l1, l2]
      · simp [F_are_lots, runF, M_are_lots, startD, l1]
  | _ => simp at h <;> simp [F_are_lots, runF, M_are_lots, startD, arlD]
end
end Lw
end

section
set_option maxHeartbeats 4000000
namespace Lw
open PySem PySem.Spec PyProof.Rows L2 Ev
open Classical
/-- a field of the instance that is being made -/
theorem fst_go {L : List Str} {f c : Str} {i j : Nat} {σ : Env1} {x : D} {cs : List Cell} {os : List OC} {fs fs' : List Str} {vs : List D} {v : List (Option D)} {m : Option Nat} (hi : σ[i]? = some (some (.obj os.length))) (hj : σ[j]? = some (some x)) (hc : c ∈ L) (hl : fs.length < 1000) (hf : (if f ∈ fs then fs else fs ++ [f]) = fs') :
    sFst L f (evVar i) (evVar j) σ ⟨cs, os ++ [⟨c, fs, vs⟩], v, m⟩ = .nx σ ⟨cs, os ++ [⟨c, fs', putD f x fs vs⟩], v, m⟩ := by
  unfold sFst
  simp [hi, hj, Res.go, hc, hl, hf]
/-- the instances of the store hold data -/
def OsP (os : List OC) : Prop := ∀ c ∈ os, D.pures c.vs = true
theorem fin_init {cs : List Cell} {os : List OC} {c : Str} {fs : List Str} {vs : List D} {o : OC} {v : List (Option D)} {m : Option Nat} (h1 : OsP os) (h2 : D.pures vs = true) :
    fin ⟨cs, os ++ [o], v, m⟩ .non ⟨cs, os ++ [⟨c, fs, vs⟩], v, none⟩ = .ok .non ⟨cs, os ++ [⟨c, fs, vs⟩], v, m⟩ := by
  have ho : OsOk ⟨cs, os ++ [o], v, m⟩ ⟨cs, os ++ [⟨c, fs, vs⟩], v, none⟩ := by
    refine .inr ?_
    have : (os ++ [⟨c, fs, vs⟩] : List OC).take (os ++ [o]).length = os ++ [⟨c, fs, vs⟩] := by
      rw [List.take_of_length_le (by simp)]
    show (List.all ((os ++ [⟨c, fs, vs⟩] : List OC).take (os ++ [o]).length) _) = true
    rw [this, List.all_eq_true]
    intro x hx
    rcases List.mem_append.mp hx with hx | hx
    · exact los_pu (h1 x hx)
    · have := List.mem_singleton.mp hx
      subst this
      exact los_pu h2
  have ht : (os ++ [⟨c, fs, vs⟩] : List OC).take (os.length + 1) = os ++ [⟨c, fs, vs⟩] := List.take_of_length_le (by simp)
  simp [fin, ho, Store.ret, ht]
theorem finX_init {cs : List Cell} {os : List OC} {o : OC} {c : Str} {fs : List Str} {vs : List D} {v : List (Option D)} {m : Option Nat} (h : D.pures vs = true) : finX ⟨cs, os ++ [o], v, m⟩ c fs vs ⟨cs, os ++ [o], v, none⟩ = .exc c fs vs ⟨cs, os ++ [o], v, m⟩ := by
  have ho : OsOk ⟨cs, os ++ [o], v, m⟩ ⟨cs, os ++ [o], v, none⟩ := .inl (List.take_of_length_le (by simp))
  have ht : (os ++ [o] : List OC).take (os.length + 1) = os ++ [o] := List.take_of_length_le (by simp)
  simp [finX, h, ho, Store.ret]
  exact ht
theorem mkEnd_ok {cs : List Cell} {os : List OC} {c : Str} {fs : List Str} {vs : List D} {v v' : List (Option D)} {m m' : Option Nat} (h : D.pures vs = true) : mkEnd ⟨cs, os, v, m⟩ (.ok .non ⟨cs, os ++ [⟨c, fs, vs⟩], v', m'⟩) = .ok (.ins c fs vs) ⟨cs, os, v, m⟩ := by
  have ho : OsOk ⟨cs, os, v, m⟩ ⟨cs, os ++ [⟨c, fs, vs⟩], v', m'⟩ := .inl (by simp)
  simp [mkEnd, h, ho, Store.ret]
theorem mkEnd_exc {cs : List Cell} {os : List OC} {o : OC} {c : Str} {fs : List Str} {vs : List D} {v v' : List (Option D)} {m m' : Option Nat} (h : D.pures vs = true) : mkEnd ⟨cs, os, v, m⟩ (.exc c fs vs ⟨cs, os ++ [o], v', m'⟩) = .exc c fs vs ⟨cs, os, v, m⟩ := by
  have ho : OsOk ⟨cs, os, v, m⟩ ⟨cs, os ++ [o], v', m'⟩ := .inl (by simp)
  simp [mkEnd, h, ho, Store.ret]
def in25 : D → Bool
  | .int i => decide (2 ≤ i) && decide (i ≤ 5)
  | _ => false
def ansD : D → Bool
  | .tup xs => (decide (1 ≤ xs.length) && decide (xs.length ≤ 9)) && xs.all in25
  | _ => false
def tupLen : D → Nat
  | .tup xs => xs.length
  | _ => 0
abbrev sceneD (a l : D) : D := .ins "Scene" ["answers", "lots"] [a, l]
section
variable {S : Store} {a l : D}
theorem scene_init {cs : List Cell} {os : List OC} {v : List (Option D)} {m : Option Nat} (hos : OsP os) (ha : a.dat = true) (na : depD a < 12) (la : lenD a = true) (ia : (inT a).dat = true) (hl : l.dat = true) (nl : depD l < 12) (ll : lenD l = true) (il : (inT l).dat = true) (ll2 : lenD (inT l) = true) (o : OC) (hobj : o = ⟨"Scene", [], []⟩) :
    F_Scene___init__ [.obj os.length, a, l] ⟨cs, os ++ [o], v, m⟩ = (if ansD (inT a) then (if arlD (tupLen (inT a)) (inT l) then .ok .non ⟨cs, os ++ [⟨"Scene", ["answers", "lots"], [inT a, inT l]⟩], v, m⟩ else .exc "BadScene" ["value", "what"] [l, .str "lots"] ⟨cs, os ++ [o], v, m⟩) else .exc "BadScene" ["value", "what"] [a, .str "answers"] ⟨cs, os ++ [o], v, m⟩) := by
  have e1 := fun S => f_in_tuples (S := S) ha na la
  have e2 := fun S => f_in_tuples (S := S) hl nl ll
  have pa := dat_pure _ ha
  have pl := dat_pure _ hl
  have pia := dat_pure _ ia
  have pil := dat_pure _ il
  have hx1 : finX ⟨cs, os ++ [o], v, m⟩ "BadScene" ["value", "what"] [a, .str "answers"] ⟨cs, os ++ [o], v, none⟩ = _ := finX_init (by simp [pa])
  have hx2 : finX ⟨cs, os ++ [o], v, m⟩ "BadScene" ["value", "what"] [l, .str "lots"] ⟨cs, os ++ [o], v, none⟩ = _ := finX_init (by simp [pl])
  generalize hA : inT a = A at *
  generalize hL : inT l = B at *
  cases A with
  | tup xs =>
    simp at ia
    have hd := dats_iff.mp ia
    by_cases hlen : 1 ≤ xs.length ∧ xs.length ≤ 9
    · obtain ⟨l1, l2⟩ := hlen
      have l1' : (1 : Int) ≤ xs.length := by omega
      have l2' : (xs.length : Int) ≤ 9 := by omega
      have c1 := lc_map (C := evC (.bl true)) (E := E_Scene___init___0) (T := tgN 5) (σ := [some (.obj os.length), some a, some l, some (.tup xs), none, none]) (S := ⟨cs, os ++ [o], v, none⟩) (it := seqOf (.tup xs)) (xs := xs) rfl (fun x => .bl (in25 x)) xs fun x hx => by
        have hxd := hd x hx
        refine ⟨_, rfl, by simp, ?_⟩
        clear hx
        cases x <;> simp at hxd <;> simp [E_Scene___init___0, f_whole, wholeD, in25, hxd]
        rename_i i
        by_cases h0 : 2 ≤ i <;> simp [h0]
      rw [show (xs.map fun x => D.bl (in25 x)) = (xs.map in25).map D.bl by simp [Function.comp_def]] at c1
      have hal := fun S => all_l (S := S) (p := (·.all id)) (bs := xs.map in25)
      rw [show ((xs.map in25).all id) = xs.all in25 by rw [List.all_map]; rfl] at hal
      have hml : (xs.map in25).length ≤ 16777216 := by simp; omega
      generalize (xs.map in25) = z at *
      have hla := fun S => f_are_lots (S := S) (q := xs.length) il ll2 (by omega)
      cases hall : xs.all in25 with
      | false =>
        simp only [hall] at hal
        simp [F_Scene___init__, runF, M_Scene___init__, startD, e1, l1', l2', wipeD]
        rw [c1]
        simp [hml, hal, ansD, hall, hx1]
      | true =>
        simp only [hall] at hal
        have hans : ansD (.tup xs) = true := by simp [ansD, l1, l2, hall]
        rw [if_pos hans]
        cases har : arlD xs.length B with
        | false =>
          simp only [har] at hla
          simp [F_Scene___init__, runF, M_Scene___init__, startD, e1, e2, l1', l2', wipeD]
          rw [c1]
          simp [hml, hal, e2, hla, hx2, tupLen, har]
        | true =>
          simp only [har] at hla
          subst hobj
          have g1 := fst_go (L := ["Scene"]) (f := "answers") (c := "Scene") (i := 0) (j := 3) (σ := [some (.obj os.length), some a, some l, some (.tup xs), some B, none]) (x := .tup xs) (cs := cs) (os := os) (fs := []) (fs' := ["answers"]) (vs := []) (v := v) (m := none) rfl rfl (by simp) (by simp) (by simp)
          have g2 := fst_go (L := ["Scene"]) (f := "lots") (c := "Scene") (i := 0) (j := 4) (σ := [some (.obj os.length), some a, some l, some (.tup xs), some B, none]) (x := B) (cs := cs) (os := os) (fs := ["answers"]) (fs' := ["answers", "lots"]) (vs := [.tup xs]) (v := v) (m := none) rfl rfl (by simp) (by simp) (by rw [if_neg (by decide)]; rfl)
          have hp1 : putD "answers" (.tup xs) [] [] = [.tup xs] := rfl
          have hp2 : putD "lots" B ["answers"] [.tup xs] = [.tup xs, B] := by kernel_rfl
          rw [hp1] at g1
          rw [hp2] at g2
          have hfi := fin_init (cs := cs) (os := os) (c := "Scene") (fs := ["answers", "lots"]) (vs := [.tup xs, B]) (o := ⟨"Scene", [], []⟩) (v := v) (m := m) hos (by simp at pia; simp [pia, pil])
          simp [F_Scene___init__, runF, M_Scene___init__, startD, e1, e2, l1', l2', wipeD]
          rw [c1]
          simp [hml, hal, e2, hla, g1, g2, hfi, tupLen, har]
    · have hc : ansD (.tup xs) = false := by
        simp only [ansD]
        rcases Nat.lt_or_ge xs.length 1 with z | z
        · simp [show ¬ 1 ≤ xs.length by omega]
        · simp [show ¬ xs.length ≤ 9 by omega]
      rw [hc]
      by_cases l1 : (1 : Int) ≤ xs.length
      · have l2 : ¬ (xs.length : Int) ≤ 9 := by omega
        simp [F_Scene___init__, runF, M_Scene___init__, startD, e1, l1, l2, hx1]
      · simp [F_Scene___init__, runF, M_Scene___init__, startD, e1, l1, hx1]
  | _ => simp at ia <;> simp [F_Scene___init__, runF, M_Scene___init__, startD, e1, ansD, hx1]
/-- what a value must be for in_tuples -/
structure InD (d : D) : Prop where
  dat : d.dat = true
  dep : depD d < 12
  len : lenD d = true
  idat : (inT d).dat = true
  ilen : lenD (inT d) = true
theorem mk_scene {cs : List Cell} {os : List OC} {v : List (Option D)} {m : Option Nat} (hos : OsP os) (ha : InD a) (hl : InD l) :
    mkI "Scene" 3 F_Scene___init__ [a, l] ⟨cs, os, v, m⟩ = (if ansD (inT a) then (if arlD (tupLen (inT a)) (inT l) then .ok (sceneD (inT a) (inT l)) ⟨cs, os, v, m⟩ else .exc "BadScene" ["value", "what"] [l, .str "lots"] ⟨cs, os, v, m⟩) else .exc "BadScene" ["value", "what"] [a, .str "answers"] ⟨cs, os, v, m⟩) := by
  have e := scene_init (cs := cs) (v := v) (m := none) hos ha.dat ha.dep ha.len ha.idat hl.dat hl.dep hl.len hl.idat hl.ilen ⟨"Scene", [], []⟩ rfl
  have p1 := dat_pure _ ha.dat
  have p2 := dat_pure _ hl.dat
  have p3 := dat_pure _ ha.idat
  have p4 := dat_pure _ hl.idat
  have e0 : mkI "Scene" 3 F_Scene___init__ [a, l] ⟨cs, os, v, m⟩ = mkEnd ⟨cs, os, v, m⟩ (F_Scene___init__ [.obj os.length, a, l] ⟨cs, os ++ [⟨"Scene", [], []⟩], v, none⟩) := rfl
  rw [e0, e]
  split
  · split
    · exact mkEnd_ok (by simp [p3, p4])
    · exact mkEnd_exc (by simp [p2])
  · exact mkEnd_exc (by simp [p1])
end
end Lw
end

section
set_option maxHeartbeats 4000000
namespace Lw
open PySem PySem.Spec PyProof.Rows L2 Ev
open Classical
theorem rows_cnt' : ∀ (ms : List Int) (out : List (List Int)), (ms.foldl (fun out m => out.flatMap (extL m)) out).length = out.length * prodN ms
  | [], out => by simp [prodN]
  | m :: ms, out => by
    rw [List.foldl_cons, rows_cnt' ms, flat_len]
    show _ = out.length * (m.toNat * prodN ms)
    rw [Nat.mul_assoc]
theorem rowsL_cnt' (ms : List Int) : (rowsL ms).length = prodN ms := by
  unfold rowsL
  rw [rows_cnt' ms]; simp
theorem prodN_le : ∀ {ms : List Int}, (∀ m ∈ ms, m ≤ 5) → prodN ms ≤ 5 ^ ms.length
  | [], _ => Nat.le_refl _
  | m :: ms, h => by
    have h1 := h m (List.mem_cons_self ..)
    have h2 := prodN_le fun m' h' => h m' (List.mem_cons_of_mem _ h')
    show m.toNat * prodN ms ≤ 5 ^ (ms.length + 1)
    rw [Nat.pow_succ, Nat.mul_comm (5 ^ ms.length)]
    exact Nat.mul_le_mul (by omega) h2
section
variable {S : Store}
@[simp] theorem ins_i {c fs vs} : insOf (.ins c fs vs) S = some ⟨c, fs, vs⟩ := Eq.trans rfl rfl
@[simp] theorem tyN_ins {c fs vs} : tyN (.ins c fs vs) S = none := Eq.trans rfl rfl
@[simp] theorem frz_ins {n c fs vs} : frz S n (.ins c fs vs) = .ins c fs (frzs S n vs) := by simp [frz]
@[simp] theorem pu_ins {c fs vs} : D.pure (.ins c fs vs) = D.pures vs := by simp [D.pure]
def tL (ls : List (List Int)) : D := .tup (ls.map tI)
@[simp] theorem pu_tL {ls} : (tL ls).pure = true := by
  simp only [tL, pu_tup]
  exact pures_iff.mpr fun x hx => by
    obtain ⟨r, _, rfl⟩ := List.mem_map.mp hx
    simp
@[simp] theorem seq_tL {ls} : seqOf (tL ls) S = some (ls.map tI) := Eq.trans rfl rfl
@[simp] theorem len_tL {ls} : dLen (tL ls) S = .ok (.int ls.length) S := by simp [tL]
abbrev scn (as : List Int) (ls : List (List Int)) : D := sceneD (tI as) (tL ls)
@[simp] theorem fld_ans {a l : D} : dFld ["Scene"] "answers" (sceneD a l) S = .ok a S := by kernel_rfl
@[simp] theorem fld_lots {a l : D} : dFld ["Scene"] "lots" (sceneD a l) S = .ok l S := by kernel_rfl
@[simp] theorem isi_scn {a l : D} : dIsiO "Scene" ["Scene"] (sceneD a l) S = .ok (.bl true) S := by
  simp [dIsiO]
theorem isi_dat {d : D} (h : d.dat = true) : dIsiO "Scene" ["Scene"] d S = .ok (.bl false) S := by
  cases d <;> simp at h <;> simp [dIsiO]
theorem eg_rows (ls : List (List Int)) : EG 3 (tL ls) := (EG.tup (k := 2) fun x hx => by
  obtain ⟨r, _, rfl⟩ := List.mem_map.mp hx
  exact EG.tup (eg_ints r))
theorem eqv_rows : ∀ ls ms : List (List Int), PyData.eqvAll (pys (ls.map tI)) (pys (ms.map tI)) = decide (ls = ms)
  | [], [] => by simp [pys, PyData.eqvAll]
  | [], _ :: _ => by simp [pys, PyData.eqvAll]
  | _ :: _, [] => by simp [pys, PyData.eqvAll]
  | i :: ns, j :: ms => by
    have e : PyData.eqv (py (tI i)) (py (tI j)) = decide (i = j) := by
      simp only [tI, py, PyData.eqv, eqv_ints]
    simp only [List.map_cons, pys, PyData.eqvAll, e, eqv_rows ns ms]
    by_cases h : i = j <;> by_cases h2 : ns = ms <;> simp [h, h2]
@[simp] theorem eq_tL {neg : Bool} {ls ms : List (List Int)} : dEq neg (tL ls) (tL ms) S = .ok (.bl (if neg then !decide (ls = ms) else decide (ls = ms))) S := by
  rw [dEq_dat (eg_rows ls) (eg_rows ms) (by decide) (fun _ => nofun) (fun _ => nofun) (fun _ => nofun)]
  simp only [tL, py, PyData.eqv, eqv_rows]
@[simp] theorem eq_tI {neg : Bool} {ns ms : List Int} : dEq neg (tI ns) (tI ms) S = .ok (.bl (if neg then !decide (ns = ms) else decide (ns = ms))) S := eq_tints
theorem f_scene_eq {as bs : List Int} {ls ms : List (List Int)} : F_Scene___eq__ [scn as ls, scn bs ms] S = .ok (.bl (decide (as = bs) && decide (ls = ms))) S := by
  by_cases h : as = bs
  · simp [F_Scene___eq__, runF, M_Scene___eq__, startD, h]
  · simp [F_Scene___eq__, runF, M_Scene___eq__, startD, h]
theorem f_scene_eqD {as : List Int} {ls : List (List Int)} {d : D} (h : d.dat = true) : F_Scene___eq__ [scn as ls, d] S = .ok (.bl false) S := by
  have e := fun S => isi_dat (S := S) h
  simp [F_Scene___eq__, runF, M_Scene___eq__, startD, e]
theorem eqG_scn {as bs : List Int} {ls ms : List (List Int)} : dEqG false ["Scene"] (eqT1 "Scene" F_Scene___eq__) (scn as ls) (scn bs ms) S = .ok (.bl (decide (as = bs) && decide (ls = ms))) S := by
  simp [dEqG, eqT1, othOk, blOnly, f_scene_eq]
theorem eqG_dat {as : List Int} {ls : List (List Int)} {d : D} (h : d.dat = true) : dEqG false ["Scene"] (eqT1 "Scene" F_Scene___eq__) (scn as ls) d S = .ok (.bl false) S := by
  have : othOk ["Scene"] d S = true := by
    cases d <;> simp at h <;> simp [othOk]
  simp [dEqG, eqT1, this, blOnly, f_scene_eqD h]
theorem f_scene_ne {as bs : List Int} {ls ms : List (List Int)} : F_Scene___ne__ [scn as ls, scn bs ms] S = .ok (.bl (!(decide (as = bs) && decide (ls = ms)))) S := by
  have e := fun S => eqG_scn (S := S) (as := as) (bs := bs) (ls := ls) (ms := ms)
  simp [F_Scene___ne__, runF, M_Scene___ne__, startD, e]
theorem neG_scn {as bs : List Int} {ls ms : List (List Int)} : dEqG true ["Scene"] (eqT1 "Scene" F_Scene___ne__) (scn as ls) (scn bs ms) S = .ok (.bl (!(decide (as = bs) && decide (ls = ms)))) S := by
  simp [dEqG, eqT1, othOk, blOnly, f_scene_ne]
theorem need_scn {a l : D} (hp : a.pure = true) (hq : l.pure = true) : F_need_scene [sceneD a l] S = .ok .non S := by
  simp [F_need_scene, runF, M_need_scene, startD]
theorem need_bad {d : D} (h : d.dat = true) : F_need_scene [d] S = .exc "Unlike" ["what"] [.str "scene"] S := by
  have e := fun S => isi_dat (S := S) h
  simp [F_need_scene, runF, M_need_scene, startD, e]
/-- the product of numbers -/
theorem prod_go {it : Store → Option (List D)} {xs : List D} {d : D} (hit : it S = some xs) : ∀ (as : List Int) (p : Int) (x2 : Option D), (∀ a ∈ as, 0 ≤ a ∧ a ≤ 5) → 0 ≤ p → p * 5 ^ as.length < 1000000000 → ∃ x2', forGo it xs (tgN 2) L_product_of_0 (as.map D.int) [some d, some (.int p), x2] S = .nx [some d, some (.int (as.foldl (· * ·) p)), x2'] S
  | [], p, x2, _, _, _ => ⟨x2, by simp [for_nil hit]⟩
  | a :: as, p, x2, ha, hp, hb => by
    obtain ⟨a0, a5⟩ := ha a (List.mem_cons_self ..)
    have h5 : (0 : Int) < 5 ^ as.length := Int.pow_pos (by decide)
    have hpa : p * a ≤ p * 5 := Int.mul_le_mul_of_nonneg_left a5 hp
    have hb' : p * 5 * 5 ^ as.length < 1000000000 := by
      rw [List.length_cons, Int.pow_succ] at hb
      rw [Int.mul_assoc, Int.mul_comm 5]; exact hb
    have hb2 : p * a * 5 ^ as.length < 1000000000 := Int.lt_of_le_of_lt (Int.mul_le_mul_of_nonneg_right hpa (by omega)) hb'
    have hp5 : p * 5 < 1000000000 := by
      have := Int.mul_le_mul_of_nonneg_left (show (1 : Int) ≤ 5 ^ as.length by omega) (show 0 ≤ p * 5 by omega)
      omega
    obtain ⟨x2', q⟩ := prod_go hit as (p * a) (some (.int a)) (fun b h => ha b (List.mem_cons_of_mem _ h)) (Int.mul_nonneg hp a0) hb2
    have m := mul_small (own := false) (S := S) (i := p) (j := a) (by omega) (by omega)
    refine ⟨x2', ?_⟩
    rw [List.map_cons, for_nx hit rfl (σ3 := [some d, some (.int (p * a)), some (.int a)]) (S3 := S) (by simp [L_product_of_0, m, -mul_i]), q]
    rfl
def prodI (as : List Int) : Int := as.foldl (· * ·) 1
theorem f_product {as : List Int} (ha : ∀ a ∈ as, 0 ≤ a ∧ a ≤ 5) (hl : as.length ≤ 9) : F_product_of [tI as] S = .ok (.int (prodI as)) S := by
  have hb : (1 : Int) * 5 ^ as.length < 1000000000 := by
    have h1 : (5 : Nat) ^ as.length ≤ 5 ^ 9 := Nat.pow_le_pow_right (by decide) hl
    have h2 : ((5 ^ as.length : Nat) : Int) = (5 : Int) ^ as.length := by simp
    have h3 : (5 : Nat) ^ 9 = 1953125 := by decide
    rw [← h2]
    omega
  obtain ⟨x2, q⟩ := prod_go (S := S.ent) (it := seqOf (tI as)) (xs := as.map D.int) rfl (d := tI as) as 1 none ha (by decide) hb
  simp [F_product_of, runF, M_product_of, startD]
  rw [q]
  simp [prodI]
/-- a scene that is one -/
structure ScOk (as : List Int) (ls : List (List Int)) : Prop where
  a1 : 1 ≤ as.length
  a9 : as.length ≤ 9
  a5 : ∀ a ∈ as, 2 ≤ a ∧ a ≤ 5
  l1 : 1 ≤ ls.length
  l12 : ls.length ≤ 12
  lr : ∀ l ∈ ls, l ≠ [] ∧ asc l = true ∧ (∀ i ∈ l, 0 ≤ i ∧ i < (as.length : Int))
  wi : (List.range ls.length).any (withinAt ls) = false
  co : covers as.length ls = true
theorem asc_len : ∀ {l : List Int} {q : Nat}, asc l = true → (∀ i ∈ l, 0 ≤ i ∧ i < (q : Int)) → l.length ≤ q
  | [], q, _, _ => Nat.zero_le _
  | [a], q, _, h => by
    have := h a (by simp)
    simp; omega
  | a :: b :: r, q, h, hq => by
    -- shift down
    have hlow : ∀ (c : Int) (l : List Int), asc (c :: l) = true → ∀ i ∈ l, c < i := by
      intro c l
      induction l generalizing c with
      | nil => simp
      | cons d l ih =>
        intro h i hi
        simp only [asc, Bool.and_eq_true, decide_eq_true_eq] at h
        rcases List.mem_cons.mp hi with rfl | hi
        · exact h.1
        · have := ih d h.2 i hi
          omega
    have hsh : ∀ l : List Int, asc l = true → asc (l.map (· - 1)) = true := by
      intro l
      induction l with
      | nil => simp [asc]
      | cons c l ih =>
        cases l with
        | nil => simp [asc]
        | cons d l =>
          intro h
          simp only [asc, Bool.and_eq_true, decide_eq_true_eq] at h
          simp only [List.map_cons, asc, Bool.and_eq_true, decide_eq_true_eq]
          exact ⟨by omega, ih h.2⟩
    have h2 : asc (b :: r) = true := by simp only [asc, Bool.and_eq_true] at h; exact h.2
    have ha := hq a (by simp)
    have hq1 : 1 ≤ q := by omega
    have := asc_len (q := q - 1) (hsh (b :: r) h2) (fun i hi => by
      obtain ⟨j, hj, rfl⟩ := List.mem_map.mp hi
      have h3 := hlow a (b :: r) h j hj
      have h4 := hq j (List.mem_cons_of_mem _ hj)
      have h5 : ((q - 1 : Nat) : Int) = (q : Int) - 1 := by omega
      omega)
    simp at this ⊢
    omega
termination_by l => l.length
theorem ScOk.ll {as ls} (h : ScOk as ls) : ∀ l ∈ ls, l.length ≤ 9 := fun l hl => Nat.le_trans (asc_len (h.lr l hl).2.1 (h.lr l hl).2.2) h.a9
theorem ScOk.ans {as ls} (h : ScOk as ls) : ansD (tI as) = true := by
  have e : (as.map D.int).all in25 = true := by
    rw [List.all_eq_true]
    intro x hx
    obtain ⟨i, hi, rfl⟩ := List.mem_map.mp hx
    have := h.a5 i hi
    simp [in25, this]
  simp only [tI, ansD]
  simp [h.a1, h.a9]
  intro i hi
  have := h.a5 i hi
  simp [in25, this]
theorem ScOk.arl {as ls} (h : ScOk as ls) : arlD as.length (tL ls) = true := by
  have e : (ls.map tI).all (fun x => islD as.length x && neD x) = true := by
    rw [List.all_eq_true]
    intro x hx
    obtain ⟨l, hl, rfl⟩ := List.mem_map.mp hx
    obtain ⟨h1, h2, h3⟩ := h.lr l hl
    have e1 : (l.map D.int).all (inQ as.length) = true := by
      rw [List.all_eq_true]
      intro y hy
      obtain ⟨i, hi, rfl⟩ := List.mem_map.mp hy
      have := h3 i hi
      simp [inQ, this]
    have e2 : neD (tI l) = true := by
      cases l with
      | nil => exact absurd rfl h1
      | cons a l => rfl
    simp only [tI, islD, e1, intsX_map, h2, Bool.and_self, Bool.true_and]
    exact e2
  simp only [tL, arlD, lotsX_map, e, h.wi, h.co, List.length_map]
  simp [h.l1, h.l12]
end
end Lw
end

section
set_option maxHeartbeats 4000000
namespace Lw
open PySem PySem.Spec PyProof.Rows L2 Ev
open Classical
theorem prodI_N {as : List Int} (h : ∀ a ∈ as, 0 ≤ a) : ∀ p : Int, 0 ≤ p → as.foldl (· * ·) p = p * (prodN as : Nat) := by
  induction as with
  | nil => intro p hp; simp [prodN]
  | cons a as ih =>
    intro p hp
    have ha := h a (List.mem_cons_self ..)
    rw [List.foldl_cons, ih (fun b hb => h b (List.mem_cons_of_mem _ hb)) _ (Int.mul_nonneg hp ha)]
    show p * a * (prodN as : Nat) = p * ((a.toNat * prodN as : Nat) : Int)
    have : ((a.toNat : Nat) : Int) = a := by omega
    rw [Int.natCast_mul, this, Int.mul_assoc]
theorem prod_eq {as : List Int} (h : ∀ a ∈ as, 0 ≤ a) : prodI as = (prodN as : Nat) := by
  unfold prodI
  rw [prodI_N h 1 (by decide)]; simp
theorem zip_map2' {α β : Type} (f : α → D) (g : β → D) (s : List α) (t : List β) : zipD (s.map f) (t.map g) = (List.zip s t).map fun ab => D.tup [f ab.1, g ab.2] := by
  unfold zipD List.zip
  induction s generalizing t with
  | nil => simp
  | cons a s ih => cases t with
    | nil => simp
    | cons b t => simp [ih]
section
variable {S : Store} {as : List Int} {ls : List (List Int)} (ok : ScOk as ls)
include ok
theorem a05 : ∀ a ∈ as, 0 ≤ a ∧ a ≤ 5 := fun a h => by have := ok.a5 a h; omega
theorem need_s : F_need_scene [scn as ls] S = .ok .non S := need_scn (by simp) (by simp)
theorem f_many : F_many_plans [scn as ls] S = .ok (.int (prodI as)) S := by
  have e := fun S => f_product (S := S) (a05 ok) ok.a9
  have e2 := fun S => need_s (S := S) ok
  simp [F_many_plans, runF, M_many_plans, startD, e, e2]
theorem f_need_few : F_need_few [scn as ls] S = (if prodI as ≤ 512 then .ok .non S else .exc "TooMany" ["limit", "many", "what"] [.int 512, .int (prodI as), .str "plans"] S) := by
  have e := fun S => f_product (S := S) (a05 ok) ok.a9
  by_cases h : prodI as ≤ 512
  · have h' : ¬ 512 < prodI as := by omega
    simp [F_need_few, runF, M_need_few, startD, e, dGt, h, h']
  · have h' : 512 < prodI as := by omega
    simp [F_need_few, runF, M_need_few, startD, e, dGt, h, h']
theorem f_plans : F_plans [scn as ls] S = (if prodI as ≤ 512 then .ok (.tup ((rowsL as).map tI)) S else .exc "TooMany" ["limit", "many", "what"] [.int 512, .int (prodI as), .str "plans"] S) := by
  have e := fun S => f_need_few (S := S) ok
  have e2 := fun S => need_s (S := S) ok
  by_cases h : prodI as ≤ 512
  · have hN : prodN as ≤ 512 := by
      have := prod_eq (as := as) (fun a ha => (a05 ok a ha).1)
      omega
    have er := fun S => f_all_rows (S := S) (d := tI as) (ms := as) (fun _ => rfl) (fun m hm => by have := ok.a5 m hm; omega) (by have := ok.a9; omega) (by omega) (fun S n => frz_pu (by simp))
    have hc := rowsL_cnt' as
    have hpu : D.pures ((rowsL as).map tI) = true := pures_iff.mpr fun x hx => by
      obtain ⟨r, _, rfl⟩ := List.mem_map.mp hx
      simp
    have hl : (rowsL as).length ≤ 16777216 := by omega
    simp only [h, if_true] at e
    simp [F_plans, runF, M_plans, startD, e, e2, er, hl, h, hpu]
  · simp only [h, if_false] at e
    simp [F_plans, runF, M_plans, startD, e, e2, h]
theorem f_need_number {d : D} (hd : d.dat = true) : F_need_number [scn as ls, d] S = (if btw d 0 ((ls.length : Int) - 1) then .ok .non S else .exc "BadNumber" ["number", "what"] [d, .str "number"] S) := by
  have e := fun S => f_need_between (S := S) (d := d) (x := "number") (lo := 0) (hi := (ls.length : Int) - 1) hd
  have p := dat_pure _ hd
  cases h : btw d 0 ((ls.length : Int) - 1) with
  | true => simp [F_need_number, runF, M_need_number, startD, e, h]
  | false => simp [F_need_number, runF, M_need_number, startD, e, h, p]
/-- the answers of a lot's questions -/
abbrev lotA (as : List Int) (l : List Int) : List Int := l.map fun i => as.getD i.toNat 0
omit ok in
theorem ix_as {as : List Int} {i : Int} (h0 : 0 ≤ i) (h1 : i < as.length) : dIx (tI as) (.int i) S = .ok (.int (as.getD i.toNat 0)) S := by
  have e := at_getD' (p := as) (k := i.toNat) (by omega)
  have : ((i.toNat : Nat) : Int) = i := by omega
  rw [this] at e
  simp only [ix_i, seq_tI, e]
theorem lot_in {k : Nat} (hk : k < ls.length) : ls.getD k [] ∈ ls := by simp [List.getD_eq_getElem?_getD, List.getElem?_eq_getElem hk]
theorem lot_prod {l : List Int} (hl : l ∈ ls) : (∀ m ∈ lotA as l, 1 ≤ m ∧ m ≤ 1000) ∧ (lotA as l).length ≤ 9 ∧ prodN (lotA as l) ≤ 16777216 ∧ (∀ m ∈ lotA as l, 2 ≤ m ∧ m ≤ 5) := by
  have h1 : ∀ m ∈ lotA as l, 2 ≤ m ∧ m ≤ 5 := fun m hm => by
    obtain ⟨i, hi, rfl⟩ := List.mem_map.mp hm
    have := (ok.lr l hl).2.2 i hi
    have hlt : i.toNat < as.length := by omega
    exact ok.a5 _ (by simp [List.getD_eq_getElem?_getD, List.getElem?_eq_getElem hlt])
  have h2 : (lotA as l).length ≤ 9 := by rw [List.length_map]; exact ok.ll l hl
  refine ⟨fun m hm => by have := h1 m hm; omega, h2, ?_, h1⟩
  have h3 : prodN (lotA as l) ≤ 5 ^ (lotA as l).length := prodN_le (fun m hm => by have := h1 m hm; omega)
  have h4 : (5 : Nat) ^ (lotA as l).length ≤ 5 ^ 9 := Nat.pow_le_pow_right (by decide) h2
  have h5 : (5 : Nat) ^ 9 = 1953125 := by decide
  omega
theorem f_lot_rows {k : Nat} (hk : k < ls.length) : F_lot_rows [scn as ls, .int (k : Int)] S = .ok (.lst ((rowsL (lotA as (ls.getD k []))).map tI)) S := by
  have hm := lot_in ok hk
  obtain ⟨h1, h2, h3, _⟩ := lot_prod ok hm
  have hr := (ok.lr _ hm).2.2
  have h9 := ok.ll _ hm
  have hix := fun S => ix_lot (S := S) hk
  generalize ls.getD k [] = l at *
  have e := lc_g (C := evC (.bl true)) (E := E_lot_rows_0) (T := tgN 2) (σ := [some (scn as ls), some (.int (k : Int)), none]) (S := S.ent) (it := seqOf (tI l)) (xs := l.map D.int) (fun i => D.int i) (fun i => D.int (as.getD i.toNat 0)) rfl l fun i hi => by
    have := hr i hi
    have h := ix_as (S := S.ent) (as := as) this.1 this.2
    exact ⟨_, rfl, by simp, by simp [E_lot_rows_0, h, -ix_i]⟩
  rw [show l.map (fun i => D.int i) = l.map D.int from rfl, show l.map (fun i => D.int (as.getD i.toNat 0)) = (lotA as l).map D.int by simp [Function.comp_def]] at e
  have er := fun S => f_all_rows (S := S) (d := lI (lotA as l)) (ms := lotA as l) (fun _ => rfl) h1 (by omega) h3 (fun S n => frz_pu (by simp))
  have hll : (lotA as l).length ≤ 16777216 := by omega
  have hpu : D.pures ((rowsL (lotA as l)).map tI) = true := pures_iff.mpr fun x hx => by
    obtain ⟨r, _, rfl⟩ := List.mem_map.mp hx
    simp
  have e4 : startD 3 [scn as ls, D.int (k : Int)] = [some (scn as ls), some (.int (k : Int)), none] := rfl
  have hli : D.lst ((lotA as l).map D.int) = lI (lotA as l) := rfl
  have e5 : M_lot_rows (startD 3 [scn as ls, D.int (k : Int)]) S.ent = .rt (.lst ((rowsL (lotA as l)).map tI)) S.ent := by
    rw [e4]
    unfold M_lot_rows
    simp only [q_seq, q_set, q_if, q_expr, q_ret, q_nil, p_A, p_B, kB_e, p_U, p_cons, p_nil, kCons_e, kTup_e, bind_ok, bindA_ok, p_var, p_c, p_lc, kLc_e, p_one, p_two, p_repr1, p_callF, List.getElem?_cons_succ, List.getElem?_cons_zero, List.append_nil, List.length_cons, List.length_nil, if_true, go_ok, kSet_e, seq_nx, kSIf_t, kSIf_f, kRet_e, kExpr_e, p_orT, kOrT_t, kOrT_f, p_andT, kAndT_t, kAndT_f, seq_l, seq_t, wipeD, List.set_cons_succ, List.set_cons_zero, List.foldl_cons, List.foldl_nil, mkL_f, mkT_e, List.length_map, tup_l, tup_t, len_t, len_l, add_i, sub_i, ne_ss, ne_i, eq_i, fld_lots, tL, hix]
    simp only [q_seq, q_set, q_if, q_expr, q_ret, q_nil, p_A, p_B, kB_e, p_U, p_cons, p_nil, kCons_e, kTup_e, bind_ok, bindA_ok, p_var, p_c, p_lc, kLc_e, p_one, p_two, p_repr1, p_callF, List.getElem?_cons_succ, List.getElem?_cons_zero, List.append_nil, List.length_cons, List.length_nil, if_true, go_ok, kSet_e, seq_nx, kSIf_t, kSIf_f, kRet_e, kExpr_e, p_orT, kOrT_t, kOrT_f, p_andT, kAndT_t, kAndT_f, seq_l, seq_t, wipeD, List.set_cons_succ, List.set_cons_zero, List.foldl_cons, List.foldl_nil, mkL_f, mkT_e, List.length_map, tup_l, tup_t, len_t, len_l, add_i, sub_i, ne_ss, ne_i, eq_i, seq_tI, e, show l.length ≤ 16777216 by omega, hli, er]
  simp only [F_lot_rows, runF, e5, end_rt]
  exact fin_pu (by simpa using hpu)
theorem f_rows_of {d : D} (hd : d.dat = true) : F_rows_of [scn as ls, d] S = (match d with
    | .int k => if btw d 0 ((ls.length : Int) - 1) then .ok (.tup ((rowsL (lotA as (ls.getD k.toNat []))).map tI)) S else .exc "BadNumber" ["number", "what"] [d, .str "number"] S
    | _ => .exc "BadNumber" ["number", "what"] [d, .str "number"] S) := by
  have e := fun S => f_need_number (S := S) ok hd
  have e2 := fun S => need_s (S := S) ok
  have p := dat_pure _ hd
  cases h : btw d 0 ((ls.length : Int) - 1) with
  | true =>
    cases d <;> simp [btw] at h
    rename_i k
    have hk : k.toNat < ls.length := by omega
    have hkk : ((k.toNat : Nat) : Int) = k := by omega
    have er := fun S => f_lot_rows (S := S) ok hk
    rw [hkk] at er
    obtain ⟨h1, h2, h3, _⟩ := lot_prod ok (lot_in ok hk)
    have hc := rowsL_cnt' (lotA as (ls.getD k.toNat []))
    have hl : (rowsL (lotA as (ls.getD k.toNat []))).length ≤ 16777216 := by omega
    have hpu : D.pures ((rowsL (lotA as (ls.getD k.toNat []))).map tI) = true := pures_iff.mpr fun x hx => by
      obtain ⟨r, _, rfl⟩ := List.mem_map.mp hx
      simp
    have hb : btw (.int k) 0 ((ls.length : Int) - 1) = true := by simp [btw]; omega
    dsimp only
    generalize rowsL (lotA as (ls.getD k.toNat [])) = R at *
    simp [F_rows_of, runF, M_rows_of, startD, e, e2, hb, er, hl, hpu]
  | false =>
    have e' : F_rows_of [scn as ls, d] S = .exc "BadNumber" ["number", "what"] [d, .str "number"] S := by
      simp [F_rows_of, runF, M_rows_of, startD, e, e2, h, p]
    rw [e']
    cases d <;> simp [h]
/-- a row of answers, each below its number -/
def rowD (as : List Int) : D → Bool
  | .tup xs => decide (xs.length = as.length) && ((List.zip xs as).map fun xa => match xa.1 with
    | .int i => decide (0 ≤ i) && decide (i < xa.2)
    | _ => false).all id
  | _ => false
omit ok in
theorem f_is_row_of {as : List Int} {d : D} (hd : d.dat = true) (hl : as.length ≤ 1000000) : F_is_row_of [d, tI as] S = .ok (.bl (rowD as d)) S := by
  cases d with
  | tup xs =>
    simp at hd
    have hx := dats_iff.mp hd
    have ht : ∀ S, F_is_tuple_of [.tup xs, .int (as.length : Int)] S = .ok (.bl (decide (xs.length = as.length))) S := fun S => by
      have hpp := dats_pures hd
      have : decide ((xs.length : Int) = (as.length : Int)) = decide (xs.length = as.length) := decide_eq_decide.mpr (by omega)
      simp [F_is_tuple_of, runF, M_is_tuple_of, startD]
      omega
    by_cases hlen : xs.length = as.length
    · have e := lc_g (C := evC (.bl true)) (E := E_is_row_of_0) (T := tgTup 2 (tgCons (tgN 2) (tgCons (tgN 3) tgNil))) (σ := [some (.tup xs), some (tI as), none, none]) (S := S.ent) (it := iZ2 (.tup [.tup xs, tI as])) (xs := zipD (xs.map id) (as.map D.int)) (fun ab : D × Int => D.tup [id ab.1, .int ab.2]) (fun xa => D.bl (match xa.1 with
        | .int i => decide (0 ≤ i) && decide (i < xa.2)
        | _ => false)) (by simp) (List.zip xs as) fun ab hab => by
        have hda := hx _ (List.of_mem_zip hab).1
        obtain ⟨y, b⟩ := ab
        refine ⟨[some (.tup xs), some (tI as), some y, some (.int b)], by simp, by simp, ?_⟩
        clear hab
        simp only at hda ⊢
        cases y <;> simp at hda <;> simp [E_is_row_of_0, f_whole, wholeD, hda]
        rename_i i
        by_cases h0 : 0 ≤ i <;> simp [h0]
      rw [← zip_map2' id D.int, List.map_id] at e
      rw [show ((List.zip xs as).map fun xa : D × Int => D.bl (match xa.1 with
        | .int i => decide (0 ≤ i) && decide (i < xa.2)
        | _ => false)) = ((List.zip xs as).map fun xa : D × Int => match xa.1 with
        | .int i => decide (0 ≤ i) && decide (i < xa.2)
        | _ => false).map D.bl by simp [Function.comp_def]] at e
      have hal := fun S => all_l (S := S) (p := (·.all id)) (bs := (List.zip xs as).map fun xa : D × Int => match xa.1 with
        | .int i => decide (0 ≤ i) && decide (i < xa.2)
        | _ => false)
      have hml : ((List.zip xs as).map fun xa : D × Int => match xa.1 with
        | .int i => decide (0 ≤ i) && decide (i < xa.2)
        | _ => false).length ≤ 16777216 := by simp; omega
      have hrd : rowD as (.tup xs) = ((List.zip xs as).map fun xa : D × Int => match xa.1 with
        | .int i => decide (0 ≤ i) && decide (i < xa.2)
        | _ => false).all id := by simp only [rowD]; simp [hlen]
      rw [hrd]
      generalize ((List.zip xs as).map fun xa : D × Int => match xa.1 with
        | .int i => decide (0 ≤ i) && decide (i < xa.2)
        | _ => false) = z at *
      have hz : ∀ S, iZ2 (.tup [.tup xs, tI as]) S = some (zipD xs (as.map D.int)) := fun S => rfl
      have e4 : startD 4 [D.tup xs, tI as] = [some (.tup xs), some (tI as), none, none] := rfl
      simp only [decide_eq_true hlen] at ht
      have e5 : M_is_row_of (startD 4 [D.tup xs, tI as]) S.ent = .rt (.bl (z.all id)) S.ent := by
        rw [e4]
        unfold M_is_row_of
        simp only [q_seq, q_set, q_if, q_expr, q_ret, q_nil, p_A, p_B, kB_e, p_U, p_cons, p_nil, kCons_e, kTup_e, bind_ok, bindA_ok, p_var, p_c, p_lc, kLc_e, p_one, p_two, p_repr1, p_callF, List.getElem?_cons_succ, List.getElem?_cons_zero, List.append_nil, List.length_cons, List.length_nil, if_true, go_ok, kSet_e, seq_nx, kSIf_t, kSIf_f, kRet_e, kExpr_e, p_orT, kOrT_t, kOrT_f, p_andT, kAndT_t, kAndT_f, seq_l, seq_t, wipeD, List.set_cons_succ, List.set_cons_zero, List.foldl_cons, List.foldl_nil, mkL_f, mkT_e, List.length_map, tup_l, tup_t, len_t, len_l, add_i, sub_i, ne_ss, ne_i, eq_i, len_tI, ht, p_tru, tru_b, not_b, Bool.not_true, hz, e, hml, hal]
      simp only [F_is_row_of, runF, e5, end_rt]
      exact fin_pu (by simp)
    · simp only [decide_eq_false hlen] at ht
      have hrd : rowD as (.tup xs) = false := by simp only [rowD]; simp [hlen]
      rw [hrd]
      simp [F_is_row_of, runF, M_is_row_of, startD, ht]
  | _ => simp at hd <;> simp [F_is_row_of, runF, M_is_row_of, startD, F_is_tuple_of, M_is_tuple_of, rowD, hd, dats_pures]
theorem f_plan_from {d : D} (h : InD d) : F_plan_from [scn as ls, d] S = (if rowD as (inT d) then .ok (inT d) S else .exc "BadRow" ["row"] [d] S) := by
  have e := fun S => f_in_tuples (S := S) h.dat h.dep h.len
  have e2 := fun S => f_is_row_of (S := S) (as := as) h.idat (by have := ok.a9; omega)
  have p1 := dat_pure _ h.dat
  have p2 := dat_pure _ h.idat
  cases hr : rowD as (inT d) with
  | true => simp [F_plan_from, runF, M_plan_from, startD, e, e2, hr, p2]
  | false => simp [F_plan_from, runF, M_plan_from, startD, e, e2, hr, p1]
/-- the answers that a plan gives in a lot -/
abbrev seenL (p l : List Int) : List Int := l.map fun i => p.getD i.toNat 0
theorem f_seen_by {k : Nat} {p : List Int} (hk : k < ls.length) (hp : p.length = as.length) : F_seen_by [scn as ls, tI p, .int (k : Int)] S = .ok (tI (seenL p (ls.getD k []))) S := by
  have hm := lot_in ok hk
  have hr := (ok.lr _ hm).2.2
  have h9 := ok.ll _ hm
  have hix := fun S => ix_lot (S := S) hk
  generalize ls.getD k [] = l at *
  have e := lc_g (C := evC (.bl true)) (E := E_seen_by_0) (T := tgN 3) (σ := [some (scn as ls), some (tI p), some (.int (k : Int)), none]) (S := S.ent) (it := seqOf (tI l)) (xs := l.map D.int) (fun i => D.int i) (fun i => D.int (p.getD i.toNat 0)) rfl l fun i hi => by
    have := hr i hi
    have h := ix_as (S := S.ent) (as := p) this.1 (by omega)
    exact ⟨_, rfl, by simp, by simp [E_seen_by_0, h, -ix_i]⟩
  rw [show l.map (fun i => D.int i) = l.map D.int from rfl, show l.map (fun i => D.int (p.getD i.toNat 0)) = (seenL p l).map D.int by simp [Function.comp_def]] at e
  have e4 : startD 4 [scn as ls, tI p, D.int (k : Int)] = [some (scn as ls), some (tI p), some (.int (k : Int)), none] := rfl
  have htI : D.tup ((seenL p l).map D.int) = tI (seenL p l) := rfl
  have e5 : M_seen_by (startD 4 [scn as ls, tI p, D.int (k : Int)]) S.ent = .rt (tI (seenL p l)) S.ent := by
    rw [e4]
    unfold M_seen_by
    simp only [q_seq, q_set, q_if, q_expr, q_ret, q_nil, p_A, p_B, kB_e, p_U, p_cons, p_nil, kCons_e, kTup_e, bind_ok, bindA_ok, p_var, p_c, p_lc, kLc_e, p_one, p_two, p_repr1, p_callF, List.getElem?_cons_succ, List.getElem?_cons_zero, List.append_nil, List.length_cons, List.length_nil, if_true, go_ok, kSet_e, seq_nx, kSIf_t, kSIf_f, kRet_e, kExpr_e, p_orT, kOrT_t, kOrT_f, p_andT, kAndT_t, kAndT_f, seq_l, seq_t, wipeD, List.set_cons_succ, List.set_cons_zero, List.foldl_cons, List.foldl_nil, mkL_f, mkT_e, List.length_map, tup_l, tup_t, len_t, len_l, add_i, sub_i, ne_ss, ne_i, eq_i, fld_lots, tL, hix]
    simp only [q_seq, q_set, q_if, q_expr, q_ret, q_nil, p_A, p_B, kB_e, p_U, p_cons, p_nil, kCons_e, kTup_e, bind_ok, bindA_ok, p_var, p_c, p_lc, kLc_e, p_one, p_two, p_repr1, p_callF, List.getElem?_cons_succ, List.getElem?_cons_zero, List.append_nil, List.length_cons, List.length_nil, if_true, go_ok, kSet_e, seq_nx, kSIf_t, kSIf_f, kRet_e, kExpr_e, p_orT, kOrT_t, kOrT_f, p_andT, kAndT_t, kAndT_f, seq_l, seq_t, wipeD, List.set_cons_succ, List.set_cons_zero, List.foldl_cons, List.foldl_nil, mkL_f, mkT_e, List.length_map, tup_l, tup_t, len_t, len_l, add_i, sub_i, ne_ss, ne_i, eq_i, seq_tI, e, show l.length ≤ 16777216 by omega]
    first | done | rfl
  simp only [F_seen_by, runF, e5, end_rt]
  exact fin_pu (by simp)
theorem f_seen {d e : D} (hd : InD d) (he : e.dat = true) : F_seen [scn as ls, d, e] S = (if rowD as (inT d) then (match inT d, e with
    | .tup xs, .int k => if btw e 0 ((ls.length : Int) - 1) then .ok (tI (seenL (intsX xs) (ls.getD k.toNat []))) S else .exc "BadNumber" ["number", "what"] [e, .str "number"] S
    | _, _ => .exc "BadNumber" ["number", "what"] [e, .str "number"] S) else .exc "BadRow" ["row"] [d] S) := by
  have e1 := fun S => f_plan_from (S := S) ok hd
  have e2 := fun S => f_need_number (S := S) ok he
  have e3 := fun S => need_s (S := S) ok
  have p1 := dat_pure _ hd.dat
  have p2 := dat_pure _ hd.idat
  have p3 := dat_pure _ he
  cases hr : rowD as (inT d) with
  | false =>
    simp only [hr] at e1
    simp [F_seen, runF, M_seen, startD, e1, e3, p1]
  | true =>
    simp only [hr, if_true] at e1
    rw [if_pos rfl]
    generalize hB : inT d = B at *
    cases B with
    | tup xs =>
      simp only [rowD, Bool.and_eq_true, decide_eq_true_eq] at hr
      obtain ⟨hlen, hall⟩ := hr
      have hxs : xs = (intsX xs).map .int := by
        have : ∀ (xs : List D) (as : List Int), xs.length = as.length → ((List.zip xs as).map fun xa : D × Int => match xa.1 with
          | .int i => decide (0 ≤ i) && decide (i < xa.2)
          | _ => false).all id = true → xs = (intsX xs).map .int := by
          intro xs
          induction xs with
          | nil => intro _ _ _; rfl
          | cons x xs ih =>
            intro as hl h
            cases as with
            | nil => simp at hl
            | cons a as =>
              simp only [List.zip_cons_cons, List.map_cons, List.all_cons, Bool.and_eq_true, id] at h
              cases x <;> simp at h
              rename_i i
              show _ = D.int i :: (intsX xs).map .int
              rw [← ih as (by simpa using hl) (by simpa using h.2)]
        exact this xs as hlen hall
      have hxl : (intsX xs).length = as.length := by rw [← hlen]; conv => rhs; rw [hxs]; simp
      have htI : D.tup xs = tI (intsX xs) := by rw [tI, ← hxs]
      cases hb : btw e 0 ((ls.length : Int) - 1) with
      | false =>
        simp only [hb] at e2
        have e' : F_seen [scn as ls, d, e] S = .exc "BadNumber" ["number", "what"] [e, .str "number"] S := by
          simp [F_seen, runF, M_seen, startD, e1, e2, e3, p3]
        rw [e']
        cases e <;> simp [hb]
      | true =>
        simp only [hb, if_true] at e2
        cases e <;> simp [btw] at hb
        rename_i k
        have hk : k.toNat < ls.length := by omega
        have hkk : ((k.toNat : Nat) : Int) = k := by omega
        have es := fun S => f_seen_by (S := S) (p := intsX xs) ok hk hxl
        rw [hkk, ← htI] at es
        have hb' : btw (.int k) 0 ((ls.length : Int) - 1) = true := by simp [btw]; omega
        dsimp only
        generalize seenL (intsX xs) (ls.getD k.toNat []) = R at *
        simp [F_seen, runF, M_seen, startD, e1, e2, e3, es, hb']
    | _ => simp [rowD] at hr
end
end Lw
end

section
set_option maxHeartbeats 4000000
namespace Lw
open PySem PySem.Spec PyProof.Rows L2 Ev
open Classical
theorem erase_perm : ∀ {l : List D} {k : Nat} {y : D}, l[k]? = some y → l.Perm (y :: l.eraseIdx k)
  | [], k, y, h => by simp at h
  | a :: l, 0, y, h => by
    have : a = y := by simpa using h
    subst this
    simp
  | a :: l, k + 1, y, h => by
    have ih := erase_perm (l := l) (k := k) (y := y) (by simpa using h)
    exact (ih.cons a).trans (List.Perm.swap y a _)
section
variable {pc : PenK} {ns : List Int} {N : Nat} {p : Cell} {r : List Cell} {o : List OC} {v : List (Option D)} {m : Option Nat}
theorem sa_pen {p : Cell} {r L : List Cell} {o : List OC} {v : List (Option D)} {m : Option Nat} : Sa ⟨p :: r, o, v, m⟩ L = ⟨p :: (r ++ L), o, v, m⟩ := rfl
theorem shuf_step {left found : List D} {d1 : D} {x4 : Option D} (hp : PenOk pc ns N p) (hN : N ≤ 1000000) (hl : left ≠ []) (hll : left.length ≤ 1000000) (hf : found.length ≤ 1000000) (hpu : D.pures left = true) :
    ∃ (k : Nat) (y : D) (p' : Cell), left[k]? = some y ∧ PenOk pc ns (N + 1) p' ∧ L__law_shuffled_0 pc [some (.ref 0), some d1, some (.ref (r.length + 1)), some (.ref (r.length + 2)), x4] (Sa ⟨p :: r, o, v, none⟩ [.lst left, .lst found]) = .nx [some (.ref 0), some d1, some (.ref (r.length + 1)), some (.ref (r.length + 2)), x4] (Sa ⟨p' :: r, o, v, none⟩ [.lst (left.eraseIdx k), .lst (found ++ [y])]) := by
  have hlen : 0 < left.length := List.length_pos_iff.mpr hl
  obtain ⟨x, p', q1, q2, q3, q4⟩ := draw (many := left.length) (r := r ++ [.lst left, .lst found]) (o := o) (v := v) (m := none) hp (by omega) (by omega) (by omega)
  have hk : x.toNat < left.length := by omega
  have hx : ((x.toNat : Nat) : Int) = x := by omega
  have hy : left[x.toNat]? = some left[x.toNat] := List.getElem?_eq_getElem hk
  refine ⟨x.toNat, left[x.toNat], p', hy, q3, ?_⟩
  have i1 := sa_isl (S := ⟨p :: r, o, v, none⟩) (L := [.lst left, .lst found]) (n := r.length + 1) (i := 0) (xs := left) rfl rfl
  have i2 := sa_isl (S := ⟨p :: r, o, v, none⟩) (L := [.lst left, .lst found]) (n := r.length + 2) (i := 1) (xs := found) rfl rfl
  have l1 := sa_len (S := ⟨p :: r, o, v, none⟩) (L := [.lst left, .lst found]) (n := r.length + 1) (i := 0) (xs := left) rfl rfl
  have p1 := sa_pop (S := ⟨p' :: r, o, v, none⟩) (L := [.lst left, .lst found]) (n := r.length + 1) (i := 0) (xs := left) (k := x.toNat) rfl rfl (by omega) hy
  rw [hx] at p1
  have hpy : (left[x.toNat]).pure = true := pures_iff.mp hpu _ (List.getElem_mem hk)
  have a1 := sa_app (S := ⟨p' :: r, o, v, none⟩) (L := [.lst (left.eraseIdx x.toNat), .lst found]) (n := r.length + 2) (i := 1) (xs := found) (y := left[x.toNat]) rfl rfl (by omega) hpy
  rw [← sa_pen, ← sa_pen] at q4
  have hset : ([Cell.lst left, .lst found].set 0 (.lst (left.eraseIdx x.toNat))) = [.lst (left.eraseIdx x.toNat), .lst found] := rfl
  rw [hset] at p1
  have hset2 : ([Cell.lst (left.eraseIdx x.toNat), .lst found].set 1 (.lst (found ++ [left[x.toNat]]))) = [.lst (left.eraseIdx x.toNat), .lst (found ++ [left[x.toNat]])] := rfl
  rw [hset2] at a1
  unfold L__law_shuffled_0
  simp only [q_seq, q_set, q_if, q_expr, q_ret, q_nil, p_A, p_B, kB_e, p_U, p_cons, p_nil, kCons_e, kTup_e, bind_ok, bindA_ok, p_var, p_c, p_lc, kLc_e, p_one, p_two, p_repr1, p_callF, List.getElem?_cons_succ, List.getElem?_cons_zero, List.append_nil, List.length_cons, List.length_nil, if_true, go_ok, kSet_e, seq_nx, kSIf_t, kSIf_f, kRet_e, kExpr_e, p_orT, kOrT_t, kOrT_f, p_andT, kAndT_t, kAndT_f, seq_l, seq_t, wipeD, List.set_cons_succ, List.set_cons_zero, List.foldl_cons, List.foldl_nil, mkL_f, mkT_e, List.length_map, tup_l, tup_t, len_t, len_l, add_i, sub_i, ne_ss, ne_i, eq_i, p_mth, kMth_e, i1, i2, l1, q4, p1, a1]
/-- all items, in some order -/
theorem l_shuffled {d : D} {xs : List D} (hd : dList true d ⟨p :: r, o, v, none⟩ = .ok (.ref (r.length + 1)) (Sa ⟨p :: r, o, v, none⟩ [.lst xs])) (hs : ∀ S, dLen d S = .ok (.int xs.length) S) (hp : PenOk pc ns N p) (hN : N + xs.length ≤ 1000000) (hx : xs.length ≤ 1000) (hpu : D.pures xs = true) :
    ∃ (ys : List D) (p' : Cell), ys.Perm xs ∧ PenOk pc ns (N + xs.length) p' ∧ F__law_shuffled pc [.ref 0, d] ⟨p :: r, o, v, m⟩ = .ok (.lst ys) ⟨p' :: r, o, v, m⟩ := by
  obtain ⟨σ', S', q1, p', left, found, x4, h1, h2, h3, h4, h5⟩ := for_n (it := iRg1 (.tup [.int (xs.length : Int)])) (xs := rngL 0 xs.length) (T := tgN 4) (B := L__law_shuffled_0 pc) (fun k : Nat => D.int (k : Int)) (fun (_ : Unit) _ => ())
    (fun n _ σ S => ∃ (p : Cell) (left found : List D) (x4 : Option D), PenOk pc ns (N + n) p ∧ (left ++ found).Perm xs ∧ found.length = n ∧ σ = [some (.ref 0), some d, some (.ref (r.length + 1)), some (.ref (r.length + 2)), x4] ∧ S = Sa ⟨p :: r, o, v, none⟩ [.lst left, .lst found])
    (fun n b σ S _ => by simp [big_nat (show xs.length ≤ 1000000000 by omega)]) (List.range xs.length) () [some (.ref 0), some d, some (.ref (r.length + 1)), some (.ref (r.length + 2)), none] (Sa ⟨p :: r, o, v, none⟩ [.lst xs, .lst []])
    (fun n _ k σ S _ hn ⟨p, left, found, x4, h1, h2, h3, h4, h5⟩ => by
      subst h4 h5
      have hn : n < xs.length := by simpa using hn
      have hl := h2.length_eq
      rw [List.length_append] at hl
      have hne : left ≠ [] := by
        intro e
        subst e
        simp at hl
        omega
      have hpl : D.pures left = true := pures_iff.mpr fun y hy => pures_iff.mp hpu y (h2.mem_iff.mp (List.mem_append_left _ hy))
      obtain ⟨j, y, p', a1, a2, a3⟩ := shuf_step (d1 := d) (x4 := some (.int (k : Int))) (r := r) (o := o) (v := v) (found := found) h1 (by omega) hne (by omega) (by omega) hpl
      refine ⟨_, _, _, rfl, .inl a3, p', left.eraseIdx j, found ++ [y], _, a2.mono (by omega), ?_, by simp [h3], rfl, rfl⟩
      have hj := (List.getElem?_eq_some_iff.mp a1)
      have e1 : left.Perm (y :: left.eraseIdx j) := erase_perm a1
      refine List.Perm.trans ?_ h2
      have e2 : (left.eraseIdx j ++ (found ++ [y])).Perm (y :: (left.eraseIdx j ++ found)) := by
        rw [← List.append_assoc]
        exact List.perm_append_singleton y (left.eraseIdx j ++ found)
      exact e2.trans (List.Perm.append_right found e1.symm)) ⟨p, xs, [], none, by simpa using hp, by simp, rfl, rfl, rfl⟩
  subst h4 h5
  simp only [List.length_range] at h1 h3
  rw [← rng_n'] at q1
  have hl := h2.length_eq
  rw [List.length_append, h3] at hl
  have hleft : left = [] := List.eq_nil_of_length_eq_zero (by omega)
  subst hleft
  have hnew := sa_new (S := ⟨p :: r, o, v, none⟩) (L := [.lst xs]) (xs := []) (by simp) (by simp)
  have hfz := sa_frz (S := ⟨p' :: r, o, v, none⟩) (L := [.lst [], .lst found]) (n := r.length + 2) (i := 1) (xs := found) rfl rfl
  have hpf : D.pures found = true := pures_iff.mpr fun y hy => pures_iff.mp hpu y (h2.mem_iff.mp (by simpa using hy))
  refine ⟨found, p', by simpa using h2, h1, ?_⟩
  have hlen0 : (⟨p :: r, o, v, none⟩ : Store).cs.length + ([Cell.lst xs] : List Cell).length = r.length + 2 := rfl
  rw [hlen0] at hnew
  have happ : ([Cell.lst xs] ++ [Cell.lst []] : List Cell) = [.lst xs, .lst []] := rfl
  rw [happ] at hnew
  have hit : ∀ S, iRg1 (.tup [.int (xs.length : Int)]) S = some (rngL 0 xs.length) := fun S => by simp [big_nat (show xs.length ≤ 1000000000 by omega)]
  have e4 : startD 5 [D.ref 0, d] = [some (.ref 0), some d, none, none, none] := rfl
  have e5 : M__law_shuffled pc (startD 5 [D.ref 0, d]) ⟨p :: r, o, v, none⟩ = .rt (.ref (r.length + 2)) (Sa ⟨p' :: r, o, v, none⟩ [.lst [], .lst found]) := by
    rw [e4]
    unfold M__law_shuffled
    simp only [q_seq, q_set, q_if, q_expr, q_ret, q_nil, p_A, p_B, kB_e, p_U, p_cons, p_nil, kCons_e, kTup_e, bind_ok, bindA_ok, p_var, p_c, p_lc, kLc_e, p_one, p_two, p_repr1, p_callF, List.getElem?_cons_succ, List.getElem?_cons_zero, List.append_nil, List.length_cons, List.length_nil, if_true, go_ok, kSet_e, seq_nx, kSIf_t, kSIf_f, kRet_e, kExpr_e, p_orT, kOrT_t, kOrT_f, p_andT, kAndT_t, kAndT_f, seq_l, seq_t, wipeD, List.set_cons_succ, List.set_cons_zero, List.foldl_cons, List.foldl_nil, mkL_f, mkT_e, List.length_map, tup_l, tup_t, len_t, len_l, add_i, sub_i, ne_ss, ne_i, eq_i, q_par2, hd, hnew, kPar2_e, q_for, kFor_e, hs, hit, q1]
  have hf : F__law_shuffled pc [.ref 0, d] ⟨p :: r, o, v, m⟩ = fin ⟨p :: r, o, v, m⟩ (.ref (r.length + 2)) (Sa ⟨p' :: r, o, v, none⟩ [.lst [], .lst found]) := by
    show endF false _ (M__law_shuffled pc (startD 5 [D.ref 0, d]) ⟨p :: r, o, v, none⟩) = _
    rw [e5, end_rt]
  rw [hf]
  have hfz' : frz (Sa ⟨p' :: r, o, v, none⟩ [.lst [], .lst found]) (r.length + 1) (.ref (r.length + 2)) = .lst found := hfz
  show (if (frz (Sa ⟨p' :: r, o, v, none⟩ [.lst [], .lst found]) (r.length + 1) (.ref (r.length + 2))).low (r.length + 1) o.length = true ∧ OsOk ⟨p :: r, o, v, m⟩ (Sa ⟨p' :: r, o, v, none⟩ [.lst [], .lst found]) then Res.ok (frz (Sa ⟨p' :: r, o, v, none⟩ [.lst [], .lst found]) (r.length + 1) (.ref (r.length + 2))) ((Sa ⟨p' :: r, o, v, none⟩ [.lst [], .lst found]).ret ⟨p :: r, o, v, m⟩) else .bad) = _
  rw [hfz']
  simp [hpf, OsOk, Store.ret, Sa]
end
end Lw
end

section
set_option maxHeartbeats 4000000
namespace Lw
open PySem PySem.Spec PyProof.Rows L2 Ev
/-- a lot of q questions -/
def goodL (q : Nat) (l : List Int) : Prop := l ≠ [] ∧ asc l = true ∧ ∀ i ∈ l, 0 ≤ i ∧ i < (q : Int)
theorem asc_pw : ∀ {l : List Int}, l.Pairwise (· < ·) → asc l = true
  | [], _ => rfl
  | [a], _ => rfl
  | a :: b :: r, h => by
    have h1 := (List.pairwise_cons.mp h).1 b (by simp)
    have h2 := asc_pw (List.pairwise_cons.mp h).2
    simp [asc, h1, h2]
theorem pw_asc : ∀ {l : List Int}, asc l = true → l.Pairwise (· < ·)
  | [], _ => .nil
  | [a], _ => by simp
  | a :: b :: r, h => by
    simp only [asc, Bool.and_eq_true, decide_eq_true_eq] at h
    have ih := pw_asc h.2
    refine List.pairwise_cons.mpr ⟨fun x hx => ?_, ih⟩
    rcases List.mem_cons.mp hx with rfl | hx
    · exact h.1
    · have := (List.pairwise_cons.mp ih).1 x hx
      omega
theorem sort_perm (l : List Int) : (sortI l).Perm l := List.mergeSort_perm l _
theorem sort_asc {l : List Int} (h : l.Nodup) : asc (sortI l) = true := by
  have h1 : (sortI l).Pairwise (· ≤ ·) := by
    have := List.pairwise_mergeSort (le := fun a b : Int => decide (a ≤ b)) (fun a b c h h' => by simp at *; omega) (fun a b => by simp; omega) l
    exact this.imp fun h => by simpa using h
  have h2 : (sortI l).Nodup := (sort_perm l).nodup_iff.mpr h
  refine asc_pw ?_
  have h3 : (sortI l).Pairwise (fun a b => a ≤ b ∧ a ≠ b) := h1.and h2
  exact h3.imp fun ⟨a, b⟩ => by omega
theorem sort_good {q : Nat} {zs : List Int} {n : Nat} (hz : zs.Perm ((List.range q).map fun k : Nat => (k : Int))) (hn : 1 ≤ n) (hq : 1 ≤ q) : goodL q (sortI (zs.take n)) := by
  have hl : zs.length = q := by rw [hz.length_eq]; simp
  have hnd : zs.Nodup := hz.nodup_iff.mpr (by
    refine List.Pairwise.map _ (fun a b h => ?_) List.nodup_range
    omega)
  refine ⟨fun e => ?_, sort_asc (hnd.sublist (List.take_sublist _ _)), fun i hi => ?_⟩
  · have := (sort_perm (zs.take n)).length_eq
    rw [e, List.length_take, hl] at this
    simp at this
    omega
  · have := (sort_perm (zs.take n)).mem_iff.mp hi
    have := hz.mem_iff.mp (List.mem_of_mem_take this)
    obtain ⟨k, hk, rfl⟩ := List.mem_map.mp this
    have := List.mem_range.mp hk
    omega
/-- lots that lie in no other one, each once -/
def inOther (found : List (List Int)) (l : List Int) : Bool := found.any fun far => decide (l ≠ far) && l.all fun k => decide (k ∈ far)
def keepStep (found kept : List (List Int)) (l : List Int) : List (List Int) := if l ∉ kept ∧ inOther found l = false then kept ++ [l] else kept
def keepL (found : List (List Int)) : List (List Int) := found.foldl (keepStep found) []
theorem keep_inv (found : List (List Int)) : ∀ (rest kept : List (List Int)), (∀ l ∈ rest, l ∈ found) → kept.Nodup → (∀ l ∈ kept, l ∈ found ∧ inOther found l = false) →
    (rest.foldl (keepStep found) kept).Nodup ∧ (∀ l ∈ rest.foldl (keepStep found) kept, l ∈ found ∧ inOther found l = false) ∧ (∀ l ∈ kept, l ∈ rest.foldl (keepStep found) kept) ∧ (∀ l ∈ rest, inOther found l = false → l ∈ rest.foldl (keepStep found) kept) ∧ (rest.foldl (keepStep found) kept).length ≤ kept.length + rest.length
  | [], kept, _, h1, h2 => ⟨h1, h2, fun l h => h, by simp, by simp⟩
  | l :: rest, kept, hr, h1, h2 => by
    have hl := hr l (List.mem_cons_self ..)
    have hs : (keepStep found kept l).Nodup ∧ (∀ x ∈ keepStep found kept l, x ∈ found ∧ inOther found x = false) ∧ (∀ x ∈ kept, x ∈ keepStep found kept l) ∧ (inOther found l = false → l ∈ keepStep found kept l) ∧ (keepStep found kept l).length ≤ kept.length + 1 := by
      unfold keepStep
      split
      · rename_i hc
        refine ⟨List.nodup_append.mpr ⟨h1, by simp, ?_⟩, ?_, fun x hx => List.mem_append_left _ hx, fun _ => by simp, by simp⟩
        · intro a ha b hb
          have := List.mem_singleton.mp hb
          subst this
          intro e
          subst e
          exact hc.1 ha
        · intro x hx
          rcases List.mem_append.mp hx with hx | hx
          · exact h2 x hx
          · have := List.mem_singleton.mp hx
            subst this
            exact ⟨hl, hc.2⟩
      · rename_i hc
        refine ⟨h1, h2, fun x hx => hx, fun ho => ?_, by omega⟩
        by_cases hm : l ∈ kept
        · exact hm
        · exact absurd ⟨hm, ho⟩ hc
    obtain ⟨s1, s2, s3, s4, s5⟩ := hs
    obtain ⟨g1, g2, g3, g4, g5⟩ := keep_inv found rest (keepStep found kept l) (fun x hx => hr x (List.mem_cons_of_mem _ hx)) s1 s2
    refine ⟨g1, g2, fun x hx => g3 x (s3 x hx), fun x hx ho => ?_, ?_⟩
    · rcases List.mem_cons.mp hx with rfl | hx
      · exact g3 _ (s4 ho)
      · exact g4 x hx ho
    · rw [List.foldl_cons, List.length_cons]
      omega
theorem asc_tl {y : Int} {b : List Int} (h : asc (y :: b) = true) : asc b = true ∧ ∀ x ∈ b, y < x := by
  have := List.pairwise_cons.mp (pw_asc h)
  exact ⟨asc_pw this.2, this.1⟩
theorem asc_sub1 {x y : Int} {a b : List Int} (ha : asc (x :: a) = true) (hs : ∀ k ∈ x :: a, k ∈ y :: b) (hb : asc (y :: b) = true) : (x = y ∧ ∀ k ∈ a, k ∈ b) ∨ (x ≠ y ∧ ∀ k ∈ x :: a, k ∈ b) := by
  obtain ⟨_, ha2⟩ := asc_tl ha
  obtain ⟨_, hb2⟩ := asc_tl hb
  by_cases e : x = y
  · refine .inl ⟨e, fun k hk => ?_⟩
    have := ha2 k hk
    rcases List.mem_cons.mp (hs k (List.mem_cons_of_mem _ hk)) with z | z
    · omega
    · exact z
  · have hx : x ∈ b := (List.mem_cons.mp (hs x (List.mem_cons_self ..))).resolve_left e
    have hyx := hb2 x hx
    refine .inr ⟨e, fun k hk => ?_⟩
    rcases List.mem_cons.mp hk with z | z
    · rw [z]; exact hx
    · have := ha2 k z
      rcases List.mem_cons.mp (hs k hk) with w | w
      · omega
      · exact w
theorem sub_len : ∀ {b a : List Int}, asc a = true → asc b = true → (∀ k ∈ a, k ∈ b) → a.length ≤ b.length
  | [], a, _, _, hs => by
    have : a = [] := List.eq_nil_iff_forall_not_mem.mpr fun x hx => by simpa using hs x hx
    rw [this]; exact Nat.le_refl _
  | y :: b, [], _, _, _ => Nat.zero_le _
  | y :: b, x :: a, ha, hb, hs => by
    rcases asc_sub1 ha hs hb with ⟨_, h⟩ | ⟨_, h⟩
    · have := sub_len (asc_tl ha).1 (asc_tl hb).1 h
      simp; omega
    · have := sub_len ha (asc_tl hb).1 h
      simp at this ⊢; omega
/-- ascending rows: one within another that is no longer is that one -/
theorem asc_sub : ∀ {b a : List Int}, asc a = true → asc b = true → (∀ k ∈ a, k ∈ b) → b.length ≤ a.length → a = b
  | [], a, _, _, hs, _ => List.eq_nil_iff_forall_not_mem.mpr fun x hx => by simpa using hs x hx
  | y :: b, [], _, _, _, hl => by simp at hl
  | y :: b, x :: a, ha, hb, hs, hl => by
    rcases asc_sub1 ha hs hb with ⟨e, h⟩ | ⟨_, h⟩
    · rw [e, asc_sub (asc_tl ha).1 (asc_tl hb).1 h (by simpa using hl)]
    · have := sub_len ha (asc_tl hb).1 h
      simp at this hl
      omega
/-- a longest one of those with k -/
theorem longest (k : Int) : ∀ (found : List (List Int)), (∃ l ∈ found, k ∈ l) → ∃ l ∈ found, k ∈ l ∧ ∀ m ∈ found, k ∈ m → m.length ≤ l.length
  | [], h => by simp at h
  | a :: found, h => by
    by_cases hf : ∃ l ∈ found, k ∈ l
    · obtain ⟨l, h1, h2, h3⟩ := longest k found hf
      by_cases ha : k ∈ a ∧ l.length < a.length
      · refine ⟨a, List.mem_cons_self .., ha.1, fun m hm hk => ?_⟩
        rcases List.mem_cons.mp hm with rfl | hm
        · exact Nat.le_refl _
        · have := h3 m hm hk
          omega
      · refine ⟨l, List.mem_cons_of_mem _ h1, h2, fun m hm hk => ?_⟩
        rcases List.mem_cons.mp hm with rfl | hm
        · by_cases hlt : l.length < m.length
          · exact absurd ⟨hk, hlt⟩ ha
          · omega
        · exact h3 m hm hk
    · obtain ⟨l, hl, hk⟩ := h
      rcases List.mem_cons.mp hl with rfl | hl
      · refine ⟨l, List.mem_cons_self .., hk, fun m hm hkm => ?_⟩
        rcases List.mem_cons.mp hm with rfl | hm
        · exact Nat.le_refl _
        · exact absurd ⟨m, hm, hkm⟩ hf
      · exact absurd ⟨l, hl, hk⟩ hf
/-- the kept lots are those of a scene -/
theorem keep_ok {as : List Int} {found : List (List Int)} (a1 : 1 ≤ as.length) (a9 : as.length ≤ 9) (a5 : ∀ a ∈ as, 2 ≤ a ∧ a ≤ 5) (hg : ∀ l ∈ found, goodL as.length l) (hn : found.length ≤ 12) (hc : ∀ k < as.length, ∃ l ∈ found, (k : Int) ∈ l) : ScOk as (keepL found) := by
  obtain ⟨k1, k2, _, k4, k5⟩ := keep_inv found found [] (fun l h => h) (by simp) (by simp)
  have hk1 : (keepL found).Nodup := k1
  have hcov : ∀ k < as.length, ∃ l ∈ keepL found, (k : Int) ∈ l := fun k hk => by
    obtain ⟨l, h1, h2, h3⟩ := longest (k : Int) found (hc k hk)
    refine ⟨l, k4 l h1 ?_, h2⟩
    unfold inOther
    rw [List.any_eq_false]
    intro far hf
    simp only [Bool.and_eq_true, decide_eq_true_eq, List.all_eq_true, not_and]
    intro hne hsub
    exact hne (asc_sub (hg l h1).2.1 (hg far hf).2.1 (fun k hk => by simpa using hsub k hk) (h3 far hf (by simpa using hsub _ h2)))
  refine ⟨a1, a9, a5, ?_, ?_, fun l hl => hg l (k2 l hl).1, ?_, ?_⟩
  · obtain ⟨l, hl, _⟩ := hcov 0 (by omega)
    exact List.length_pos_of_mem hl
  · have : (keepL found).length ≤ 0 + found.length := k5
    omega
  · rw [List.any_eq_false]
    intro i hi
    have hi := List.mem_range.mp hi
    unfold withinAt
    rw [Bool.not_eq_true, List.any_eq_false]
    intro j hj
    have hj := List.mem_range.mp hj
    simp only [Bool.and_eq_true, decide_eq_true_eq, List.all_eq_true, not_and]
    intro hij hsub
    have ei : (keepL found).getD i [] = (keepL found)[i] := by simp [List.getD_eq_getElem?_getD, List.getElem?_eq_getElem hi]
    have ej : (keepL found).getD j [] = (keepL found)[j] := by simp [List.getD_eq_getElem?_getD, List.getElem?_eq_getElem hj]
    rw [ei, ej] at hsub
    have hpw := List.pairwise_iff_getElem.mp hk1
    have hne : (keepL found)[i] ≠ (keepL found)[j] := by
      rcases Nat.lt_or_gt_of_ne hij with z | z
      · exact hpw i j hi hj z
      · exact fun e => hpw j i hj hi z e.symm
    have hno := (k2 _ (List.getElem_mem hi)).2
    unfold inOther at hno
    rw [List.any_eq_false] at hno
    have := hno _ (k2 _ (List.getElem_mem hj)).1
    simp only [Bool.and_eq_true, decide_eq_true_eq, List.all_eq_true, not_and] at this
    exact this hne hsub
  · unfold covers
    rw [List.all_eq_true]
    intro k hk
    rw [List.any_eq_true]
    obtain ⟨l, h1, h2⟩ := hcov k (List.mem_range.mp hk)
    exact ⟨l, h1, by simpa using h2⟩
end Lw
end

section
set_option maxHeartbeats 4000000
namespace Lw
open PySem PySem.Spec PyProof.Rows L2 Ev
open Classical
section
variable {pc : PenK} {ns : List Int} {N : Nat} {p : Cell} {r : List Cell} {o : List OC} {v : List (Option D)} {m : Option Nat} {q : Nat} {a2 a3 a4 : D}
/-- one more lot -/
theorem scn_lap {found : List (List Int)} {x6 x7 : Option D} (hp : PenOk pc ns N p) (hN : N ≤ 500000) (hq : 1 ≤ q) (hq9 : q ≤ 9) (hf : found.length ≤ 1000) :
    ∃ (l : List Int) (p' : Cell) (y7 : D), goodL q l ∧ PenOk pc ns (N + (1 + q)) p' ∧ L__law_scene_1 pc [some (.ref 0), some (.int (q : Int)), some a2, some a3, some a4, some (.ref (r.length + 1)), x6, x7, none, none, none, none, none] (Sa ⟨p :: r, o, v, none⟩ [.lst (found.map tI)]) = .nx [some (.ref 0), some (.int (q : Int)), some a2, some a3, some a4, some (.ref (r.length + 1)), x6, some y7, none, none, none, none, none] (Sa ⟨p' :: r, o, v, none⟩ [.lst ((found ++ [l]).map tI)]) := by
  have hmin : ∃ w : Nat, 1 ≤ w ∧ w ≤ q ∧ ∀ S, dMin2 (.int 3) (.int (q : Int)) S = .ok (.int (w : Int)) S := by
    by_cases h : (q : Int) < 3
    · exact ⟨q, hq, Nat.le_refl _, fun S => by rw [min2_i, if_pos h]⟩
    · exact ⟨3, by decide, by omega, fun S => by rw [min2_i, if_neg h]; rfl⟩
  obtain ⟨w, w1, w2, hw⟩ := hmin
  obtain ⟨x, p1, b1, b2, b3, b4⟩ := draw (many := w) (r := r ++ [.lst (found.map tI)]) (o := o) (v := v) (m := none) hp (by omega) (by omega) (by omega)
  obtain ⟨n, hn1, hnx⟩ : ∃ n : Nat, 1 ≤ n ∧ 1 + x = (n : Int) := ⟨1 + x.toNat, by omega, by omega⟩
  have hd : dList true (.lst (rngL 0 q)) ⟨p1 :: (r ++ [.lst (found.map tI)]), o, v, none⟩ = .ok (.ref ((r ++ [Cell.lst (found.map tI)]).length + 1)) (Sa ⟨p1 :: (r ++ [.lst (found.map tI)]), o, v, none⟩ [.lst (rngL 0 q)]) := by
    have hpu : D.pures (rngL 0 q) = true := pures_iff.mpr fun y hy => by
      obtain ⟨k, _, rfl⟩ := List.mem_map.mp hy
      rfl
    exact sa_new0 (S := ⟨p1 :: (r ++ [.lst (found.map tI)]), o, v, none⟩) (xs := rngL 0 q) (by simp [rngL]; omega) hpu
  obtain ⟨ys, p2, c1, c2, c3⟩ := l_shuffled (m := none) hd (fun S => by simp) b3 (by simp [rngL]; omega) (by simp [rngL]; omega) (pures_iff.mpr fun y hy => by
    obtain ⟨k, _, rfl⟩ := List.mem_map.mp hy
    rfl)
  have hyl : ys.length = q := by rw [c1.length_eq]; simp [rngL]
  -- the items are ints
  have hys : ys.all (fun | .int i => (fun _ => true) i | _ => false) = true := by
    rw [List.all_eq_true]
    intro y hy
    have := c1.mem_iff.mp hy
    obtain ⟨k, _, rfl⟩ := List.mem_map.mp this
    rfl
  obtain ⟨hz, _⟩ := intsX_of (p := fun _ => true) hys
  have hperm : (intsX ys).Perm ((List.range q).map fun k : Nat => (k : Int)) := by
    have h1 : (intsX ys).Perm (intsX (rngL 0 q)) := c1.filterMap _
    rw [rng_n', show ((List.range q).map fun k : Nat => D.int (k : Int)) = ((List.range q).map fun k : Nat => (k : Int)).map D.int by simp [Function.comp_def], intsX_map] at h1
    exact h1
  have hgood := sort_good (n := n) hperm hn1 hq
  have hsl : ∀ (σ : Env1) (S : Store), σ[7]? = some (some (.int (n : Int))) → (evA (evCons (evVar 0) (evCons (evU (evVar 1) (dRgL1 false)) evNil)) (callF 2 [] (F__law_shuffled pc))) σ S = .ok (.lst ys) (Sa ⟨p2 :: r, o, v, none⟩ [.lst (found.map tI)]) → (evSl false (evA (evCons (evVar 0) (evCons (evU (evVar 1) (dRgL1 false)) evNil)) (callF 2 [] (F__law_shuffled pc))) none (some (evVar 7))) σ S = .ok (.lst (((intsX ys).take n).map D.int)) (Sa ⟨p2 :: r, o, v, none⟩ [.lst (found.map tI)]) := fun σ S h7 hA => by
    have hcut : cutD ys none (some (n : Int)) = ((intsX ys).take n).map D.int := by
      have e1 : HT.sIx ys.length ys.length (some (n : Int)) = min n ys.length := HT.sIx_nat _ _ _
      unfold Ev.cutD
      rw [e1, HT.sIx_none, List.drop_zero, Nat.sub_zero, List.map_take, ← hz]
      by_cases h : n ≤ ys.length
      · rw [Nat.min_eq_left h]
      · rw [Nat.min_eq_right (by omega), List.take_of_length_le (Nat.le_refl _), List.take_of_length_le (by omega)]
    unfold evSl partE
    rw [hA]
    simp only [Res.bind, p_var, h7]
    rw [sl_l, hcut, mkL_f, if_pos (by rw [List.length_map, List.length_take]; omega)]
  have hsort : ∀ S, dSortI false (.lst (((intsX ys).take n).map D.int)) S = .ok (lI (sortI ((intsX ys).take n))) S := fun S => by
    have hll : (sortI ((intsX ys).take n)).length ≤ 16777216 := by
      rw [(sort_perm _).length_eq, List.length_take]
      have : (intsX ys).length = ys.length := by conv => rhs; rw [hz]; simp
      omega
    show (match (lstX _ _).bind allInt with | some ns => mkL false ((sortI ns).map .int) S | none => .bad) = _
    simp only [lstX_l, Option.bind_some, allInt_map, mkL_f, List.length_map, hll, if_true]
    rfl
  have hrow : ∀ S, dTuple (lI (sortI ((intsX ys).take n))) S = .ok (tI (sortI ((intsX ys).take n))) S := fun S => by
    have hll : (sortI ((intsX ys).take n)).length ≤ 16777216 := by
      rw [(sort_perm _).length_eq, List.length_take]
      have : (intsX ys).length = ys.length := by conv => rhs; rw [hz]; simp
      omega
    show mkT _ S = _
    rw [mkT_e, if_pos (by simpa using hll)]
    rfl
  generalize sortI ((intsX ys).take n) = l at *
  have hil := sa_isl (S := ⟨p1 :: r, o, v, none⟩) (L := [.lst (found.map tI)]) (n := r.length + 1) (i := 0) rfl rfl
  have happ := sa_app (S := ⟨p2 :: r, o, v, none⟩) (L := [.lst (found.map tI)]) (n := r.length + 1) (i := 0) (xs := found.map tI) (y := tI l) rfl rfl (by rw [List.length_map]; omega) (by simp)
  have hset : ([Cell.lst (found.map tI)].set 0 (.lst (found.map tI ++ [tI l]))) = [.lst ((found ++ [l]).map tI)] := by simp
  rw [hset] at happ
  rw [← sa_pen, ← sa_pen] at b4
  rw [← sa_pen, ← sa_pen] at c3
  have hrg := fun S => rgL_nat (S := S) (n := q) (by omega)
  refine ⟨l, p2, .int (n : Int), hgood, c2.mono (by simp [rngL]; omega), ?_⟩
  have hA := hsl [some (.ref 0), some (.int (q : Int)), some a2, some a3, some a4, some (.ref (r.length + 1)), x6, some (.int (n : Int)), none, none, none, none, none] (Sa ⟨p1 :: r, o, v, none⟩ [.lst (found.map tI)]) rfl (by
    simp only [q_seq, q_set, q_if, q_expr, q_ret, q_nil, p_A, p_B, kB_e, p_U, p_cons, p_nil, kCons_e, kTup_e, bind_ok, bindA_ok, p_var, p_c, p_lc, kLc_e, p_one, p_two, p_repr1, p_callF, List.getElem?_cons_succ, List.getElem?_cons_zero, List.append_nil, List.length_cons, List.length_nil, if_true, go_ok, kSet_e, seq_nx, kSIf_t, kSIf_f, kRet_e, kExpr_e, p_orT, kOrT_t, kOrT_f, p_andT, kAndT_t, kAndT_f, seq_l, seq_t, wipeD, List.set_cons_succ, List.set_cons_zero, List.foldl_cons, List.foldl_nil, mkL_f, mkT_e, List.length_map, tup_l, tup_t, len_t, len_l, add_i, sub_i, ne_ss, ne_i, eq_i, rg1_i, hrg, c3])
  unfold L__law_scene_1
  simp only [q_seq, q_set, q_if, q_expr, q_ret, q_nil, p_A, p_B, kB_e, p_U, p_cons, p_nil, kCons_e, kTup_e, bind_ok, bindA_ok, p_var, p_c, p_lc, kLc_e, p_one, p_two, p_repr1, p_callF, List.getElem?_cons_succ, List.getElem?_cons_zero, List.append_nil, List.length_cons, List.length_nil, if_true, go_ok, kSet_e, seq_nx, kSIf_t, kSIf_f, kRet_e, kExpr_e, p_orT, kOrT_t, kOrT_f, p_andT, kAndT_t, kAndT_f, seq_l, seq_t, wipeD, List.set_cons_succ, List.set_cons_zero, List.foldl_cons, List.foldl_nil, mkL_f, mkT_e, List.length_map, tup_l, tup_t, len_t, len_l, add_i, sub_i, ne_ss, ne_i, eq_i, hw, b4, hnx, p_mth, kMth_e, hil, hA, hsort, hrow, happ]
theorem in_rows {S : Store} {neg : Bool} {l : List Int} {y : D} {ls : List (List Int)} (h : seqOf y S = some (ls.map tI)) : dIn neg (tI l) y S = .ok (.bl (if neg then !decide (l ∈ ls) else decide (l ∈ ls))) S := by
  have he : ∀ x ∈ ls.map tI, EG 2 x := fun x hx => by
    obtain ⟨r, _, rfl⟩ := List.mem_map.mp hx
    exact EG.tup (eg_ints r)
  have hk : okIn (tI l) (ls.map tI) = true := by
    obtain ⟨h1, h2, h3⟩ := eg_all he
    have e1 : okEq (tI l) = true := (EG.tup (eg_ints l)).ok
    unfold okIn SeqAt.shaped
    rw [e1, h1]
    simp [PyData.canLay0, h2, PyData.depth]
    omega
  have hi : inD (tI l) (ls.map tI) = decide (l ∈ ls) := by
    unfold inD
    clear hk h he
    induction ls with
    | nil => simp [pys]
    | cons n ls ih =>
      have e : PyData.eqv (py (tI n)) (py (tI l)) = decide (n = l) := by simp only [tI, py, PyData.eqv, eqv_ints]
      simp only [List.map_cons, pys, List.any_cons, ih, e]
      by_cases h : n = l
      · subst h; simp
      · have h' : ¬ l = n := fun e => h e.symm
        simp [h, h']
  unfold dIn
  rw [h]
  have hr : res S (tI l) = tI l := rfl
  simp only [hr, hk, hi, if_true]
def coverStep (found : List (List Int)) (k : Nat) : List (List Int) := if found.any (fun l => decide ((k : Int) ∈ l)) then found else found ++ [[(k : Int)]]
theorem scn_cover {found : List (List Int)} {k : Nat} {x6 x7 : Option D} (hf : found.length ≤ 1000) :
    L__law_scene_3 pc [some (.ref 0), some (.int (q : Int)), some a2, some a3, some a4, some (.ref (r.length + 1)), x6, x7, some (.int (k : Int)), none, none, none, none] (Sa ⟨p :: r, o, v, none⟩ [.lst (found.map tI)]) = .nx [some (.ref 0), some (.int (q : Int)), some a2, some a3, some a4, some (.ref (r.length + 1)), x6, x7, some (.int (k : Int)), none, none, none, none] (Sa ⟨p :: r, o, v, none⟩ [.lst ((coverStep found k).map tI)]) := by
  have hseq := sa_seq (S := ⟨p :: r, o, v, none⟩) (L := [.lst (found.map tI)]) (n := r.length + 1) (i := 0) rfl rfl
  have e := lc_g (C := evC (.bl true)) (E := E__law_scene_2 pc) (T := tgN 10) (σ := [some (.ref 0), some (.int (q : Int)), some a2, some a3, some a4, some (.ref (r.length + 1)), x6, x7, some (.int (k : Int)), none, none, none, none]) (S := Sa ⟨p :: r, o, v, none⟩ [.lst (found.map tI)]) (it := seqOf (.ref (r.length + 1))) (xs := found.map tI) tI (fun l => D.bl (decide ((k : Int) ∈ l))) hseq found fun l hl => by
    have hin := in_ints (neg := false) (i := (k : Int)) (y := tI l) (ns := l) (S := Sa ⟨p :: r, o, v, none⟩ [.lst (found.map tI)]) rfl
    exact ⟨_, rfl, by simp, by simp [E__law_scene_2, hin]⟩
  rw [show (found.map fun l => D.bl (decide ((k : Int) ∈ l))) = (found.map fun l => decide ((k : Int) ∈ l)).map D.bl by simp [Function.comp_def]] at e
  have hal := fun S => all_l (S := S) (p := (·.any id)) (bs := found.map fun l => decide ((k : Int) ∈ l))
  rw [show ((found.map fun l => decide ((k : Int) ∈ l)).any id) = found.any fun l => decide ((k : Int) ∈ l) by rw [List.any_map]; rfl] at hal
  have hml : (found.map fun l => decide ((k : Int) ∈ l)).length ≤ 16777216 := by simp; omega
  generalize (found.map fun l => decide ((k : Int) ∈ l)) = z at *
  have hil := sa_isl (S := ⟨p :: r, o, v, none⟩) (L := [.lst (found.map tI)]) (n := r.length + 1) (i := 0) rfl rfl
  have happ := sa_app (S := ⟨p :: r, o, v, none⟩) (L := [.lst (found.map tI)]) (n := r.length + 1) (i := 0) (xs := found.map tI) (y := tI [(k : Int)]) rfl rfl (by rw [List.length_map]; omega) (by simp)
  have hset : ([Cell.lst (found.map tI)].set 0 (.lst (found.map tI ++ [tI [(k : Int)]]))) = [.lst ((found ++ [[(k : Int)]]).map tI)] := by simp
  rw [hset] at happ
  have happ' : dAppend (.ref (r.length + 1)) [D.tup [.int (k : Int)]] (Sa ⟨p :: r, o, v, none⟩ [.lst (found.map tI)]) = .ok .non (Sa ⟨p :: r, o, v, none⟩ [.lst ((found ++ [[(k : Int)]]).map tI)]) := happ
  have le1 : 0 + 1 ≤ 16777216 := by decide
  cases hc : found.any (fun l => decide ((k : Int) ∈ l)) with
  | true =>
    simp only [hc] at hal
    have : coverStep found k = found := if_pos hc
    rw [this]
    unfold L__law_scene_3
    simp only [q_seq, q_set, q_if, q_expr, q_ret, q_nil, p_A, p_B, kB_e, p_U, p_cons, p_nil, kCons_e, kTup_e, bind_ok, bindA_ok, p_var, p_c, p_lc, kLc_e, p_one, p_two, p_repr1, p_callF, List.getElem?_cons_succ, List.getElem?_cons_zero, List.append_nil, List.length_cons, List.length_nil, if_true, go_ok, kSet_e, seq_nx, kSIf_t, kSIf_f, kRet_e, kExpr_e, p_orT, kOrT_t, kOrT_f, p_andT, kAndT_t, kAndT_f, seq_l, seq_t, wipeD, List.set_cons_succ, List.set_cons_zero, List.foldl_cons, List.foldl_nil, mkL_f, mkT_e, List.length_map, tup_l, tup_t, len_t, len_l, add_i, sub_i, ne_ss, ne_i, eq_i, hseq, e, hml, hal, p_tru, tru_b, not_b, Bool.not_true]
  | false =>
    simp only [hc] at hal
    have : coverStep found k = found ++ [[(k : Int)]] := if_neg (by rw [hc]; decide)
    rw [this]
    unfold L__law_scene_3
    simp only [q_seq, q_set, q_if, q_expr, q_ret, q_nil, p_A, p_B, kB_e, p_U, p_cons, p_nil, kCons_e, kTup_e, bind_ok, bindA_ok, p_var, p_c, p_lc, kLc_e, p_one, p_two, p_repr1, p_callF, List.getElem?_cons_succ, List.getElem?_cons_zero, List.append_nil, List.length_cons, List.length_nil, if_true, go_ok, kSet_e, seq_nx, kSIf_t, kSIf_f, kRet_e, kExpr_e, p_orT, kOrT_t, kOrT_f, p_andT, kAndT_t, kAndT_f, seq_l, seq_t, wipeD, List.set_cons_succ, List.set_cons_zero, List.foldl_cons, List.foldl_nil, mkL_f, mkT_e, List.length_map, tup_l, tup_t, len_t, len_l, add_i, sub_i, ne_ss, ne_i, eq_i, hseq, e, hml, hal, p_tru, tru_b, not_b, Bool.not_false, p_mth, kMth_e, hil, le1, happ']
theorem scn_keep {found kept : List (List Int)} {l : List Int} {x6 x7 x8 : Option D} (hf : found.length ≤ 1000) (hk : kept.length ≤ 1000) (hl : l.length ≤ 1000) :
    L__law_scene_6 pc [some (.ref 0), some (.int (q : Int)), some a2, some a3, some a4, some (.ref (r.length + 1)), x6, x7, x8, some (.ref (r.length + 2)), some (tI l), none, none] (Sa ⟨p :: r, o, v, none⟩ [.lst (found.map tI), .lst (kept.map tI)]) = .nx [some (.ref 0), some (.int (q : Int)), some a2, some a3, some a4, some (.ref (r.length + 1)), x6, x7, x8, some (.ref (r.length + 2)), some (tI l), none, none] (Sa ⟨p :: r, o, v, none⟩ [.lst (found.map tI), .lst ((keepStep found kept l).map tI)]) := by
  have hseq := sa_seq (S := ⟨p :: r, o, v, none⟩) (L := [.lst (found.map tI), .lst (kept.map tI)]) (n := r.length + 1) (i := 0) rfl rfl
  have hseq2 := sa_seq (S := ⟨p :: r, o, v, none⟩) (L := [.lst (found.map tI), .lst (kept.map tI)]) (n := r.length + 2) (i := 1) (xs := kept.map tI) rfl rfl
  have hnin := in_rows (S := Sa ⟨p :: r, o, v, none⟩ [.lst (found.map tI), .lst (kept.map tI)]) (neg := true) (l := l) hseq2
  have e := lc_g (C := evC (.bl true)) (E := E__law_scene_5 pc) (T := tgN 12) (σ := [some (.ref 0), some (.int (q : Int)), some a2, some a3, some a4, some (.ref (r.length + 1)), x6, x7, x8, some (.ref (r.length + 2)), some (tI l), none, none]) (S := Sa ⟨p :: r, o, v, none⟩ [.lst (found.map tI), .lst (kept.map tI)]) (it := seqOf (.ref (r.length + 1))) (xs := found.map tI) tI (fun far => D.bl (decide (l ≠ far) && l.all fun k => decide (k ∈ far))) hseq found fun far hfar => by
    refine ⟨[some (.ref 0), some (.int (q : Int)), some a2, some a3, some a4, some (.ref (r.length + 1)), x6, x7, x8, some (.ref (r.length + 2)), some (tI l), none, some (tI far)], by simp, by simp, ?_⟩
    have e2 := lc_g (C := evC (.bl true)) (E := E__law_scene_4 pc) (T := tgN 11) (σ := [some (.ref 0), some (.int (q : Int)), some a2, some a3, some a4, some (.ref (r.length + 1)), x6, x7, x8, some (.ref (r.length + 2)), some (tI l), none, some (tI far)]) (S := Sa ⟨p :: r, o, v, none⟩ [.lst (found.map tI), .lst (kept.map tI)]) (it := seqOf (tI l)) (xs := l.map D.int) (fun i => D.int i) (fun i => D.bl (decide (i ∈ far))) rfl l fun i hi => by
      have hin := in_ints (neg := false) (i := i) (y := tI far) (ns := far) (S := Sa ⟨p :: r, o, v, none⟩ [.lst (found.map tI), .lst (kept.map tI)]) rfl
      exact ⟨_, rfl, by simp, by simp [E__law_scene_4, hin]⟩
    rw [show l.map (fun i => D.int i) = l.map D.int from rfl, show (l.map fun i => D.bl (decide (i ∈ far))) = (l.map fun i => decide (i ∈ far)).map D.bl by simp [Function.comp_def]] at e2
    have hal := fun S => all_l (S := S) (p := (·.all id)) (bs := l.map fun i => decide (i ∈ far))
    rw [show ((l.map fun i => decide (i ∈ far)).all id) = l.all fun i => decide (i ∈ far) by rw [List.all_map]; rfl] at hal
    have hml : (l.map fun i => decide (i ∈ far)).length ≤ 16777216 := by simp; omega
    generalize (l.map fun i => decide (i ∈ far)) = z at *
    by_cases hne : l = far
    · have hq2 : ∀ S, dEq true (tI l) (tI far) S = .ok (.bl false) S := fun S => by rw [eq_tI]; simp [hne]
      simp only [E__law_scene_5, p_and, p_B, kB_e, p_var, List.getElem?_cons_succ, List.getElem?_cons_zero, bind_ok, hq2, kAnd_e, tru_b]
      simp [hne]
    · have hq2 : ∀ S, dEq true (tI l) (tI far) S = .ok (.bl true) S := fun S => by rw [eq_tI]; simp [hne]
      simp only [E__law_scene_5, p_and, kAnd_e, tru_b, hq2, q_seq, q_set, q_if, q_expr, q_ret, q_nil, p_A, p_B, kB_e, p_U, p_cons, p_nil, kCons_e, kTup_e, bind_ok, bindA_ok, p_var, p_c, p_lc, kLc_e, p_one, p_two, p_repr1, p_callF, List.getElem?_cons_succ, List.getElem?_cons_zero, List.append_nil, List.length_cons, List.length_nil, if_true, go_ok, kSet_e, seq_nx, kSIf_t, kSIf_f, kRet_e, kExpr_e, p_orT, kOrT_t, kOrT_f, p_andT, kAndT_t, kAndT_f, seq_l, seq_t, wipeD, List.set_cons_succ, List.set_cons_zero, List.foldl_cons, List.foldl_nil, mkL_f, mkT_e, List.length_map, tup_l, tup_t, len_t, len_l, add_i, sub_i, ne_ss, ne_i, eq_i, seq_tI, e2, hml, hal]
      simp [hne]
  rw [show (found.map fun far => D.bl (decide (l ≠ far) && l.all fun k => decide (k ∈ far))) = (found.map fun far => decide (l ≠ far) && l.all fun k => decide (k ∈ far)).map D.bl by simp [Function.comp_def]] at e
  have hal := fun S => all_l (S := S) (p := (·.any id)) (bs := found.map fun far => decide (l ≠ far) && l.all fun k => decide (k ∈ far))
  rw [show ((found.map fun far => decide (l ≠ far) && l.all fun k => decide (k ∈ far)).any id) = inOther found l by rw [List.any_map]; rfl] at hal
  have hml : (found.map fun far => decide (l ≠ far) && l.all fun k => decide (k ∈ far)).length ≤ 16777216 := by simp; omega
  generalize (found.map fun far => decide (l ≠ far) && l.all fun k => decide (k ∈ far)) = z at *
  have hil := sa_isl (S := ⟨p :: r, o, v, none⟩) (L := [.lst (found.map tI), .lst (kept.map tI)]) (n := r.length + 2) (i := 1) (xs := kept.map tI) rfl rfl
  have happ := sa_app (S := ⟨p :: r, o, v, none⟩) (L := [.lst (found.map tI), .lst (kept.map tI)]) (n := r.length + 2) (i := 1) (xs := kept.map tI) (y := tI l) rfl rfl (by rw [List.length_map]; omega) (by simp)
  have hset : ([Cell.lst (found.map tI), .lst (kept.map tI)].set 1 (.lst (kept.map tI ++ [tI l]))) = [.lst (found.map tI), .lst ((kept ++ [l]).map tI)] := by simp
  rw [hset] at happ
  by_cases hm : l ∈ kept
  · have hs : keepStep found kept l = kept := if_neg (fun h => h.1 hm)
    rw [hs]
    have hn2 : dIn true (tI l) (.ref (r.length + 2)) (Sa ⟨p :: r, o, v, none⟩ [.lst (found.map tI), .lst (kept.map tI)]) = .ok (.bl false) (Sa ⟨p :: r, o, v, none⟩ [.lst (found.map tI), .lst (kept.map tI)]) := by rw [hnin]; simp [hm]
    unfold L__law_scene_6
    simp only [q_seq, q_set, q_if, q_expr, q_ret, q_nil, p_A, p_B, kB_e, p_U, p_cons, p_nil, kCons_e, kTup_e, bind_ok, bindA_ok, p_var, p_c, p_lc, kLc_e, p_one, p_two, p_repr1, p_callF, List.getElem?_cons_succ, List.getElem?_cons_zero, List.append_nil, List.length_cons, List.length_nil, if_true, go_ok, kSet_e, seq_nx, kSIf_t, kSIf_f, kRet_e, kExpr_e, p_orT, kOrT_t, kOrT_f, p_andT, kAndT_t, kAndT_f, seq_l, seq_t, wipeD, List.set_cons_succ, List.set_cons_zero, List.foldl_cons, List.foldl_nil, mkL_f, mkT_e, List.length_map, tup_l, tup_t, len_t, len_l, add_i, sub_i, ne_ss, ne_i, eq_i, hn2]
  · have hn2 : dIn true (tI l) (.ref (r.length + 2)) (Sa ⟨p :: r, o, v, none⟩ [.lst (found.map tI), .lst (kept.map tI)]) = .ok (.bl true) (Sa ⟨p :: r, o, v, none⟩ [.lst (found.map tI), .lst (kept.map tI)]) := by rw [hnin]; simp [hm]
    cases ho : inOther found l with
    | true =>
      have hs : keepStep found kept l = kept := if_neg (fun h => by rw [ho] at h; exact absurd h.2 (by decide))
      rw [hs]
      simp only [ho] at hal
      unfold L__law_scene_6
      simp only [q_seq, q_set, q_if, q_expr, q_ret, q_nil, p_A, p_B, kB_e, p_U, p_cons, p_nil, kCons_e, kTup_e, bind_ok, bindA_ok, p_var, p_c, p_lc, kLc_e, p_one, p_two, p_repr1, p_callF, List.getElem?_cons_succ, List.getElem?_cons_zero, List.append_nil, List.length_cons, List.length_nil, if_true, go_ok, kSet_e, seq_nx, kSIf_t, kSIf_f, kRet_e, kExpr_e, p_orT, kOrT_t, kOrT_f, p_andT, kAndT_t, kAndT_f, seq_l, seq_t, wipeD, List.set_cons_succ, List.set_cons_zero, List.foldl_cons, List.foldl_nil, mkL_f, mkT_e, List.length_map, tup_l, tup_t, len_t, len_l, add_i, sub_i, ne_ss, ne_i, eq_i, hn2, hseq, e, hml, hal, p_tru, tru_b, not_b, Bool.not_true]
    | false =>
      have hs : keepStep found kept l = kept ++ [l] := if_pos ⟨hm, ho⟩
      rw [hs]
      simp only [ho] at hal
      unfold L__law_scene_6
      simp only [q_seq, q_set, q_if, q_expr, q_ret, q_nil, p_A, p_B, kB_e, p_U, p_cons, p_nil, kCons_e, kTup_e, bind_ok, bindA_ok, p_var, p_c, p_lc, kLc_e, p_one, p_two, p_repr1, p_callF, List.getElem?_cons_succ, List.getElem?_cons_zero, List.append_nil, List.length_cons, List.length_nil, if_true, go_ok, kSet_e, seq_nx, kSIf_t, kSIf_f, kRet_e, kExpr_e, p_orT, kOrT_t, kOrT_f, p_andT, kAndT_t, kAndT_f, seq_l, seq_t, wipeD, List.set_cons_succ, List.set_cons_zero, List.foldl_cons, List.foldl_nil, mkL_f, mkT_e, List.length_map, tup_l, tup_t, len_t, len_l, add_i, sub_i, ne_ss, ne_i, eq_i, hn2, hseq, e, hml, hal, p_tru, tru_b, not_b, Bool.not_false, p_mth, kMth_e, hil, happ]
theorem cover_inv {q : Nat} : ∀ (ks : List Nat) (found : List (List Int)), (∀ k ∈ ks, k < q) → (∀ l ∈ found, goodL q l) → (∀ l ∈ ks.foldl coverStep found, goodL q l) ∧ (∀ l ∈ found, l ∈ ks.foldl coverStep found) ∧ (∀ k ∈ ks, ∃ l ∈ ks.foldl coverStep found, (k : Int) ∈ l) ∧ (ks.foldl coverStep found).length ≤ found.length + ks.length
  | [], found, _, h => ⟨h, fun l hl => hl, by simp, by simp⟩
  | k :: ks, found, hk, h => by
    have hkq := hk k (List.mem_cons_self ..)
    have hs : (∀ l ∈ coverStep found k, goodL q l) ∧ (∀ l ∈ found, l ∈ coverStep found k) ∧ (∃ l ∈ coverStep found k, (k : Int) ∈ l) ∧ (coverStep found k).length ≤ found.length + 1 := by
      unfold coverStep
      split
      · rename_i hc
        rw [List.any_eq_true] at hc
        obtain ⟨l, h1, h2⟩ := hc
        exact ⟨h, fun l hl => hl, ⟨l, h1, by simpa using h2⟩, by omega⟩
      · refine ⟨fun l hl => ?_, fun l hl => List.mem_append_left _ hl, ⟨[(k : Int)], by simp, by simp⟩, by simp⟩
        rcases List.mem_append.mp hl with hl | hl
        · exact h l hl
        · have := List.mem_singleton.mp hl
          subst this
          refine ⟨by simp, rfl, fun i hi => ?_⟩
          have := List.mem_singleton.mp hi
          omega
    obtain ⟨s1, s2, ⟨l0, s3, s3'⟩, s4⟩ := hs
    obtain ⟨g1, g2, g3, g4⟩ := cover_inv ks (coverStep found k) (fun k' h' => hk k' (List.mem_cons_of_mem _ h')) s1
    refine ⟨g1, fun l hl => g2 l (s2 l hl), fun k' hk' => ?_, ?_⟩
    · rcases List.mem_cons.mp hk' with rfl | hk'
      · exact ⟨l0, g2 l0 s3, s3'⟩
      · exact g3 k' hk'
    · rw [List.foldl_cons, List.length_cons]; omega
/-- a scene is drawn -/
theorem l_scene {most lots : Nat} (hp : PenOk pc ns N p) (hN : N ≤ 400000) (hq : 1 ≤ q) (hm2 : 2 ≤ most) (hm5 : most ≤ 5) (hl1 : 1 ≤ lots) (hql : q + lots ≤ 12) (hq9 : q ≤ 9) :
    ∃ (as : List Int) (ls : List (List Int)) (p' : Cell), ScOk as ls ∧ as.length = q ∧ (∀ a ∈ as, a ≤ (most : Int)) ∧ PenOk pc ns (N + 1000) p' ∧ F__law_scene pc [.ref 0, .int (q : Int), .int (most : Int), .int (lots : Int)] ⟨p :: r, o, v, m⟩ = .ok (.tup [tI as, tL ls]) ⟨p' :: r, o, v, m⟩ := by
  have hbq : big62 (q : Int) = true := big_nat (by omega)
  -- the answers
  obtain ⟨ys, S', e1, ⟨p1, hp1, hS⟩, e3, e4⟩ := lc_n (M := q) (it := iRg1 (.tup [.int (q : Int)])) (xs := rngL 0 q) (T := tgN 11) (C := evC (.bl true)) (E := E__law_scene_0 pc) (σ := [some (.ref 0), some (.int (q : Int)), some (.int (most : Int)), some (.int (lots : Int)), none, none, none, none, none, none, none, none, none])
    (fun n S => ∃ p, PenOk pc ns (N + n) p ∧ S = ⟨p :: r, o, v, none⟩) (fun y => ∃ i : Int, y = .int i ∧ 2 ≤ i ∧ i ≤ (most : Int)) (fun n S _ => by simp [hbq]) (rngL 0 q) 0 ⟨p :: r, o, v, none⟩ (by simp [rngL]) (fun d n S hd hn ⟨p, hp, hS⟩ => by
      subst hS
      obtain ⟨x, p', b1, b2, b3, b4⟩ := draw (many := (most : Int) - 1) (r := r) (o := o) (v := v) (m := none) hp (by omega) (by omega) (by omega)
      refine ⟨_, .int (2 + x), ⟨p' :: r, o, v, none⟩, rfl, by simp, ?_, ⟨p', b3.mono (by omega), rfl⟩, _, rfl, by omega, by omega⟩
      simp [E__law_scene_0, b4]) ⟨p, hp, rfl⟩
  subst hS
  have hys : ys.all (fun | .int i => (fun i => decide (2 ≤ i) && decide (i ≤ (most : Int))) i | _ => false) = true := by
    rw [List.all_eq_true]
    intro y hy
    obtain ⟨i, rfl, h1, h2⟩ := e4 y hy
    simp [h1, h2]
  obtain ⟨hz, hb⟩ := intsX_of (p := fun i => decide (2 ≤ i) && decide (i ≤ (most : Int))) hys
  have hzl : (intsX ys).length = q := by
    have : (intsX ys).length = ys.length := by conv => rhs; rw [hz]; simp
    rw [this, e3]; simp [rngL]
  have hbd : ∀ a ∈ intsX ys, 2 ≤ a ∧ a ≤ (most : Int) := fun a ha => by simpa using List.all_eq_true.mp hb a ha
  rw [hz] at e1
  generalize intsX ys = as at *
  -- how many lots
  obtain ⟨x, p2, c1, c2, c3, c4⟩ := draw (many := (lots : Int)) (r := r ++ [.lst []]) (o := o) (v := v) (m := none) hp1 (by omega) (by omega) (by omega)
  obtain ⟨w, w1, w2, hw⟩ : ∃ w : Nat, 1 ≤ w ∧ w ≤ lots ∧ 1 + x = (w : Int) := ⟨1 + x.toNat, by omega, by omega, by omega⟩
  rw [← sa_pen, ← sa_pen] at c4
  have hbw : big62 (w : Int) = true := big_nat (by omega)
  obtain ⟨σ1, S1, f1, p3, found, x6, x7, g1, g2, g3, g4, g5⟩ := for_n (it := iRg1 (.tup [.int (w : Int)])) (xs := rngL 0 w) (T := tgN 6) (B := L__law_scene_1 pc) (fun k : Nat => D.int (k : Int)) (fun (_ : Unit) _ => ())
    (fun n _ σ S => ∃ (p : Cell) (found : List (List Int)) (x6 x7 : Option D), PenOk pc ns (N + q + 1 + n * (1 + q)) p ∧ found.length = n ∧ (∀ l ∈ found, goodL q l) ∧ σ = [some (.ref 0), some (.int (q : Int)), some (.int (most : Int)), some (.int (lots : Int)), some (tI as), some (.ref (r.length + 1)), x6, x7, none, none, none, none, none] ∧ S = Sa ⟨p :: r, o, v, none⟩ [.lst (found.map tI)])
    (fun n b σ S _ => by simp [hbw]) (List.range w) () [some (.ref 0), some (.int (q : Int)), some (.int (most : Int)), some (.int (lots : Int)), some (tI as), some (.ref (r.length + 1)), none, none, none, none, none, none, none] (Sa ⟨p2 :: r, o, v, none⟩ [.lst []])
    (fun n _ k σ S _ hn ⟨p, found, x6, x7, h1, h2, h3, h4, h5⟩ => by
      subst h4 h5
      have hn : n < w := by simpa using hn
      have hnq : n * (1 + q) ≤ 12 * 10 := Nat.mul_le_mul (by omega) (by omega)
      obtain ⟨l, p', y7, b1, b2, b3⟩ := scn_lap (r := r) (o := o) (v := v) (a2 := .int (most : Int)) (a3 := .int (lots : Int)) (a4 := tI as) (found := found) (x6 := some (.int (k : Int))) (x7 := x7) h1 (by omega) hq hq9 (by omega)
      refine ⟨_, _, _, rfl, .inl b3, p', found ++ [l], _, _, b2.mono (by rw [Nat.succ_mul]; omega), by simp [h2], fun m hm => ?_, rfl, rfl⟩
      rcases List.mem_append.mp hm with hm | hm
      · exact h3 m hm
      · have := List.mem_singleton.mp hm
        subst this
        exact b1) ⟨p2, [], none, none, by simpa using c3, rfl, by simp, rfl, rfl⟩
  subst g4 g5
  rw [← rng_n'] at f1
  simp only [List.length_range] at g1 g2
  -- each question is in one
  obtain ⟨k1, k2, k3, k4⟩ := cover_inv (q := q) (List.range q) found (fun k hk => List.mem_range.mp hk) g3
  obtain ⟨σ2, S2, f2, x8, y6, y7, h4, h5⟩ := for_n (it := iRg1 (.tup [.int (q : Int)])) (xs := rngL 0 q) (T := tgN 8) (B := L__law_scene_3 pc) (fun k : Nat => D.int (k : Int)) coverStep
    (fun n found' σ S => ∃ (x8 x6 x7 : Option D), (found'.length ≤ found.length + n ∧ σ = [some (.ref 0), some (.int (q : Int)), some (.int (most : Int)), some (.int (lots : Int)), some (tI as), some (.ref (r.length + 1)), x6, x7, x8, none, none, none, none]) ∧ S = Sa ⟨p3 :: r, o, v, none⟩ [.lst (found'.map tI)])
    (fun n b σ S _ => by simp [hbq]) (List.range q) found [some (.ref 0), some (.int (q : Int)), some (.int (most : Int)), some (.int (lots : Int)), some (tI as), some (.ref (r.length + 1)), x6, x7, none, none, none, none, none] (Sa ⟨p3 :: r, o, v, none⟩ [.lst (found.map tI)])
    (fun n found' k σ S _ hn ⟨x8, x6, x7, ⟨h0, h1⟩, h2⟩ => by
      subst h1 h2
      have hn : n < q := by simpa using hn
      refine ⟨_, _, _, rfl, .inl (scn_cover (by omega)), _, _, _, ⟨?_, rfl⟩, rfl⟩
      unfold coverStep
      split
      · omega
      · simp; omega) ⟨none, x6, x7, ⟨by simp, rfl⟩, rfl⟩
  obtain ⟨_, h4⟩ := h4
  subst h4 h5
  rw [← rng_n'] at f2
  generalize hfo : (List.range q).foldl coverStep found = F at *
  have hFl : F.length ≤ 12 := by simp at k4; omega
  have ok : ScOk as (keepL F) := keep_ok (by omega) (by omega) (fun a ha => by have := hbd a ha; omega) (by rw [hzl]; exact k1) hFl (fun k hk => k3 k (List.mem_range.mpr (by omega)))
  have hFr : ∀ l ∈ F, l.length ≤ 1000 := fun l hl => by
    have := asc_len (k1 l hl).2.1 (k1 l hl).2.2
    omega
  -- the kept ones
  have hit2 : ∀ (K : List (List Int)), seqOf (.ref (r.length + 1)) (Sa ⟨p3 :: r, o, v, none⟩ [.lst (F.map tI), .lst (K.map tI)]) = some (F.map tI) := fun K => sa_seq (S := ⟨p3 :: r, o, v, none⟩) (L := [.lst (F.map tI), .lst (K.map tI)]) (n := r.length + 1) (i := 0) rfl rfl
  obtain ⟨σ3, S3, f3, x10, h6, h7⟩ := for_n (it := seqOf (.ref (r.length + 1))) (xs := F.map tI) (T := tgN 10) (B := L__law_scene_6 pc) tI (keepStep F)
    (fun n kept σ S => ∃ (x10 : Option D), (kept.length ≤ n ∧ σ = [some (.ref 0), some (.int (q : Int)), some (.int (most : Int)), some (.int (lots : Int)), some (tI as), some (.ref (r.length + 1)), y6, y7, x8, some (.ref (r.length + 2)), x10, none, none]) ∧ S = Sa ⟨p3 :: r, o, v, none⟩ [.lst (F.map tI), .lst (kept.map tI)])
    (fun n b σ S ⟨_, _, h⟩ => by subst h; exact hit2 b) F [] [some (.ref 0), some (.int (q : Int)), some (.int (most : Int)), some (.int (lots : Int)), some (tI as), some (.ref (r.length + 1)), y6, y7, x8, some (.ref (r.length + 2)), none, none, none] (Sa ⟨p3 :: r, o, v, none⟩ [.lst (F.map tI), .lst []])
    (fun n kept l σ S hl hn ⟨x10, ⟨h0, h1⟩, h2⟩ => by
      subst h1 h2
      refine ⟨_, _, _, rfl, .inl (scn_keep (by omega) (by omega) (hFr l hl)), _, ⟨?_, rfl⟩, rfl⟩
      unfold keepStep
      split
      · simp; omega
      · omega) ⟨none, ⟨Nat.le_refl _, rfl⟩, rfl⟩
  obtain ⟨_, h6⟩ := h6
  subst h6 h7
  have hkl : (F.foldl (keepStep F) []) = keepL F := rfl
  rw [hkl] at f3
  have hnew1 := sa_new0 (S := ⟨p1 :: r, o, v, none⟩) (xs := []) (by simp) (by simp)
  have hnew2 := sa_new (S := ⟨p3 :: r, o, v, none⟩) (L := [.lst (F.map tI)]) (xs := []) (by simp) (by simp)
  have hl0 : (⟨p1 :: r, o, v, none⟩ : Store).cs.length = r.length + 1 := rfl
  have hl2 : (⟨p3 :: r, o, v, none⟩ : Store).cs.length + ([Cell.lst (F.map tI)] : List Cell).length = r.length + 2 := rfl
  rw [hl0] at hnew1
  rw [hl2] at hnew2
  have happ2 : ([Cell.lst (F.map tI)] ++ [Cell.lst []] : List Cell) = [.lst (F.map tI), .lst []] := rfl
  rw [happ2] at hnew2
  have htup := sa_tup (S := ⟨p3 :: r, o, v, none⟩) (L := [.lst (F.map tI), .lst ((keepL F).map tI)]) (n := r.length + 2) (i := 1) (xs := (keepL F).map tI) rfl rfl
  have hseqF : seqOf (.ref (r.length + 1)) (Sa ⟨p3 :: r, o, v, none⟩ [.lst (F.map tI), .lst []]) = some (F.map tI) := hit2 []
  have hnq : w * (1 + q) ≤ 12 * 10 := Nat.mul_le_mul (by omega) (by omega)
  refine ⟨as, keepL F, p3, ok, hzl, fun a ha => (hbd a ha).2, g1.mono (by omega), ?_⟩
  have hitq : ∀ S, iRg1 (.tup [.int (q : Int)]) S = some (rngL 0 q) := fun S => by simp [hbq]
  have hitw : ∀ S, iRg1 (.tup [.int (w : Int)]) S = some (rngL 0 w) := fun S => by simp [hbw]
  have hkk : (keepL F).length ≤ 16777216 := by have := ok.l12; omega
  have e4 : startD 13 [D.ref 0, D.int (q : Int), D.int (most : Int), D.int (lots : Int)] = [some (.ref 0), some (.int (q : Int)), some (.int (most : Int)), some (.int (lots : Int)), none, none, none, none, none, none, none, none, none] := rfl
  have le2 : 0 + 1 + 1 ≤ 16777216 := by decide
  have htI : D.tup (as.map D.int) = tI as := rfl
  have hta : ∀ S, dTuple (.lst (as.map .int)) S = .ok (tI as) S := fun S => by
    show mkT _ S = _
    rw [mkT_e, if_pos (by rw [List.length_map]; omega)]
    rfl
  have hpl : D.tup ((keepL F).map tI) = tL (keepL F) := rfl
  have e5 : M__law_scene pc (startD 13 [D.ref 0, D.int (q : Int), D.int (most : Int), D.int (lots : Int)]) ⟨p :: r, o, v, none⟩ = .rt (.tup [tI as, tL (keepL F)]) (Sa ⟨p3 :: r, o, v, none⟩ [.lst (F.map tI), .lst ((keepL F).map tI)]) := by
    rw [e4]
    unfold M__law_scene
    simp only [q_seq, q_set, q_if, q_expr, q_ret, q_nil, p_A, p_B, kB_e, p_U, p_cons, p_nil, kCons_e, kTup_e, bind_ok, bindA_ok, p_var, p_c, p_lc, kLc_e, p_one, p_two, p_repr1, p_callF, List.getElem?_cons_succ, List.getElem?_cons_zero, List.append_nil, List.length_cons, List.length_nil, if_true, go_ok, kSet_e, seq_nx, kSIf_t, kSIf_f, kRet_e, kExpr_e, p_orT, kOrT_t, kOrT_f, p_andT, kAndT_t, kAndT_f, seq_l, seq_t, wipeD, List.set_cons_succ, List.set_cons_zero, List.foldl_cons, List.foldl_nil, mkL_f, mkT_e, List.length_map, tup_t, len_t, len_l, add_i, sub_i, ne_ss, ne_i, eq_i, hitq, e1, hzl, show q ≤ 16777216 by omega, hta, hnew1, c4, hw, q_for, kFor_e, hitw, f1, f2, hnew2, hseqF, f3, htup, hkk, le2]
    first | done | rfl
  have hf : F__law_scene pc [.ref 0, .int (q : Int), .int (most : Int), .int (lots : Int)] ⟨p :: r, o, v, m⟩ = fin ⟨p :: r, o, v, m⟩ (.tup [tI as, tL (keepL F)]) (Sa ⟨p3 :: r, o, v, none⟩ [.lst (F.map tI), .lst ((keepL F).map tI)]) := by
    simp only [F__law_scene, runF, ent_mk, e5, end_rt]
  rw [hf]
  have hpp : (D.tup [tI as, tL (keepL F)]).pure = true := by simp
  simp [fin, hpp, OsOk, Store.ret, Sa]
end
end Lw
end

section
set_option maxHeartbeats 4000000
namespace Lw
open PySem PySem.Spec PyProof.Rows L2 Ev
open Classical
theorem lenDs_of : ∀ {xs : List D}, (∀ x ∈ xs, lenD x = true) → lenDs xs = true
  | [], _ => rfl
  | x :: xs, h => by simp [lenDs, h x (List.mem_cons_self ..), lenDs_of fun y hy => h y (List.mem_cons_of_mem _ hy)]
theorem depDs_le {n : Nat} : ∀ {xs : List D}, (∀ x ∈ xs, depD x ≤ n) → depDs xs ≤ n
  | [], _ => Nat.zero_le _
  | x :: xs, h => by
    have h1 := h x (List.mem_cons_self ..)
    have h2 := depDs_le fun y hy => h y (List.mem_cons_of_mem _ hy)
    simp [depDs]; omega
section
variable {S : Store} {as : List Int} {ls : List (List Int)}
theorem l_lot_rows (ok : ScOk as ls) {l : List Int} (hl : l ∈ ls) : F__law_lot_rows [tI as, tI l] S = .ok (.lst ((rowsL (lotA as l)).map tI)) S := by
  obtain ⟨h1, h2, h3, _⟩ := lot_prod ok hl
  have hr := (ok.lr _ hl).2.2
  have h9 := ok.ll _ hl
  have e := lc_g (C := evC (.bl true)) (E := E__law_lot_rows_0) (T := tgN 2) (σ := [some (tI as), some (tI l), none]) (S := S.ent) (it := seqOf (tI l)) (xs := l.map D.int) (fun i => D.int i) (fun i => D.int (as.getD i.toNat 0)) rfl l fun i hi => by
    have := hr i hi
    have h := ix_as (S := S.ent) (as := as) this.1 this.2
    exact ⟨_, rfl, by simp, by simp [E__law_lot_rows_0, h, -ix_i]⟩
  rw [show l.map (fun i => D.int i) = l.map D.int from rfl, show l.map (fun i => D.int (as.getD i.toNat 0)) = (lotA as l).map D.int by simp [Function.comp_def]] at e
  have er : ∀ S, F__law_rows [lI (lotA as l)] S = _ := fun S => f_all_rows (S := S) (d := lI (lotA as l)) (ms := lotA as l) (fun _ => rfl) h1 (by omega) h3 (fun S n => frz_pu (by simp))
  have hpu : D.pures ((rowsL (lotA as l)).map tI) = true := pures_iff.mpr fun x hx => by
    obtain ⟨r, _, rfl⟩ := List.mem_map.mp hx
    simp
  have e4 : startD 3 [tI as, tI l] = [some (tI as), some (tI l), none] := rfl
  have hli : D.lst ((lotA as l).map D.int) = lI (lotA as l) := rfl
  have e5 : M__law_lot_rows (startD 3 [tI as, tI l]) S.ent = .rt (.lst ((rowsL (lotA as l)).map tI)) S.ent := by
    rw [e4]
    unfold M__law_lot_rows
    simp only [q_seq, q_set, q_if, q_expr, q_ret, q_nil, p_A, p_B, kB_e, p_U, p_cons, p_nil, kCons_e, kTup_e, bind_ok, bindA_ok, p_var, p_c, p_lc, kLc_e, p_one, p_two, p_repr1, p_callF, List.getElem?_cons_succ, List.getElem?_cons_zero, List.append_nil, List.length_cons, List.length_nil, if_true, go_ok, kSet_e, seq_nx, kSIf_t, kSIf_f, kRet_e, kExpr_e, p_orT, kOrT_t, kOrT_f, p_andT, kAndT_t, kAndT_f, seq_l, seq_t, wipeD, List.set_cons_succ, List.set_cons_zero, List.foldl_cons, List.foldl_nil, mkL_f, mkT_e, List.length_map, tup_l, tup_t, len_t, len_l, add_i, sub_i, ne_ss, ne_i, eq_i, seq_tI, e, show l.length ≤ 16777216 by omega, hli, er]
  simp only [F__law_lot_rows, runF, e5, end_rt]
  exact fin_pu (by simpa using hpu)
theorem l_seen (ok : ScOk as ls) {l p : List Int} (hl : l ∈ ls) (hp : p.length = as.length) : F__law_seen [tI p, tI l] S = .ok (tI (seenL p l)) S := by
  have hr := (ok.lr _ hl).2.2
  have h9 := ok.ll _ hl
  have e := lc_g (C := evC (.bl true)) (E := E__law_seen_0) (T := tgN 2) (σ := [some (tI p), some (tI l), none]) (S := S.ent) (it := seqOf (tI l)) (xs := l.map D.int) (fun i => D.int i) (fun i => D.int (p.getD i.toNat 0)) rfl l fun i hi => by
    have := hr i hi
    have h := ix_as (S := S.ent) (as := p) this.1 (by omega)
    exact ⟨_, rfl, by simp, by simp [E__law_seen_0, h, -ix_i]⟩
  rw [show l.map (fun i => D.int i) = l.map D.int from rfl, show l.map (fun i => D.int (p.getD i.toNat 0)) = (seenL p l).map D.int by simp [Function.comp_def]] at e
  have e4 : startD 3 [tI p, tI l] = [some (tI p), some (tI l), none] := rfl
  have e5 : M__law_seen (startD 3 [tI p, tI l]) S.ent = .rt (tI (seenL p l)) S.ent := by
    rw [e4]
    unfold M__law_seen
    simp only [q_seq, q_set, q_if, q_expr, q_ret, q_nil, p_A, p_B, kB_e, p_U, p_cons, p_nil, kCons_e, kTup_e, bind_ok, bindA_ok, p_var, p_c, p_lc, kLc_e, p_one, p_two, p_repr1, p_callF, List.getElem?_cons_succ, List.getElem?_cons_zero, List.append_nil, List.length_cons, List.length_nil, if_true, go_ok, kSet_e, seq_nx, kSIf_t, kSIf_f, kRet_e, kExpr_e, p_orT, kOrT_t, kOrT_f, p_andT, kAndT_t, kAndT_f, seq_l, seq_t, wipeD, List.set_cons_succ, List.set_cons_zero, List.foldl_cons, List.foldl_nil, mkL_f, mkT_e, List.length_map, tup_l, tup_t, len_t, len_l, add_i, sub_i, ne_ss, ne_i, eq_i, seq_tI, e, show l.length ≤ 16777216 by omega]
    first | done | rfl
  simp only [F__law_seen, runF, e5, end_rt]
  exact fin_pu (by simp)
theorem ScOk.rev (ok : ScOk as ls) : ScOk as ls.reverse := by
  refine ⟨ok.a1, ok.a9, ok.a5, by rw [List.length_reverse]; exact ok.l1, by rw [List.length_reverse]; exact ok.l12, fun l hl => ok.lr l (List.mem_reverse.mp hl), ?_, ?_⟩
  · have h := ok.wi
    rw [List.any_eq_false] at h ⊢
    intro i hi
    have hi := List.mem_range.mp hi
    rw [List.length_reverse] at hi
    unfold withinAt
    rw [Bool.not_eq_true, List.any_eq_false]
    intro j hj
    have hj := List.mem_range.mp hj
    rw [List.length_reverse] at hj
    have h1 := h (ls.length - 1 - i) (List.mem_range.mpr (by omega))
    unfold withinAt at h1
    rw [Bool.not_eq_true, List.any_eq_false] at h1
    have h2 := h1 (ls.length - 1 - j) (List.mem_range.mpr (by omega))
    have ei : ∀ k, k < ls.length → ls.reverse.getD k [] = ls.getD (ls.length - 1 - k) [] := fun k hk => by
      simp [List.getD_eq_getElem?_getD, List.getElem?_reverse hk]
    rw [ei i hi, ei j hj]
    intro hc
    apply h2
    simp only [Bool.and_eq_true, decide_eq_true_eq] at hc ⊢
    exact ⟨by omega, hc.2⟩
  · have h := ok.co
    unfold covers at h ⊢
    rw [List.all_eq_true] at h ⊢
    intro k hk
    have := h k hk
    rw [List.any_eq_true] at this ⊢
    obtain ⟨l, h1, h2⟩ := this
    exact ⟨l, List.mem_reverse.mpr h1, h2⟩
theorem ind_tI (s : List Int) (h : s.length ≤ 1000) : InD (tI s) ∧ InD (lI s) ∧ inT (tI s) = tI s ∧ inT (lI s) = tI s := by
  have h1 := dats_ints s
  have h2 := dep_ints s
  have h3 := len_ints s
  have h4 : inT (tI s) = tI s := by simp [tI, inT, inT_ints]
  have h5 : inT (lI s) = tI s := by simp [lI, tI, inT, inT_ints]
  have g1 : (tI s).dat = true := by simp [tI, h1]
  have g2 : depD (tI s) < 12 := by simp [tI, depD, h2]
  have g3 : lenD (tI s) = true := by simp [tI, lenD, h3]; omega
  refine ⟨⟨g1, g2, g3, by rw [h4]; exact g1, by rw [h4]; exact g3⟩, ⟨by simp [lI, h1], by simp [lI, depD, h2], by simp [lI, lenD, h3]; omega, by rw [h5]; exact g1, by rw [h5]; exact g3⟩, h4, h5⟩
theorem ind_tL (ls : List (List Int)) (h : ls.length ≤ 1000) (hl : ∀ l ∈ ls, l.length ≤ 1000) : InD (tL ls) ∧ InD (.lst (ls.map lI)) ∧ inT (tL ls) = tL ls ∧ inT (.lst (ls.map lI)) = tL ls := by
  have f1 : ∀ x ∈ ls.map tI, x.dat = true ∧ depD x < 12 ∧ lenD x = true := fun x hx => by
    obtain ⟨l, hm, rfl⟩ := List.mem_map.mp hx
    have := (ind_tI l (hl l hm)).1
    exact ⟨this.dat, this.dep, this.len⟩
  have f2 : ∀ x ∈ ls.map lI, x.dat = true ∧ lenD x = true := fun x hx => by
    obtain ⟨l, hm, rfl⟩ := List.mem_map.mp hx
    have := (ind_tI l (hl l hm)).2.1
    exact ⟨this.dat, this.len⟩
  have d1 : D.dats (ls.map tI) = true := dats_iff.mpr fun x hx => (f1 x hx).1
  have d2 : D.dats (ls.map lI) = true := dats_iff.mpr fun x hx => (f2 x hx).1
  have l1 : lenDs (ls.map tI) = true := lenDs_of fun x hx => (f1 x hx).2.2
  have l2 : lenDs (ls.map lI) = true := lenDs_of fun x hx => (f2 x hx).2
  have p1 : depDs (ls.map tI) ≤ 1 := depDs_le fun x hx => by
    obtain ⟨l, hm, rfl⟩ := List.mem_map.mp hx
    simp [tI, depD, dep_ints]
  have p2 : depDs (ls.map lI) ≤ 1 := depDs_le fun x hx => by
    obtain ⟨l, hm, rfl⟩ := List.mem_map.mp hx
    simp [lI, depD, dep_ints]
  have h4 : inT (tL ls) = tL ls := by
    simp only [tL, inT, inTs_map, List.map_map]
    congr 1
    apply List.map_congr_left
    intro l hm
    exact (ind_tI l (hl l hm)).2.2.1
  have h5 : inT (.lst (ls.map lI)) = tL ls := by
    simp only [tL, inT, inTs_map, List.map_map]
    congr 1
    apply List.map_congr_left
    intro l hm
    exact (ind_tI l (hl l hm)).2.2.2
  have g1 : (tL ls).dat = true := by simp [tL, d1]
  have g3 : lenD (tL ls) = true := by simp [tL, lenD, l1]; omega
  exact ⟨⟨g1, by simp [tL, depD]; omega, g3, by rw [h4]; exact g1, by rw [h4]; exact g3⟩, ⟨by simp [d2], by simp [depD]; omega, by simp [lenD, l2]; omega, by rw [h5]; exact g1, by rw [h5]; exact g3⟩, h4, h5⟩
theorem mk_ok {cs : List Cell} {v : List (Option D)} {m : Option Nat} {a l : D} (ok : ScOk as ls) (ha : InD a) (hl : InD l) (ea : inT a = tI as) (el : inT l = tL ls) : mkI "Scene" 3 F_Scene___init__ [a, l] ⟨cs, [], v, m⟩ = .ok (scn as ls) ⟨cs, [], v, m⟩ := by
  have hA := ok.ans
  have hL := ok.arl
  have ht : tupLen (tI as) = as.length := by simp [tI, tupLen]
  rw [mk_scene (fun c h => by simp at h) ha hl, ea, el, if_pos hA, ht, if_pos hL]
end
end Lw
end

section
set_option maxHeartbeats 4000000
namespace Lw
open PySem PySem.Spec PyProof.Rows L2 Ev
open Classical
theorem rg_ints {r : List Int} (hl : r.length ≤ 20) (hb : ∀ i ∈ r, i.natAbs ≤ 1000) : RG 38643 2 (tI r) := by
  have := RG.tup (c := 1930) (k := 1) (n := 20) (xs := r.map D.int) (fun x hx => by
    obtain ⟨i, hi, rfl⟩ := List.mem_map.mp hx
    exact RG.int (log_small (n := 20) (by have := hb i hi; omega))) (by simpa using hl)
  exact this
theorem rg_lots {rs : List (List Int)} (hn : rs.length ≤ 400) (h : ∀ r ∈ rs, r.length ≤ 20 ∧ ∀ i ∈ r, i.natAbs ≤ 1000) : RG 15458003 3 (tL rs) := by
  have := RG.tup (c := 38643) (k := 2) (n := 400) (xs := rs.map tI) (fun x hx => by
    obtain ⟨r, hr, rfl⟩ := List.mem_map.mp hx
    exact rg_ints (h r hr).1 (h r hr).2) (by simpa using hn)
  exact this
theorem rg_lots20 {rs : List (List Int)} (hn : rs.length ≤ 20) (h : ∀ r ∈ rs, r.length ≤ 20 ∧ ∀ i ∈ r, i.natAbs ≤ 1000) : RG 772903 3 (tL rs) := by
  have := RG.tup (c := 38643) (k := 2) (n := 20) (xs := rs.map tI) (fun x hx => by
    obtain ⟨r, hr, rfl⟩ := List.mem_map.mp hx
    exact rg_ints (h r hr).1 (h r hr).2) (by simpa using hn)
  exact this
theorem rg_str {x : Str} {c : Nat} (h : (reprText x).length ≤ c) : RG c 1 (.str x) := ⟨by simp [isData], by simp [py, PyData.showable], by simp [py, PyData.depth], by simp only [py, costP]; exact h⟩
theorem rep3 {a b : Str} {d : D} {c k : Nat} (ha : (reprText a).length ≤ 100) (hb : (reprText b).length ≤ 100) (h : RG c k d) (hc : c ≤ 5000000) (hk : k ≤ 60) : okRepr (.tup [.str a, .str b, d]) = true := by
  have := RG.tup (c := 5000000) (k := 60) (n := 3) (xs := [.str a, .str b, d]) (fun x hx => by
    simp only [List.mem_cons, List.not_mem_nil, or_false] at hx
    rcases hx with rfl | rfl | rfl
    · exact (rg_str ha).mono (by decide) (by decide)
    · exact (rg_str hb).mono (by decide) (by decide)
    · exact h.mono hc hk) (by simp)
  exact this.ok
theorem rep2 {a : Str} {d : D} {c k : Nat} (ha : (reprText a).length ≤ 100) (h : RG c k d) (hc : c ≤ 5000000) (hk : k ≤ 60) : okRepr (.tup [.str a, d]) = true := by
  have := RG.tup (c := 5000000) (k := 60) (n := 2) (xs := [.str a, d]) (fun x hx => by
    simp only [List.mem_cons, List.not_mem_nil, or_false] at hx
    rcases hx with rfl | rfl
    · exact (rg_str ha).mono (by decide) (by decide)
    · exact h.mono hc hk) (by simp)
  exact this.ok
theorem rep2' {a b : D} {c k : Nat} (h1 : RG c k a) (h2 : RG c k b) (hc : c ≤ 5000000) (hk : k ≤ 60) : okRepr (.tup [a, b]) = true := by
  have := RG.tup (c := 5000000) (k := 60) (n := 2) (xs := [a, b]) (fun x hx => by
    simp only [List.mem_cons, List.not_mem_nil, or_false] at hx
    rcases hx with rfl | rfl
    · exact h1.mono hc hk
    · exact h2.mono hc hk) (by simp)
  exact this.ok
abbrev badAs : List D := [.non, .tup [], .tup [.int 1], .tup [.int 6], .tup [.int 2, .int 2, .int 2, .int 2, .int 2, .int 2, .int 2, .int 2, .int 2, .int 2], .tup [.bl true, .int 2], .tup [.str "2"], .int 5]
theorem badA_all : ∀ d ∈ badAs, InD d ∧ ansD (inT d) = false ∧ okRepr (.tup [.str "scene", .str "answers", d]) = true := by
  intro d hd
  simp only [badAs, List.mem_cons, List.not_mem_nil, or_false] at hd
  rcases hd with rfl | rfl | rfl | rfl | rfl | rfl | rfl | rfl
  all_goals exact ⟨⟨by simp, by decide +kernel, by decide +kernel, by simp [inT, inTs], by decide +kernel⟩, by decide +kernel, by kernel_rfl⟩
section
variable {as : List Int} {ls : List (List Int)}
theorem arl_eq (q : Nat) (ms : List (List Int)) : arlD q (tL ms) = ((decide (1 ≤ ms.length) && decide (ms.length ≤ 12)) && ((ms.map tI).all (fun x => islD q x && neD x) && (!(List.range ms.length).any (withinAt ms) && covers q ms))) := by
  simp only [tL, arlD, lotsX_map, List.length_map]
theorem arl_item {q : Nat} {ms : List (List Int)} {l : List Int} (hl : l ∈ ms) (h : islD q (tI l) = false) : arlD q (tL ms) = false := by
  rw [arl_eq]
  have : (ms.map tI).all (fun x => islD q x && neD x) = false := by
    rw [List.all_eq_false]
    exact ⟨tI l, List.mem_map.mpr ⟨l, hl, rfl⟩, by simp [h]⟩
  simp [this]
theorem arl_within {q : Nat} {ms : List (List Int)} {i : Nat} (hi : i < ms.length) (h : withinAt ms i = true) : arlD q (tL ms) = false := by
  rw [arl_eq]
  have : (List.range ms.length).any (withinAt ms) = true := List.any_eq_true.mpr ⟨i, List.mem_range.mpr hi, h⟩
  simp [this]
theorem arl_cover {q : Nat} {ms : List (List Int)} (h : covers q ms = false) : arlD q (tL ms) = false := by
  rw [arl_eq, h]
  simp
theorem isl_bad {q : Nat} {l : List Int} {i : Int} (hi : i ∈ l) (h : ¬ (0 ≤ i ∧ i < (q : Int))) : islD q (tI l) = false := by
  have : (l.map D.int).all (inQ q) = false := by
    rw [List.all_eq_false]
    refine ⟨.int i, List.mem_map.mpr ⟨i, hi, rfl⟩, ?_⟩
    simp only [inQ, Bool.and_eq_true, decide_eq_true_eq]
    exact h
  simp only [tI, islD, this, Bool.false_and]
theorem isl_asc {q : Nat} {l : List Int} (h : asc l = false) : islD q (tI l) = false := by
  simp only [tI, islD, intsX_map, h, Bool.and_false]
/-- a value of which no lots are made -/
structure OddL (q : Nat) (d : D) : Prop where
  ind : InD d
  bad : arlD q (inT d) = false
  rep : okRepr (.tup [.str "scene", .str "lots", d]) = true
theorem odd_tL {q : Nat} {ms : List (List Int)} (hn : ms.length ≤ 20) (h : ∀ r ∈ ms, r.length ≤ 20 ∧ ∀ i ∈ r, i.natAbs ≤ 1000) (hb : arlD q (tL ms) = false) : OddL q (tL ms) := by
  obtain ⟨h1, _, h3, _⟩ := ind_tL ms (by omega) (fun l hl => by have := (h l hl).1; omega)
  exact ⟨h1, by rw [h3]; exact hb, rep3 (by decide +kernel) (by decide +kernel) (rg_lots20 hn h) (by decide) (by decide)⟩
theorem odd_dat {q : Nat} {d : D} (h1 : d.dat = true) (h2 : depD d < 12) (h3 : lenD d = true) (h4 : (inT d).dat = true) (h5 : lenD (inT d) = true) (hb : arlD q (inT d) = false) (hr : okRepr (.tup [.str "scene", .str "lots", d]) = true) : OddL q d := ⟨⟨h1, h2, h3, h4, h5⟩, hb, hr⟩
theorem lots_sm (ok : ScOk as ls) : ∀ l ∈ ls, l.length ≤ 20 ∧ ∀ i ∈ l, i.natAbs ≤ 1000 := fun l hl => ⟨by have := ok.ll l hl; omega, fun i hi => by have := (ok.lr l hl).2.2 i hi; have := ok.a9; omega⟩
/-- the first lot -/
theorem first_lot (ok : ScOk as ls) : ∃ a l r, ls = (a :: l) :: r := by
  cases ls with
  | nil => have := ok.l1; simp at this
  | cons x r =>
    have := (ok.lr x (List.mem_cons_self ..)).1
    cases x with
    | nil => exact absurd rfl this
    | cons a l => exact ⟨a, l, r, rfl⟩
abbrev odd1 (as : List Int) (ls : List (List Int)) : List D := [.non, .tup [], .tup [.tup []], tL (ls ++ [[(as.length : Int)]]), tL (ls ++ ls.take 1), .tup [.tup [.int (-1)]], .int 5, .tup [.int 0], tL (ls ++ [(ls.getD 0 []).take 1]), .tup [.tup [.bl true]]]
abbrev odd2 (ls : List (List Int)) : List D := [.tup [.tup [.int 0]], .tup [.tup [.int 1, .int 0]], tL (ls ++ [[0, 0]])]
theorem odd1_all (ok : ScOk as ls) : ∀ d ∈ odd1 as ls, OddL as.length d := by
  obtain ⟨a, l, r, hls⟩ := first_lot ok
  have hsm := lots_sm ok
  have h9 := ok.a9
  have h12 := ok.l12
  have hap : ∀ (x : List Int), (x.length ≤ 20 ∧ ∀ i ∈ x, i.natAbs ≤ 1000) → ∀ l ∈ ls ++ [x], l.length ≤ 20 ∧ ∀ i ∈ l, i.natAbs ≤ 1000 := fun x hx l hl => by
    rcases List.mem_append.mp hl with z | z
    · exact hsm l z
    · rw [List.mem_singleton.mp z]; exact hx
  intro d hd
  simp only [odd1, List.mem_cons, List.not_mem_nil, or_false] at hd
  rcases hd with rfl | rfl | rfl | rfl | rfl | rfl | rfl | rfl | rfl | rfl
  · exact odd_dat (by simp) (by decide +kernel) (by decide +kernel) (by simp [inT]) (by decide +kernel) rfl (by kernel_rfl)
  · exact odd_dat (by simp) (by decide +kernel) (by decide +kernel) (by simp [inT, inTs]) (by decide +kernel) (by simp [inT, inTs, arlD]) (by kernel_rfl)
  · exact odd_dat (by simp) (by decide +kernel) (by decide +kernel) (by simp [inT, inTs]) (by decide +kernel) (by simp [inT, inTs, arlD, neD]) (by kernel_rfl)
  · exact odd_tL (by simp; omega) (hap _ ⟨by simp, fun i hi => by simp at hi; omega⟩) (arl_item (l := [(as.length : Int)]) (by simp) (isl_bad (i := (as.length : Int)) (by simp) (by omega)))
  · refine odd_tL (by rw [hls]; simp; rw [hls] at h12; simp at h12; omega) (fun l hl => ?_) (arl_within (i := 0) (by rw [hls]; simp) ?_)
    · rcases List.mem_append.mp hl with z | z
      · exact hsm l z
      · exact hsm l (List.mem_of_mem_take z)
    · unfold withinAt
      rw [List.any_eq_true]
      refine ⟨ls.length, List.mem_range.mpr (by rw [hls]; simp), ?_⟩
      have e1 : (ls ++ ls.take 1).getD ls.length [] = a :: l := by rw [hls]; simp [List.getD_eq_getElem?_getD]
      have e0 : (ls ++ ls.take 1).getD 0 [] = a :: l := by rw [hls]; simp
      rw [e1, e0]
      have hne : (0 : Nat) ≠ ls.length := by rw [hls]; simp
      simp [hne]
      intro x hx; exact .inr hx
  · exact odd_tL (ms := [[-1]]) (by simp) (by simp) (arl_item (l := [-1]) (by simp) (isl_bad (i := -1) (by simp) (by omega)))
  · exact odd_dat (by simp) (by decide +kernel) (by decide +kernel) (by simp [inT]) (by decide +kernel) rfl (by kernel_rfl)
  · exact odd_dat (by simp) (by decide +kernel) (by decide +kernel) (by simp [inT, inTs]) (by decide +kernel) (by simp [inT, inTs, arlD, islD]) (by kernel_rfl)
  · have e0 : ls.getD 0 [] = a :: l := by rw [hls]; rfl
    rw [e0]
    have ha := (hsm (a :: l) (by rw [hls]; simp)).2 a (by simp)
    refine odd_tL (by simp; omega) (hap _ ⟨by simp, fun i hi => by simp at hi; rw [hi]; exact ha⟩) (arl_within (i := ls.length) (by simp) ?_)
    unfold withinAt
    rw [List.any_eq_true]
    refine ⟨0, List.mem_range.mpr (by simp), ?_⟩
    have e1 : (ls ++ [(a :: l).take 1]).getD ls.length [] = [a] := by simp [List.getD_eq_getElem?_getD]
    have e2 : (ls ++ [(a :: l).take 1]).getD 0 [] = a :: l := by rw [hls]; simp
    rw [e1, e2]
    have hne : ls.length ≠ 0 := by rw [hls]; simp
    simp [hne]
  · exact odd_dat (by simp) (by decide +kernel) (by decide +kernel) (by simp [inT, inTs]) (by decide +kernel) (by simp [inT, inTs, arlD, islD, inQ]) (by kernel_rfl)
theorem odd2_all (ok : ScOk as ls) (h : 1 < as.length) : ∀ d ∈ odd2 ls, OddL as.length d := by
  have hsm := lots_sm ok
  have h12 := ok.l12
  intro d hd
  simp only [odd2, List.mem_cons, List.not_mem_nil, or_false] at hd
  rcases hd with rfl | rfl | rfl
  · refine odd_tL (ms := [[0]]) (by simp) (by simp) (arl_cover ?_)
    unfold covers
    rw [List.all_eq_false]
    exact ⟨1, List.mem_range.mpr h, by simp⟩
  · exact odd_tL (ms := [[1, 0]]) (by simp) (by simp) (arl_item (l := [1, 0]) (by simp) (isl_asc (by decide)))
  · refine odd_tL (by simp; omega) (fun l hl => ?_) (arl_item (l := [0, 0]) (by simp) (isl_asc (by decide)))
    rcases List.mem_append.mp hl with z | z
    · exact hsm l z
    · rw [List.mem_singleton.mp z]; simp
end
end Lw
end

section
set_option maxHeartbeats 4000000
namespace Lw
open PySem PySem.Spec PyProof.Rows L2 Ev
open Classical
def sgn (r : List Int) : List Int := r.map fun b => 2 * b - 1
def negs (r : List Int) : Nat := (r.filter fun i => decide (i = -1)).length
def allS (n : Nat) : List (List Int) := ((rowsL (List.replicate n 2)).map sgn).filter fun r => decide (negs r % 2 = 1)
/-- rows of numbers below a bound -/
def smR (n : Nat) (B : Nat) (r : List Int) : Prop := r.length ≤ n ∧ ∀ i ∈ r, i.natAbs ≤ B
section
variable {S : Store} {a0 a1 a2 a3 : Option D} {r : List Int}
theorem sgn_row (h : smR 1000 1000 r) : E_all_signs_1 [a0, a1, some (tI r), none, none] S = .ok (tI (sgn r)) S := by
  obtain ⟨h1, h2⟩ := h
  have e := lc_g (C := evC (.bl true)) (E := E_all_signs_0) (T := tgN 3) (σ := [a0, a1, some (tI r), none, none]) (S := S) (it := seqOf (tI r)) (xs := r.map D.int) (fun i => D.int i) (fun i => D.int (2 * i - 1)) rfl r fun i hi => by
    have := h2 i hi
    have e2 := mul_small (own := false) (S := S) (i := 2) (j := i) (by decide) (by omega)
    exact ⟨_, rfl, by simp, by simp [E_all_signs_0, e2, -mul_i]⟩
  have h3 : r.length ≤ 16777216 := by omega
  simp [tI] at e
  simp [E_all_signs_1, tI, wipeD, e, h3, sgn]
theorem neg_row (hl : r.length ≤ 1000) : C_all_signs_4 [a0, a1, some (tI r), a3, none] S = .ok (.bl (decide (negs r % 2 = 1))) S := by
  have e := lc_f (C := C_all_signs_2) (E := E_all_signs_3) (T := tgN 4) (σ := [a0, a1, some (tI r), a3, none]) (S := S) (it := seqOf (tI r)) (xs := r.map D.int) (fun i => D.int i) (fun i => D.int i) (fun i => decide (i = -1)) rfl r fun i hi => by
    exact ⟨_, rfl, by simp [C_all_signs_2], by simp [E_all_signs_3]⟩
  have h3 : (r.filter fun i => decide (i = -1)).length ≤ 16777216 := Nat.le_trans (List.length_filter_le _ _) (by omega)
  simp [tI] at e
  simp [C_all_signs_4, tI, wipeD, e, h3, negs]
  exact decide_eq_decide.mpr (by omega)
theorem rows_len : ∀ (ms : List Int) (out : List (List Int)) (k : Nat), (∀ r ∈ out, r.length = k) → ∀ r ∈ ms.foldl (fun out m => out.flatMap (extL m)) out, r.length = k + ms.length
  | [], out, k, h, r, hr => by simpa using h r hr
  | m :: ms, out, k, h, r, hr => by
    have := rows_len ms (out.flatMap (extL m)) (k + 1) (fun s hs => by
      obtain ⟨t, h1, h2⟩ := List.mem_flatMap.mp hs
      rw [ext_len h2, h t h1]) r hr
    rw [this, List.length_cons]; omega
theorem rows_bd {B : Nat} : ∀ (ms : List Int) (out : List (List Int)), (∀ m ∈ ms, m.toNat ≤ B) → (∀ r ∈ out, ∀ i ∈ r, 0 ≤ i ∧ i < B) → ∀ r ∈ ms.foldl (fun out m => out.flatMap (extL m)) out, ∀ i ∈ r, 0 ≤ i ∧ i < B
  | [], out, _, h, r, hr => h r hr
  | m :: ms, out, hm, h, r, hr => by
    refine rows_bd ms (out.flatMap (extL m)) (fun m' h' => hm m' (List.mem_cons_of_mem _ h')) (fun s hs => ?_) r hr
    obtain ⟨t, h1, h2⟩ := List.mem_flatMap.mp hs
    simp [extL] at h2
    obtain ⟨a, ha, rfl⟩ := h2
    intro i hi
    rcases List.mem_append.mp hi with hi | hi
    · exact h t h1 i hi
    · simp at hi
      have := hm m (List.mem_cons_self ..)
      omega
theorem rowsL_len {ms : List Int} {r : List Int} (h : r ∈ rowsL ms) : r.length = ms.length := by
  have := rows_len ms [[]] 0 (by simp) r h
  omega
theorem rowsL_bd {ms : List Int} {B : Nat} (hm : ∀ m ∈ ms, m.toNat ≤ B) {r : List Int} (h : r ∈ rowsL ms) : ∀ i ∈ r, 0 ≤ i ∧ i < B := rows_bd ms [[]] hm (by simp) r h
theorem rowsL_cnt : ∀ (ms : List Int) (out : List (List Int)), (ms.foldl (fun out m => out.flatMap (extL m)) out).length = out.length * prodN ms
  | [], out => by simp [prodN]
  | m :: ms, out => by
    rw [List.foldl_cons, rowsL_cnt ms, flat_len]
    show _ = out.length * (m.toNat * prodN ms)
    rw [Nat.mul_assoc]
theorem prod_rep (n : Nat) : prodN (List.replicate n 2) = 2 ^ n := by
  induction n with
  | zero => rfl
  | succ n ih => rw [List.replicate_succ]; show (2 : Int).toNat * prodN (List.replicate n 2) = _; rw [ih, Nat.pow_succ]; show 2 * _ = _; omega
theorem f_rows2 {n : Nat} (hn : n ≤ 20) : F_all_rows [.tup (List.replicate n (.int 2))] S = .ok (.lst ((rowsL (List.replicate n 2)).map tI)) S := by
  have hp : 2 ^ n ≤ 2 ^ 20 := Nat.pow_le_pow_right (by decide) hn
  refine f_all_rows (ms := List.replicate n 2) (fun S => by simp) (fun m hm => ?_) (by simp; omega) (by rw [prod_rep]; omega) (fun S n => frz_pu (by
    have : D.pures (List.replicate n (D.int 2)) = true := pures_iff.mpr fun x hx => by rw [(List.mem_replicate.mp hx).2]; simp
    simpa using pures_iff.mpr fun x hx => by rw [(List.mem_replicate.mp hx).2]; simp))
  rw [(List.mem_replicate.mp hm).2]; decide
theorem rows2_cnt {n : Nat} (hn : n ≤ 20) : (rowsL (List.replicate n 2)).length ≤ 1048576 := by
  have := rowsL_cnt (List.replicate n 2) [[]]
  rw [prod_rep] at this
  have hp : 2 ^ n ≤ 2 ^ 20 := Nat.pow_le_pow_right (by decide) hn
  unfold rowsL
  rw [this]; simp; omega
theorem rows2_sm {n : Nat} (hn : n ≤ 20) {r : List Int} (h : r ∈ rowsL (List.replicate n 2)) : smR 1000 1000 r := by
  refine ⟨by rw [rowsL_len h]; simp; omega, fun i hi => ?_⟩
  have := rowsL_bd (B := 2) (fun m hm => by rw [(List.mem_replicate.mp hm).2]; decide) h i hi
  omega
theorem f_all_signs {n : Nat} (h2 : 2 ≤ n) (hn : n ≤ 20) : F_all_signs [.int n] S = .ok (.lst ((allS n).map tI)) S := by
  have hc := rows2_cnt hn
  have e1 := lc_g (C := evC (.bl true)) (E := E_all_signs_1) (T := tgN 2) (σ := [some (.int n), none, none, none, none]) (S := S.ent) (it := seqOf (.lst ((rowsL (List.replicate n 2)).map tI))) (xs := (rowsL (List.replicate n 2)).map tI) tI (fun r => tI (sgn r)) rfl (rowsL (List.replicate n 2)) fun r hr => ⟨_, rfl, by simp, sgn_row (rows2_sm hn hr)⟩
  have hl1 : (rowsL (List.replicate n 2)).length ≤ 16777216 := by omega
  have hsl : ∀ r ∈ (rowsL (List.replicate n 2)).map sgn, r.length ≤ 1000 := fun r hr => by
    obtain ⟨t, h1, rfl⟩ := List.mem_map.mp hr
    have := (rows2_sm hn h1).1
    simpa [sgn] using this
  have e2 := lc_f (C := C_all_signs_4) (E := E_all_signs_5) (T := tgN 2) (σ := [some (.int n), some (.lst ((rowsL (List.replicate n 2)).map fun r => tI (sgn r))), none, none, none]) (S := S.ent) (it := seqOf (.lst ((rowsL (List.replicate n 2)).map fun r => tI (sgn r)))) (xs := (rowsL (List.replicate n 2)).map fun r => tI (sgn r)) tI tI (fun r => decide (negs r % 2 = 1)) rfl ((rowsL (List.replicate n 2)).map sgn) fun r hr => ⟨_, rfl, neg_row (hsl r hr), fun _ => by simp [E_all_signs_5]⟩
  have hmm : ((rowsL (List.replicate n 2)).map sgn).map tI = (rowsL (List.replicate n 2)).map fun r => tI (sgn r) := by simp [Function.comp_def]
  rw [hmm] at e2
  have hl2 : (allS n).length ≤ 16777216 := Nat.le_trans (List.length_filter_le _ _) (by rw [List.length_map]; omega)
  have hk : -1000000000 ≤ (n : Int) ∧ (n : Int) ≤ 1000 := by omega
  have hpu : ∀ rs : List (List Int), D.pures (rs.map tI) = true := fun rs => by
    induction rs with
    | nil => simp
    | cons r rs ih => simp [ih, tI]
  simp [F_all_signs, runF, M_all_signs, startD, hk, f_rows2 hn, wipeD]
  rw [e1]
  simp [hl1, wipeD]
  rw [e2]
  simp [show ((rowsL (List.replicate n 2)).map sgn |>.filter fun r => decide (negs r % 2 = 1)) = allS n from rfl, hl2, hpu]
end
end Lw
end

section
set_option maxHeartbeats 4000000
namespace Lw
open PySem PySem.Spec PyProof.Rows L2 Ev
open Classical
/-- each answer lies below its number -/
theorem rows_lt : ∀ (ms : List Int) (out : List (List Int)) (k : Nat) (pre : List Int), pre.length = k → (∀ r ∈ out, r.length = k ∧ ∀ j < k, 0 ≤ r.getD j 0 ∧ r.getD j 0 < pre.getD j 0) → ∀ p ∈ ms.foldl (fun out m => out.flatMap (extL m)) out, ∀ j < (pre ++ ms).length, 0 ≤ p.getD j 0 ∧ p.getD j 0 < (pre ++ ms).getD j 0
  | [], out, k, pre, hk, h, p, hp => by
    intro j hj
    rw [List.append_nil] at hj ⊢
    exact (h p hp).2 j (by omega)
  | m :: ms, out, k, pre, hk, h, p, hp => by
    have := rows_lt ms (out.flatMap (extL m)) (k + 1) (pre ++ [m]) (by simp [hk]) (fun s hs => by
      obtain ⟨t, h1, h2⟩ := List.mem_flatMap.mp hs
      obtain ⟨g1, g2⟩ := h t h1
      simp only [extL, List.mem_map, List.mem_range] at h2
      obtain ⟨a, ha, rfl⟩ := h2
      refine ⟨by simp [g1], fun j hj => ?_⟩
      by_cases hjk : j < k
      · have := g2 j hjk
        simp only [List.getD_eq_getElem?_getD] at this ⊢
        rw [List.getElem?_append_left (by omega), List.getElem?_append_left (by omega)]
        exact this
      · have e : j = k := by omega
        subst e
        simp only [List.getD_eq_getElem?_getD]
        rw [List.getElem?_append_right (by omega), List.getElem?_append_right (by omega), g1, hk]
        simp
        omega) p hp
    rw [List.append_assoc] at this
    exact this
section
variable {as : List Int} {ls : List (List Int)}
abbrev lows (ls : List (List Int)) : List D := [.int (ls.length : Int), .int (-1), .bl true, .non]
theorem low_all (ok : ScOk as ls) : ∀ d ∈ lows ls, d.dat = true ∧ btw d 0 ((ls.length : Int) - 1) = false ∧ okRepr (.tup [.str "number", .str "number", d]) = true := by
  have h12 := ok.l12
  intro d hd
  simp only [lows, List.mem_cons, List.not_mem_nil, or_false] at hd
  rcases hd with rfl | rfl | rfl | rfl
  · refine ⟨by simp, ?_, rep3 (by decide +kernel) (by decide +kernel) (RG.int (log_small (n := 20) (by omega))) (by decide) (by decide)⟩
    have : ¬ ((ls.length : Int) ≤ (ls.length : Int) - 1) := by omega
    simp only [btw, decide_eq_false this, Bool.and_false]
  · exact ⟨by simp, by simp [btw], by kernel_rfl⟩
  · exact ⟨by simp, rfl, by kernel_rfl⟩
  · exact ⟨by simp, rfl, by kernel_rfl⟩
/-- a value that is no plan -/
structure WrongP (as : List Int) (d : D) : Prop where
  ind : InD d
  bad : rowD as (inT d) = false
  rep : okRepr (.tup [.str "row", d]) = true
theorem row_tI (as p : List Int) : rowD as (tI p) = (decide (p.length = as.length) && ((List.zip (p.map D.int) as).map fun xa : D × Int => match xa.1 with
    | .int i => decide (0 ≤ i) && decide (i < xa.2)
    | _ => false).all id) := by
  simp only [tI, rowD, List.length_map]
  first | done | rfl
theorem row_good {as p : List Int} (hl : p.length = as.length) (h : ∀ k < as.length, 0 ≤ p.getD k 0 ∧ p.getD k 0 < as.getD k 0) : rowD as (tI p) = true := by
  rw [row_tI]
  have : ∀ (p as : List Int), p.length = as.length → (∀ k < as.length, 0 ≤ p.getD k 0 ∧ p.getD k 0 < as.getD k 0) → (((List.zip (p.map D.int) as).map fun xa : D × Int => match xa.1 with
    | .int i => decide (0 ≤ i) && decide (i < xa.2)
    | _ => false).all id) = true := by
    intro p
    induction p with
    | nil => intro as _ _; simp
    | cons x p ih =>
      intro as hl h
      cases as with
      | nil => simp
      | cons a as =>
        have h0 := h 0 (by simp)
        simp at h0
        have := ih as (by simpa using hl) (fun k hk => by simpa using h (k + 1) (by simpa using hk))
        simp only [List.map_cons, List.zip_cons_cons, List.all_cons, this, Bool.and_true, id]
        simp [h0]
  rw [this p as hl h]
  simp [hl]
theorem wrong_tI {p : List Int} (hl : p.length ≤ 20) (hb : ∀ i ∈ p, i.natAbs ≤ 1000) (h : rowD as (tI p) = false) : WrongP as (tI p) := by
  obtain ⟨h1, _, h3, _⟩ := ind_tI p (by omega)
  exact ⟨h1, by rw [h3]; exact h, rep2 (by decide +kernel) (rg_ints hl hb) (by decide) (by decide)⟩
abbrev zeroS (n : Nat) : D := .tup (List.replicate n (.str "0"))
abbrev wrongs (as p : List Int) : List D := [.non, tI (p.drop 1), tI (p ++ [0]), tI (List.replicate as.length 9), .int 5, zeroS as.length]
theorem wrong_all (ok : ScOk as ls) (h4 : as.length ≤ 4) {p : List Int} (hp : p ∈ rowsL as) : ∀ d ∈ wrongs as p, WrongP as d := by
  have hpl : p.length = as.length := rowsL_len hp
  have hbd := rowsL_bd (B := 5) (fun m hm => by have := ok.a5 m hm; omega) hp
  have h1 := ok.a1
  intro d hd
  simp only [wrongs, List.mem_cons, List.not_mem_nil, or_false] at hd
  rcases hd with rfl | rfl | rfl | rfl | rfl | rfl
  · exact ⟨⟨by simp, by decide +kernel, by decide +kernel, by simp [inT], by decide +kernel⟩, rfl, by kernel_rfl⟩
  · refine wrong_tI (by rw [List.length_drop]; omega) (fun i hi => by have := hbd i (List.mem_of_mem_drop hi); omega) ?_
    rw [row_tI, List.length_drop, decide_eq_false (by omega), Bool.false_and]
  · refine wrong_tI (by rw [List.length_append]; simp; omega) (fun i hi => ?_) ?_
    · rcases List.mem_append.mp hi with z | z
      · have := hbd i z; omega
      · rw [List.mem_singleton.mp z]; decide
    · rw [row_tI, List.length_append, decide_eq_false (by simp; omega), Bool.false_and]
  · refine wrong_tI (by simp; omega) (fun i hi => by rw [(List.mem_replicate.mp hi).2]; decide) ?_
    rw [row_tI]
    cases as with
    | nil => simp at h1
    | cons a as =>
      have := ok.a5 a (List.mem_cons_self ..)
      have hn : ¬ (9 : Int) < a := by omega
      rw [List.length_cons, List.replicate_succ]
      simp [hn]
  · exact ⟨⟨by simp, by decide +kernel, by decide +kernel, by simp [inT], by decide +kernel⟩, rfl, by kernel_rfl⟩
  · have hn : as.length = 1 ∨ as.length = 2 ∨ as.length = 3 ∨ as.length = 4 := by omega
    have hrow : rowD as (zeroS as.length) = false := by
      cases as with
      | nil => simp at h1
      | cons a as =>
        rw [zeroS, List.length_cons, List.replicate_succ]
        simp [rowD]
    have hi : inT (zeroS as.length) = zeroS as.length := by
      simp only [zeroS, inT, inTs_map, List.map_replicate]
    refine ⟨?_, by rw [hi]; exact hrow, ?_⟩
    · rcases hn with e | e | e | e <;> rw [e] <;> exact ⟨by simp [zeroS, List.replicate], by decide +kernel, by decide +kernel, by simp [zeroS, List.replicate, inT, inTs], by decide +kernel⟩
    · rcases hn with e | e | e | e <;> rw [e] <;> kernel_rfl
/-- a plan of a scene -/
theorem plan_good (ok : ScOk as ls) {p : List Int} (hp : p ∈ rowsL as) : p.length = as.length ∧ (∀ i ∈ p, i.natAbs ≤ 1000) ∧ rowD as (tI p) = true := by
  have hpl : p.length = as.length := rowsL_len hp
  have hbd := rowsL_bd (B := 5) (fun m hm => by have := ok.a5 m hm; omega) hp
  refine ⟨hpl, fun i hi => by have := hbd i hi; omega, row_good hpl ?_⟩
  have := rows_lt as [[]] 0 [] rfl (by simp) p hp
  simpa using this
end
end Lw
end

section
set_option maxHeartbeats 4000000
namespace Lw
open PySem PySem.Spec PyProof.Rows L2 Ev
open Classical
def top (i : Nat) : Stmt := PySem.Challenge.pw_hiddenplans_k03_scenes_and_plans.main.body.getD i (.Pass ⟨0, 0, 0, 0⟩)
def mth (s : Stmt) (j : Nat) : Stmt := match s with
  | .ClassDef _ _ _ b _ _ _ _ _ _ _ => b.getD j (.Pass ⟨0, 0, 0, 0⟩)
  | _ => .Pass ⟨0, 0, 0, 0⟩
def kn : List Str := ["BadNumber", "BadScene", "BadRow", "BadTable", "BadLot", "Unlike", "TooMany"]
theorem sc_Scene___eq__ : FnScope ["self", "other"] ["self", "other"] (defScope (mth (top 18) 1)) := ⟨rfl, rfl, rfl, by decide +kernel, rfl, by decide +kernel, by decide +kernel⟩
theorem sc_is_whole : FnScope ["value"] ["value"] (defScope (top 10)) := ⟨rfl, rfl, rfl, by decide +kernel, rfl, by decide +kernel, by decide +kernel⟩
theorem sc_is_lot : FnScope ["value", "questions", "item", "k"] ["value", "questions"] (defScope (top 19)) := ⟨rfl, rfl, rfl, by decide +kernel, rfl, by decide +kernel, by decide +kernel⟩
theorem sc_is_within : FnScope ["one", "other", "question"] ["one", "other"] (defScope (top 20)) := ⟨rfl, rfl, rfl, by decide +kernel, rfl, by decide +kernel, by decide +kernel⟩
theorem sc_are_lots : FnScope ["value", "questions", "one", "lot", "other", "question"] ["value", "questions"] (defScope (top 21)) := ⟨rfl, rfl, rfl, by decide +kernel, rfl, by decide +kernel, by decide +kernel⟩
theorem sc_in_tuples : FnScope ["value", "item"] ["value"] (defScope (top 11)) := ⟨rfl, rfl, rfl, by decide +kernel, rfl, by decide +kernel, by decide +kernel⟩
theorem sc_Scene___init__ : FnScope ["self", "answers", "lots", "some", "made", "item"] ["self", "answers", "lots"] (defScope (mth (top 18) 0)) := ⟨rfl, rfl, rfl, by decide +kernel, rfl, by decide +kernel, by decide +kernel⟩
theorem sc_Scene___ne__ : FnScope ["self", "other"] ["self", "other"] (defScope (mth (top 18) 2)) := ⟨rfl, rfl, rfl, by decide +kernel, rfl, by decide +kernel, by decide +kernel⟩
theorem sc_all_rows : FnScope ["answers", "out", "many", "more", "row", "answer"] ["answers"] (defScope (top 23)) := ⟨rfl, rfl, rfl, by decide +kernel, rfl, by decide +kernel, by decide +kernel⟩
theorem sc_product_of : FnScope ["numbers", "out", "number"] ["numbers"] (defScope (top 24)) := ⟨rfl, rfl, rfl, by decide +kernel, rfl, by decide +kernel, by decide +kernel⟩
theorem sc_need_few : FnScope ["scene", "many"] ["scene"] (defScope (top 26)) := ⟨rfl, rfl, rfl, by decide +kernel, rfl, by decide +kernel, by decide +kernel⟩
theorem sc_need_scene : FnScope ["scene"] ["scene"] (defScope (top 22)) := ⟨rfl, rfl, rfl, by decide +kernel, rfl, by decide +kernel, by decide +kernel⟩
theorem sc_plans : FnScope ["scene"] ["scene"] (defScope (top 27)) := ⟨rfl, rfl, rfl, by decide +kernel, rfl, by decide +kernel, by decide +kernel⟩
theorem sc_many_plans : FnScope ["scene"] ["scene"] (defScope (top 25)) := ⟨rfl, rfl, rfl, by decide +kernel, rfl, by decide +kernel, by decide +kernel⟩
theorem sc_lot_rows : FnScope ["scene", "number", "question"] ["scene", "number"] (defScope (top 28)) := ⟨rfl, rfl, rfl, by decide +kernel, rfl, by decide +kernel, by decide +kernel⟩
theorem sc_need_between : FnScope ["what", "number", "low", "high"] ["what", "number", "low", "high"] (defScope (top 13)) := ⟨rfl, rfl, rfl, by decide +kernel, rfl, by decide +kernel, by decide +kernel⟩
theorem sc_need_number : FnScope ["scene", "number"] ["scene", "number"] (defScope (top 29)) := ⟨rfl, rfl, rfl, by decide +kernel, rfl, by decide +kernel, by decide +kernel⟩
theorem sc_rows_of : FnScope ["scene", "number"] ["scene", "number"] (defScope (top 30)) := ⟨rfl, rfl, rfl, by decide +kernel, rfl, by decide +kernel, by decide +kernel⟩
theorem sc_is_tuple_of : FnScope ["value", "many"] ["value", "many"] (defScope (top 12)) := ⟨rfl, rfl, rfl, by decide +kernel, rfl, by decide +kernel, by decide +kernel⟩
theorem sc_is_row_of : FnScope ["value", "answers", "item", "many"] ["value", "answers"] (defScope (top 31)) := ⟨rfl, rfl, rfl, by decide +kernel, rfl, by decide +kernel, by decide +kernel⟩
theorem sc_plan_from : FnScope ["scene", "plan", "made"] ["scene", "plan"] (defScope (top 32)) := ⟨rfl, rfl, rfl, by decide +kernel, rfl, by decide +kernel, by decide +kernel⟩
theorem sc_seen_by : FnScope ["scene", "plan", "number", "question"] ["scene", "plan", "number"] (defScope (top 34)) := ⟨rfl, rfl, rfl, by decide +kernel, rfl, by decide +kernel, by decide +kernel⟩
theorem sc_seen : FnScope ["scene", "plan", "number", "made"] ["scene", "plan", "number"] (defScope (top 33)) := ⟨rfl, rfl, rfl, by decide +kernel, rfl, by decide +kernel, by decide +kernel⟩
theorem sc__law_fault : FnScope ["work", "fault"] ["work"] (defScope (top 44)) := ⟨rfl, rfl, rfl, by decide +kernel, rfl, by decide +kernel, by decide +kernel⟩
theorem sc__law_are_due : FnScope ["tries", "work", "due"] ["tries"] (defScope (top 45)) := ⟨rfl, rfl, rfl, by decide +kernel, rfl, by decide +kernel, by decide +kernel⟩
theorem sc__law_draw : FnScope ["pen", "many", "cell", "digit", "blend"] ["pen", "many"] (defScope (top 37)) := ⟨rfl, rfl, rfl, by decide +kernel, rfl, by decide +kernel, by decide +kernel⟩
theorem sc__law_rows : FnScope ["many", "found", "number", "more", "row", "answer"] ["many"] (defScope (top 40)) := ⟨rfl, rfl, rfl, by decide +kernel, rfl, by decide +kernel, by decide +kernel⟩
theorem sc__law_lot_rows : FnScope ["answers", "lot", "question"] ["answers", "lot"] (defScope (top 41)) := ⟨rfl, rfl, rfl, by decide +kernel, rfl, by decide +kernel, by decide +kernel⟩
theorem sc__law_pen : FnScope ["script", "fold", "cell"] ["script"] (defScope (top 36)) := ⟨rfl, rfl, rfl, by decide +kernel, rfl, by decide +kernel, by decide +kernel⟩
theorem sc__law_pick : FnScope ["pen", "some"] ["pen", "some"] (defScope (top 38)) := ⟨rfl, rfl, rfl, by decide +kernel, rfl, by decide +kernel, by decide +kernel⟩
theorem sc__law_shuffled : FnScope ["pen", "some", "left", "found", "lap"] ["pen", "some"] (defScope (top 39)) := ⟨rfl, rfl, rfl, by decide +kernel, rfl, by decide +kernel, by decide +kernel⟩
theorem sc__law_scene : FnScope ["pen", "questions", "most", "lots", "answers", "found", "lap", "size", "question", "kept", "lot", "k", "far"] ["pen", "questions", "most", "lots"] (defScope (top 42)) := ⟨rfl, rfl, rfl, by decide +kernel, rfl, by decide +kernel, by decide +kernel⟩
theorem sc__law_seen : FnScope ["plan", "lot", "question"] ["plan", "lot"] (defScope (top 43)) := ⟨rfl, rfl, rfl, by decide +kernel, rfl, by decide +kernel, by decide +kernel⟩
theorem sc_law : FnScope ["script", "pen", "answers", "lots", "one", "twin", "other", "every", "plan", "number", "bad", "far", "some", "odd", "low", "wrong", "wide", "tries", "lot"] ["script"] (defScope (top 46)) := ⟨rfl, rfl, rfl, by decide +kernel, rfl, by decide +kernel, by decide +kernel⟩
/-- what the head tells -/
structure Bu (P : Program) (w : World) (K : PySem.W.Frag) (mg : Str → Option Value) (base : Heap) : Prop where
  d_Scene___eq__ : ∃ fd, FunD K "__eq__" "Scene.__eq__" (defArgs (mth (top 18) 1)) (defBody (mth (top 18) 1)) (defScope (mth (top 18) 1)) [] [] (He.ma K (He.ga K "Scene") "__eq__") fd
  d_is_whole : ∃ fd, FunD K "is_whole" "is_whole" (defArgs (top 10)) (defBody (top 10)) (defScope (top 10)) [] [] (He.fAd K ("is_whole", none)) fd
  m_is_whole : mg "is_whole" = some (.ref (He.fAd K ("is_whole", none)))
  d_is_lot : ∃ fd, FunD K "is_lot" "is_lot" (defArgs (top 19)) (defBody (top 19)) (defScope (top 19)) [] [] (He.fAd K ("is_lot", none)) fd
  m_is_lot : mg "is_lot" = some (.ref (He.fAd K ("is_lot", none)))
  d_is_within : ∃ fd, FunD K "is_within" "is_within" (defArgs (top 20)) (defBody (top 20)) (defScope (top 20)) [] [] (He.fAd K ("is_within", none)) fd
  m_is_within : mg "is_within" = some (.ref (He.fAd K ("is_within", none)))
  d_are_lots : ∃ fd, FunD K "are_lots" "are_lots" (defArgs (top 21)) (defBody (top 21)) (defScope (top 21)) [] [] (He.fAd K ("are_lots", none)) fd
  m_are_lots : mg "are_lots" = some (.ref (He.fAd K ("are_lots", none)))
  d_in_tuples : ∃ fd, FunD K "in_tuples" "in_tuples" (defArgs (top 11)) (defBody (top 11)) (defScope (top 11)) [] [] (He.fAd K ("in_tuples", none)) fd
  m_in_tuples : mg "in_tuples" = some (.ref (He.fAd K ("in_tuples", none)))
  d_Scene___init__ : ∃ fd, FunD K "__init__" "Scene.__init__" (defArgs (mth (top 18) 0)) (defBody (mth (top 18) 0)) (defScope (mth (top 18) 0)) [] [] (He.ma K (He.ga K "Scene") "__init__") fd
  d_Scene___ne__ : ∃ fd, FunD K "__ne__" "Scene.__ne__" (defArgs (mth (top 18) 2)) (defBody (mth (top 18) 2)) (defScope (mth (top 18) 2)) [] [] (He.ma K (He.ga K "Scene") "__ne__") fd
  d_all_rows : ∃ fd, FunD K "all_rows" "all_rows" (defArgs (top 23)) (defBody (top 23)) (defScope (top 23)) [] [] (He.fAd K ("all_rows", none)) fd
  m_all_rows : mg "all_rows" = some (.ref (He.fAd K ("all_rows", none)))
  d_product_of : ∃ fd, FunD K "product_of" "product_of" (defArgs (top 24)) (defBody (top 24)) (defScope (top 24)) [] [] (He.fAd K ("product_of", none)) fd
  m_product_of : mg "product_of" = some (.ref (He.fAd K ("product_of", none)))
  d_need_few : ∃ fd, FunD K "need_few" "need_few" (defArgs (top 26)) (defBody (top 26)) (defScope (top 26)) [] [] (He.fAd K ("need_few", none)) fd
  m_need_few : mg "need_few" = some (.ref (He.fAd K ("need_few", none)))
  d_need_scene : ∃ fd, FunD K "need_scene" "need_scene" (defArgs (top 22)) (defBody (top 22)) (defScope (top 22)) [] [] (He.fAd K ("need_scene", none)) fd
  m_need_scene : mg "need_scene" = some (.ref (He.fAd K ("need_scene", none)))
  d_plans : ∃ fd, FunD K "plans" "plans" (defArgs (top 27)) (defBody (top 27)) (defScope (top 27)) [] [] (He.fAd K ("plans", none)) fd
  m_plans : mg "plans" = some (.ref (He.fAd K ("plans", none)))
  d_many_plans : ∃ fd, FunD K "many_plans" "many_plans" (defArgs (top 25)) (defBody (top 25)) (defScope (top 25)) [] [] (He.fAd K ("many_plans", none)) fd
  m_many_plans : mg "many_plans" = some (.ref (He.fAd K ("many_plans", none)))
  d_lot_rows : ∃ fd, FunD K "lot_rows" "lot_rows" (defArgs (top 28)) (defBody (top 28)) (defScope (top 28)) [] [] (He.fAd K ("lot_rows", none)) fd
  m_lot_rows : mg "lot_rows" = some (.ref (He.fAd K ("lot_rows", none)))
  d_need_between : ∃ fd, FunD K "need_between" "need_between" (defArgs (top 13)) (defBody (top 13)) (defScope (top 13)) [] [] (He.fAd K ("need_between", none)) fd
  m_need_between : mg "need_between" = some (.ref (He.fAd K ("need_between", none)))
  d_need_number : ∃ fd, FunD K "need_number" "need_number" (defArgs (top 29)) (defBody (top 29)) (defScope (top 29)) [] [] (He.fAd K ("need_number", none)) fd
  m_need_number : mg "need_number" = some (.ref (He.fAd K ("need_number", none)))
  d_rows_of : ∃ fd, FunD K "rows_of" "rows_of" (defArgs (top 30)) (defBody (top 30)) (defScope (top 30)) [] [] (He.fAd K ("rows_of", none)) fd
  m_rows_of : mg "rows_of" = some (.ref (He.fAd K ("rows_of", none)))
  d_is_tuple_of : ∃ fd, FunD K "is_tuple_of" "is_tuple_of" (defArgs (top 12)) (defBody (top 12)) (defScope (top 12)) [] [] (He.fAd K ("is_tuple_of", none)) fd
  m_is_tuple_of : mg "is_tuple_of" = some (.ref (He.fAd K ("is_tuple_of", none)))
  d_is_row_of : ∃ fd, FunD K "is_row_of" "is_row_of" (defArgs (top 31)) (defBody (top 31)) (defScope (top 31)) [] [] (He.fAd K ("is_row_of", none)) fd
  m_is_row_of : mg "is_row_of" = some (.ref (He.fAd K ("is_row_of", none)))
  d_plan_from : ∃ fd, FunD K "plan_from" "plan_from" (defArgs (top 32)) (defBody (top 32)) (defScope (top 32)) [] [] (He.fAd K ("plan_from", none)) fd
  m_plan_from : mg "plan_from" = some (.ref (He.fAd K ("plan_from", none)))
  d_seen_by : ∃ fd, FunD K "seen_by" "seen_by" (defArgs (top 34)) (defBody (top 34)) (defScope (top 34)) [] [] (He.fAd K ("seen_by", none)) fd
  m_seen_by : mg "seen_by" = some (.ref (He.fAd K ("seen_by", none)))
  d_seen : ∃ fd, FunD K "seen" "seen" (defArgs (top 33)) (defBody (top 33)) (defScope (top 33)) [] [] (He.fAd K ("seen", none)) fd
  m_seen : mg "seen" = some (.ref (He.fAd K ("seen", none)))
  d__law_fault : ∃ fd, FunD K "_law_fault" "_law_fault" (defArgs (top 44)) (defBody (top 44)) (defScope (top 44)) [] [] (He.fAd K ("_law_fault", none)) fd
  m__law_fault : mg "_law_fault" = some (.ref (He.fAd K ("_law_fault", none)))
  d__law_are_due : ∃ fd, FunD K "_law_are_due" "_law_are_due" (defArgs (top 45)) (defBody (top 45)) (defScope (top 45)) [] [] (He.fAd K ("_law_are_due", none)) fd
  m__law_are_due : mg "_law_are_due" = some (.ref (He.fAd K ("_law_are_due", none)))
  d__law_draw : ∃ fd, FunD K "_law_draw" "_law_draw" (defArgs (top 37)) (defBody (top 37)) (defScope (top 37)) [] [] (He.fAd K ("_law_draw", none)) fd
  m__law_draw : mg "_law_draw" = some (.ref (He.fAd K ("_law_draw", none)))
  d__law_rows : ∃ fd, FunD K "_law_rows" "_law_rows" (defArgs (top 40)) (defBody (top 40)) (defScope (top 40)) [] [] (He.fAd K ("_law_rows", none)) fd
  m__law_rows : mg "_law_rows" = some (.ref (He.fAd K ("_law_rows", none)))
  d__law_lot_rows : ∃ fd, FunD K "_law_lot_rows" "_law_lot_rows" (defArgs (top 41)) (defBody (top 41)) (defScope (top 41)) [] [] (He.fAd K ("_law_lot_rows", none)) fd
  m__law_lot_rows : mg "_law_lot_rows" = some (.ref (He.fAd K ("_law_lot_rows", none)))
  d__law_pen : ∃ fd, FunD K "_law_pen" "_law_pen" (defArgs (top 36)) (defBody (top 36)) (defScope (top 36)) [] [] (He.fAd K ("_law_pen", none)) fd
  m__law_pen : mg "_law_pen" = some (.ref (He.fAd K ("_law_pen", none)))
  d__law_pick : ∃ fd, FunD K "_law_pick" "_law_pick" (defArgs (top 38)) (defBody (top 38)) (defScope (top 38)) [] [] (He.fAd K ("_law_pick", none)) fd
  m__law_pick : mg "_law_pick" = some (.ref (He.fAd K ("_law_pick", none)))
  d__law_shuffled : ∃ fd, FunD K "_law_shuffled" "_law_shuffled" (defArgs (top 39)) (defBody (top 39)) (defScope (top 39)) [] [] (He.fAd K ("_law_shuffled", none)) fd
  m__law_shuffled : mg "_law_shuffled" = some (.ref (He.fAd K ("_law_shuffled", none)))
  d__law_scene : ∃ fd, FunD K "_law_scene" "_law_scene" (defArgs (top 42)) (defBody (top 42)) (defScope (top 42)) [] [] (He.fAd K ("_law_scene", none)) fd
  m__law_scene : mg "_law_scene" = some (.ref (He.fAd K ("_law_scene", none)))
  d__law_seen : ∃ fd, FunD K "_law_seen" "_law_seen" (defArgs (top 43)) (defBody (top 43)) (defScope (top 43)) [] [] (He.fAd K ("_law_seen", none)) fd
  m__law_seen : mg "_law_seen" = some (.ref (He.fAd K ("_law_seen", none)))
  b_all : mg "all" = none
  b_any : mg "any" = none
  b_bool : mg "bool" = none
  b_int : mg "int" = none
  b_isinstance : mg "isinstance" = none
  b_len : mg "len" = none
  b_list : mg "list" = none
  b_min : mg "min" = none
  b_range : mg "range" = none
  b_repr : mg "repr" = none
  b_sorted : mg "sorted" = none
  b_tuple : mg "tuple" = none
  b_zip : mg "zip" = none
  e_BadNumber : ExE P w K mg base "BadNumber" ["what", "number"]
  e_BadScene : ExE P w K mg base "BadScene" ["what", "value"]
  e_BadRow : ExE P w K mg base "BadRow" ["row"]
  e_BadTable : ExE P w K mg base "BadTable" ["table"]
  e_BadLot : ExE P w K mg base "BadLot" ["lot"]
  e_Unlike : ExE P w K mg base "Unlike" ["what"]
  e_TooMany : ExE P w K mg base "TooMany" ["what", "many", "limit"]
  x_BadNumber : XfE K mg "BadNumber" (He.ga K "BadNumber") ["what", "number"]
  x_BadScene : XfE K mg "BadScene" (He.ga K "BadScene") ["what", "value"]
  x_BadRow : XfE K mg "BadRow" (He.ga K "BadRow") ["row"]
  x_BadTable : XfE K mg "BadTable" (He.ga K "BadTable") ["table"]
  x_BadLot : XfE K mg "BadLot" (He.ga K "BadLot") ["lot"]
  x_Unlike : XfE K mg "Unlike" (He.ga K "Unlike") ["what"]
  x_TooMany : XfE K mg "TooMany" (He.ga K "TooMany") ["what", "many", "limit"]
  kin : Kin K mg kn
  c_MOST_LOTS : ∃ t, mg "MOST_LOTS" = some (.int 12 t)
  c_MOST_PLANS : ∃ t, mg "MOST_PLANS" = some (.int 512 t)
  c_MOST_QUESTIONS : ∃ t, mg "MOST_QUESTIONS" = some (.int 9 t)
  k_Scene : ClsE K mg "Scene" ["answers", "lots"] (He.ga K "Scene")
  mk_Scene : MakE K mg "Scene" (He.ga K "Scene") (He.ma K (He.ga K "Scene") "__init__")
  is_Scene : IsE K mg "Scene" ["Scene"] (He.ga K "Scene")
  eq_Scene___eq__ : eqB K "Scene" "__eq__" ["Scene"] = true
  eq_Scene___ne__ : eqB K "Scene" "__ne__" ["Scene"] = true
theorem fl_Scene__answers {P : Program} {w : World} {K : PySem.W.Frag} {mg : Str → Option Value} {base : Heap} (B : Bu P w K mg base) : ∀ c ∈ (["Scene"] : List Str), ∃ C fs, ClsE K mg c fs C ∧ ("answers" : Str) ∈ fs := by
  intro c hc
  simp only [List.mem_cons, List.not_mem_nil, or_false] at hc
  rcases hc with rfl
  · exact ⟨_, _, B.k_Scene, by decide⟩
theorem fl_Scene__lots {P : Program} {w : World} {K : PySem.W.Frag} {mg : Str → Option Value} {base : Heap} (B : Bu P w K mg base) : ∀ c ∈ (["Scene"] : List Str), ∃ C fs, ClsE K mg c fs C ∧ ("lots" : Str) ∈ fs := by
  intro c hc
  simp only [List.mem_cons, List.not_mem_nil, or_false] at hc
  rcases hc with rfl
  · exact ⟨_, _, B.k_Scene, by decide⟩
def pc : PenK := ⟨42853, 2147483497, 8081, 61, 25, 512⟩
theorem g_Scene___eq__ {P : Program} {w : World} {K : PySem.W.Frag} {mg : Str → Option Value} {base : Heap} (B : Bu P w K mg base) : MthE P w K mg base 1 (He.ga K "Scene") (He.ma K (He.ga K "Scene") "__eq__") ["self", "other"] F_Scene___eq__ :=
  MthE.of (own := false) B.d_Scene___eq__ sc_Scene___eq__ rfl (fun _ _ _ _ _ _ us hl => match us, hl with | [_, _], _ => rfl)
    fun cdv A outer s H E hr cn tk hp => (s_one (s_ret (x_and (x_isiO B.is_Scene B.b_isinstance (x_var (pv 1))) (x_and (x_eq cn (x_fld (fl_Scene__answers B) (x_var (pv 0))) (x_fld (fl_Scene__answers B) (x_var (pv 1)))) (x_one (x_eq cn (x_fld (fl_Scene__lots B) (x_var (pv 0))) (x_fld (fl_Scene__lots B) (x_var (pv 1)))))))))
theorem kq_Scene___eq__ {P : Program} {w : World} {K : PySem.W.Frag} {mg : Str → Option Value} {base : Heap} (B : Bu P w K mg base) : EqOk P w K mg base 1 "__eq__" ["Scene"] (eqT1 "Scene" F_Scene___eq__) :=
  eqOk1 (eqB_ok B.eq_Scene___eq__ B.k_Scene.m (by
    intro c hc
    simp only [List.mem_cons, List.not_mem_nil, or_false] at hc
    subst hc
    exact ⟨_, B.k_Scene⟩) (g_Scene___eq__ B) rfl)
theorem g_is_whole {P : Program} {w : World} {K : PySem.W.Frag} {mg : Str → Option Value} {base : Heap} (B : Bu P w K mg base) : FunE P w K mg base 1 "is_whole" ["value"] F_is_whole :=
  FunE.of (own := false) B.d_is_whole B.m_is_whole sc_is_whole rfl (fun _ _ _ _ _ _ us hl => match us, hl with | [_], _ => rfl)
    fun cdv A outer s H E hr cn tk hp => (s_one (s_ret (x_and (x_isi B.b_isinstance (x_cons (x_var (pv 0)) (x_cons (x_ty B.b_int) x_nil))) (x_one (x_not (x_isi B.b_isinstance (x_cons (x_var (pv 0)) (x_cons (x_ty B.b_bool) x_nil))))))))
theorem g_is_lot {P : Program} {w : World} {K : PySem.W.Frag} {mg : Str → Option Value} {base : Heap} (B : Bu P w K mg base) : FunE P w K mg base 2 "is_lot" ["value", "questions"] F_is_lot :=
  FunE.of (own := false) B.d_is_lot B.m_is_lot sc_is_lot rfl (fun _ _ _ _ _ _ us hl => match us, hl with | [_, _], _ => rfl)
    fun cdv A outer s H E hr cn tk hp => (s_cons (s_if (t_w (w_or (t_not (t_val (x_isi B.b_isinstance (x_cons (x_var (pv 0)) (x_cons (x_ty B.b_tuple) x_nil))) (fun _ => rfl))) (w_or1 (t_not (t_val (x_all cn B.b_all (x_cons (x_lc (own := false) (onames := [("item", 2)]) (sl := [2]) cn sc_is_lot.nd (it_seq (x_var (pv 0))) (blkOk_by (by kernel_rfl)) (by decide) (fun _ _ _ _ _ => (g_name sc_is_lot.nd rfl (by first | exact .inl rfl | exact .inr rfl))) (fun _ _ _ _ _ => ts_nil) (fun _ _ _ _ _ => (x_and (x_callE (g_is_whole B) hr (by decide) ((cn).blk) LamX.takes0 (x_cons (x_var (pv 2)) x_nil)) (x_one (x_ch (p := (fun i j => decide (i ≤ j))) (q := (fun i j => decide (i < j))) op_le op_lt x_int (x_var (pv 2)) (x_var (pv 1))))))) x_nil)) (fun _ => rfl)))))) (s_one (s_ret x_bl)) s_nil)
  (s_one (s_ret (x_all cn B.b_all (x_cons (x_lc (own := false) (onames := [("k", 3)]) (sl := [3]) cn sc_is_lot.nd (it_rg1 (x_cons (x_sub (x_len B.b_len (x_cons (x_var (pv 0)) x_nil)) x_int) x_nil) B.b_range) (blkOk_by (by kernel_rfl)) (by decide) (fun _ _ _ _ _ => (g_name sc_is_lot.nd rfl (by first | exact .inl rfl | exact .inr rfl))) (fun _ _ _ _ _ => ts_nil) (fun _ _ _ _ _ => (x_lt (x_ix (x_var (pv 0)) (x_var (pv 3)) (fun _ _ => rfl)) (x_ix (x_var (pv 0)) (x_add (own := false) (x_var (pv 3)) x_int) (fun _ _ => rfl))))) x_nil)))))
theorem g_is_within {P : Program} {w : World} {K : PySem.W.Frag} {mg : Str → Option Value} {base : Heap} (B : Bu P w K mg base) : FunE P w K mg base 1 "is_within" ["one", "other"] F_is_within :=
  FunE.of (own := false) B.d_is_within B.m_is_within sc_is_within rfl (fun _ _ _ _ _ _ us hl => match us, hl with | [_, _], _ => rfl)
    fun cdv A outer s H E hr cn tk hp => (s_one (s_ret (x_all cn B.b_all (x_cons (x_lc (own := false) (onames := [("question", 2)]) (sl := [2]) cn sc_is_within.nd (it_seq (x_var (pv 0))) (blkOk_by (by kernel_rfl)) (by decide) (fun _ _ _ _ _ => (g_name sc_is_within.nd rfl (by first | exact .inl rfl | exact .inr rfl))) (fun _ _ _ _ _ => ts_nil) (fun _ _ _ _ _ => (x_in ((cn).blk) (x_var (pv 2)) (x_var (pv 1))))) x_nil))))
theorem g_are_lots {P : Program} {w : World} {K : PySem.W.Frag} {mg : Str → Option Value} {base : Heap} (B : Bu P w K mg base) : FunE P w K mg base 3 "are_lots" ["value", "questions"] F_are_lots :=
  FunE.of (own := false) B.d_are_lots B.m_are_lots sc_are_lots rfl (fun _ _ _ _ _ _ us hl => match us, hl with | [_, _], _ => rfl)
    fun cdv A outer s H E hr cn tk hp => (s_cons (s_if (t_w (w_or (t_not (t_val (x_isi B.b_isinstance (x_cons (x_var (pv 0)) (x_cons (x_ty B.b_tuple) x_nil))) (fun _ => rfl))) (w_or1 (t_not (t_ch (p := (fun i j => decide (i ≤ j))) (q := (fun i j => decide (i ≤ j))) op_le op_le x_int (x_len B.b_len (x_cons (x_var (pv 0)) x_nil)) (x_gint B.c_MOST_LOTS)))))) (s_one (s_ret x_bl)) s_nil)
  (s_cons (s_if (t_not (t_val (x_all cn B.b_all (x_cons (x_lc (own := false) (onames := [("lot", 3)]) (sl := [3]) cn sc_are_lots.nd (it_seq (x_var (pv 0))) (blkOk_by (by kernel_rfl)) (by decide) (fun _ _ _ _ _ => (g_name sc_are_lots.nd rfl (by first | exact .inl rfl | exact .inr rfl))) (fun _ _ _ _ _ => ts_nil) (fun _ _ _ _ _ => (x_and (x_callE (g_is_lot B) hr (by decide) ((cn).blk) LamX.takes0 (x_cons (x_var (pv 3)) (x_cons (x_var (pv 1)) x_nil))) (x_one (x_gt (x_len B.b_len (x_cons (x_var (pv 3)) x_nil)) x_int))))) x_nil)) (fun _ => rfl))) (s_one (s_ret x_bl)) s_nil)
  (s_cons (s_for (sl := [2]) hp cn.calm (it_rg1 (x_cons (x_len B.b_len (x_cons (x_var (pv 0)) x_nil)) x_nil) B.b_range) (g_name sc_are_lots.nd rfl (by first | exact .inl rfl | exact .inr rfl)) (s_one (s_if (t_val (x_any cn B.b_any (x_cons (x_lc (own := false) (onames := [("other", 4)]) (sl := [4]) cn sc_are_lots.nd (it_rg1 (x_cons (x_len B.b_len (x_cons (x_var (pv 0)) x_nil)) x_nil) B.b_range) (blkOk_by (by kernel_rfl)) (by decide) (fun _ _ _ _ _ => (g_name sc_are_lots.nd rfl (by first | exact .inl rfl | exact .inr rfl))) (fun _ _ _ _ _ => ts_nil) (fun _ _ _ _ _ => (x_and (x_ne ((cn).blk) (x_var (pv 2)) (x_var (pv 4))) (x_one (x_callE (g_is_within B) hr (by decide) ((cn).blk) LamX.takes0 (x_cons (x_ix (x_var (pv 0)) (x_var (pv 2)) (fun _ _ => rfl)) (x_cons (x_ix (x_var (pv 0)) (x_var (pv 4)) (fun _ _ => rfl)) x_nil))))))) x_nil)) (fun _ => rfl)) (s_one (s_ret x_bl)) s_nil)))
  (s_one (s_ret (x_all cn B.b_all (x_cons (x_lc (own := false) (onames := [("question", 5)]) (sl := [5]) cn sc_are_lots.nd (it_rg1 (x_cons (x_var (pv 1)) x_nil) B.b_range) (blkOk_by (by kernel_rfl)) (by decide) (fun _ _ _ _ _ => (g_name sc_are_lots.nd rfl (by first | exact .inl rfl | exact .inr rfl))) (fun _ _ _ _ _ => ts_nil) (fun _ _ _ _ _ => (x_any ((cn).blk) B.b_any (x_cons (x_lc (own := false) (onames := [("lot", 3)]) (sl := [3]) ((cn).blk) sc_are_lots.nd (it_seq (x_var (pv 0))) (blkOk_by (by kernel_rfl)) (by decide) (fun _ _ _ _ _ => (g_name sc_are_lots.nd rfl (by first | exact .inl rfl | exact .inr rfl))) (fun _ _ _ _ _ => ts_nil) (fun _ _ _ _ _ => (x_in ((((cn).blk)).blk) (x_var (pv 5)) (x_var (pv 3))))) x_nil)))) x_nil)))))))
theorem g_in_tuples_ {P : Program} {w : World} {K : PySem.W.Frag} {mg : Str → Option Value} {base : Heap} (B : Bu P w K mg base) : ∀ n : Nat, FunE P w K mg base (0 + n) "in_tuples" ["value"] (F_in_tuples_ n)
  | 0 => (FunE.bad B.d_in_tuples B.m_in_tuples (fun _ _ _ _ _ _ us hl => match us, hl with | [_], _ => rfl))
  | n + 1 => FunE.of (own := false) B.d_in_tuples B.m_in_tuples sc_in_tuples rfl (fun _ _ _ _ _ _ us hl => match us, hl with | [_], _ => rfl)
    fun cdv A outer s H E hr cn tk hp => (s_cons (s_if (t_not (t_val (x_isi B.b_isinstance (x_cons (x_var (pv 0)) (x_cons (x_tup (x_cons (x_ty B.b_tuple) (x_cons (x_ty B.b_list) x_nil))) x_nil))) (fun _ => rfl))) (s_one (s_ret (x_var (pv 0)))) s_nil)
  (s_one (s_ret (x_tuple B.b_tuple (x_cons (x_lc (own := false) (onames := [("item", 1)]) (sl := [1]) cn sc_in_tuples.nd (it_seq (x_var (pv 0))) (blkOk_by (by kernel_rfl)) (by decide) (fun _ _ _ _ _ => (g_name sc_in_tuples.nd rfl (by first | exact .inl rfl | exact .inr rfl))) (fun _ _ _ _ _ => ts_nil) (fun _ _ _ _ _ => (x_callE (g_in_tuples_ B n) hr (Nat.le_refl _) ((cn).blk) LamX.takes0 (x_cons (x_var (pv 1)) x_nil)))) x_nil)))))
theorem g_in_tuples {P : Program} {w : World} {K : PySem.W.Frag} {mg : Str → Option Value} {base : Heap} (B : Bu P w K mg base) : FunE P w K mg base 12 "in_tuples" ["value"] F_in_tuples := g_in_tuples_ B 12
theorem g_Scene___init__ {P : Program} {w : World} {K : PySem.W.Frag} {mg : Str → Option Value} {base : Heap} (B : Bu P w K mg base) : MthE P w K mg base 13 (He.ga K "Scene") (He.ma K (He.ga K "Scene") "__init__") ["self", "answers", "lots"] F_Scene___init__ :=
  MthE.of (own := false) B.d_Scene___init__ sc_Scene___init__ rfl (fun _ _ _ _ _ _ us hl => match us, hl with | [_, _, _], _ => rfl)
    fun cdv A outer s H E hr cn tk hp => (s_cons (s_set sc_Scene___init__.nd rfl (by first | exact .inl rfl | exact .inr rfl) (x_callE (g_in_tuples B) hr (by decide) cn tk (x_cons (x_var (pv 1)) x_nil)))
  (s_cons (s_if (t_w (w_or (t_not (t_val (x_isi B.b_isinstance (x_cons (x_var (pv 3)) (x_cons (x_ty B.b_tuple) x_nil))) (fun _ => rfl))) (w_or1 (t_not (t_ch (p := (fun i j => decide (i ≤ j))) (q := (fun i j => decide (i ≤ j))) op_le op_le x_int (x_len B.b_len (x_cons (x_var (pv 3)) x_nil)) (x_gint B.c_MOST_QUESTIONS)))))) (s_one (s_raiseE B.e_BadScene (by decide) hr (by decide) cn tk (x_cons x_str (x_cons (x_var (pv 1)) x_nil)))) s_nil)
  (s_cons (s_if (t_not (t_val (x_all cn B.b_all (x_cons (x_lc (own := false) (onames := [("item", 5)]) (sl := [5]) cn sc_Scene___init__.nd (it_seq (x_var (pv 3))) (blkOk_by (by kernel_rfl)) (by decide) (fun _ _ _ _ _ => (g_name sc_Scene___init__.nd rfl (by first | exact .inl rfl | exact .inr rfl))) (fun _ _ _ _ _ => ts_nil) (fun _ _ _ _ _ => (x_and (x_callE (g_is_whole B) hr (by decide) ((cn).blk) LamX.takes0 (x_cons (x_var (pv 5)) x_nil)) (x_one (x_ch (p := (fun i j => decide (i ≤ j))) (q := (fun i j => decide (i ≤ j))) op_le op_le x_int (x_var (pv 5)) x_int))))) x_nil)) (fun _ => rfl))) (s_one (s_raiseE B.e_BadScene (by decide) hr (by decide) cn tk (x_cons x_str (x_cons (x_var (pv 1)) x_nil)))) s_nil)
  (s_cons (s_set sc_Scene___init__.nd rfl (by first | exact .inl rfl | exact .inr rfl) (x_callE (g_in_tuples B) hr (by decide) cn tk (x_cons (x_var (pv 2)) x_nil)))
  (s_cons (s_if (t_not (t_val (x_callE (g_are_lots B) hr (by decide) cn tk (x_cons (x_var (pv 4)) (x_cons (x_len B.b_len (x_cons (x_var (pv 3)) x_nil)) x_nil))) (fun _ => rfl))) (s_one (s_raiseE B.e_BadScene (by decide) hr (by decide) cn tk (x_cons x_str (x_cons (x_var (pv 2)) x_nil)))) s_nil)
  (s_cons (s_fst (fl_Scene__answers B) (x_var (pv 0)) (x_var (pv 3)))
  (s_one (s_fst (fl_Scene__lots B) (x_var (pv 0)) (x_var (pv 4))))))))))
theorem g_Scene___ne__ {P : Program} {w : World} {K : PySem.W.Frag} {mg : Str → Option Value} {base : Heap} (B : Bu P w K mg base) : MthE P w K mg base 2 (He.ga K "Scene") (He.ma K (He.ga K "Scene") "__ne__") ["self", "other"] F_Scene___ne__ :=
  MthE.of (own := false) B.d_Scene___ne__ sc_Scene___ne__ rfl (fun _ _ _ _ _ _ us hl => match us, hl with | [_, _], _ => rfl)
    fun cdv A outer s H E hr cn tk hp => (s_one (s_ret (x_not (x_eqG (kq_Scene___eq__ B) (hr.mono (by decide)) cn (x_var (pv 0)) (x_var (pv 1))))))
theorem kq_Scene___ne__ {P : Program} {w : World} {K : PySem.W.Frag} {mg : Str → Option Value} {base : Heap} (B : Bu P w K mg base) : EqOk P w K mg base 2 "__ne__" ["Scene"] (eqT1 "Scene" F_Scene___ne__) :=
  eqOk1 (eqB_ok B.eq_Scene___ne__ B.k_Scene.m (by
    intro c hc
    simp only [List.mem_cons, List.not_mem_nil, or_false] at hc
    subst hc
    exact ⟨_, B.k_Scene⟩) (g_Scene___ne__ B) rfl)
theorem g_all_rows {P : Program} {w : World} {K : PySem.W.Frag} {mg : Str → Option Value} {base : Heap} (B : Bu P w K mg base) : FunE P w K mg base 1 "all_rows" ["answers"] F_all_rows :=
  FunE.of (own := false) B.d_all_rows B.m_all_rows sc_all_rows rfl (fun _ _ _ _ _ _ us hl => match us, hl with | [_], _ => rfl)
    fun cdv A outer s H E hr cn tk hp => (s_cons (s_set sc_all_rows.nd rfl (by first | exact .inl rfl | exact .inr rfl) (x_lst (own := false) (x_cons (x_tup x_nil) x_nil)))
  (s_cons (s_for (sl := [2]) hp cn.calm (it_seq (x_var (pv 0))) (g_name sc_all_rows.nd rfl (by first | exact .inl rfl | exact .inr rfl)) (s_cons (s_set sc_all_rows.nd rfl (by first | exact .inl rfl | exact .inr rfl) (x_lst (own := false) x_nil))
  (s_cons (s_for (sl := [4]) hp cn.calm (it_seq (x_var (pv 1))) (g_name sc_all_rows.nd rfl (by first | exact .inl rfl | exact .inr rfl)) (s_one (s_set sc_all_rows.nd rfl (by first | exact .inl rfl | exact .inr rfl) (x_add (own := false) (x_var (pv 3)) (x_lc (own := false) (onames := [("answer", 5)]) (sl := [5]) cn sc_all_rows.nd (it_rg1 (x_cons (x_var (pv 2)) x_nil) B.b_range) (blkOk_by (by kernel_rfl)) (by decide) (fun _ _ _ _ _ => (g_name sc_all_rows.nd rfl (by first | exact .inl rfl | exact .inr rfl))) (fun _ _ _ _ _ => ts_nil) (fun _ _ _ _ _ => (x_add (own := false) (x_var (pv 4)) (x_tup (x_cons (x_var (pv 5)) x_nil)))))))))
  (s_one (s_set sc_all_rows.nd rfl (by first | exact .inl rfl | exact .inr rfl) (x_var (pv 3)))))))
  (s_one (s_ret (x_var (pv 1))))))
theorem g_product_of {P : Program} {w : World} {K : PySem.W.Frag} {mg : Str → Option Value} {base : Heap} (B : Bu P w K mg base) : FunE P w K mg base 1 "product_of" ["numbers"] F_product_of :=
  FunE.of (own := false) B.d_product_of B.m_product_of sc_product_of rfl (fun _ _ _ _ _ _ us hl => match us, hl with | [_], _ => rfl)
    fun cdv A outer s H E hr cn tk hp => (s_cons (s_set sc_product_of.nd rfl (by first | exact .inl rfl | exact .inr rfl) x_int)
  (s_cons (s_for (sl := [2]) hp cn.calm (it_seq (x_var (pv 0))) (g_name sc_product_of.nd rfl (by first | exact .inl rfl | exact .inr rfl)) (s_one (s_set sc_product_of.nd rfl (by first | exact .inl rfl | exact .inr rfl) (x_mul (own := false) (x_var (pv 1)) (x_var (pv 2))))))
  (s_one (s_ret (x_var (pv 1))))))
theorem g_need_few {P : Program} {w : World} {K : PySem.W.Frag} {mg : Str → Option Value} {base : Heap} (B : Bu P w K mg base) : FunE P w K mg base 3 "need_few" ["scene"] F_need_few :=
  FunE.of (own := false) B.d_need_few B.m_need_few sc_need_few rfl (fun _ _ _ _ _ _ us hl => match us, hl with | [_], _ => rfl)
    fun cdv A outer s H E hr cn tk hp => (s_cons (s_set sc_need_few.nd rfl (by first | exact .inl rfl | exact .inr rfl) (x_callE (g_product_of B) hr (by decide) cn tk (x_cons (x_fld (fl_Scene__answers B) (x_var (pv 0))) x_nil)))
  (s_one (s_if (t_gt (x_var (pv 1)) (x_gint B.c_MOST_PLANS)) (s_one (s_raiseE B.e_TooMany (by decide) hr (by decide) cn tk (x_cons x_str (x_cons (x_var (pv 1)) (x_cons (x_gint B.c_MOST_PLANS) x_nil))))) s_nil)))
theorem g_need_scene {P : Program} {w : World} {K : PySem.W.Frag} {mg : Str → Option Value} {base : Heap} (B : Bu P w K mg base) : FunE P w K mg base 3 "need_scene" ["scene"] F_need_scene :=
  FunE.of (own := false) B.d_need_scene B.m_need_scene sc_need_scene rfl (fun _ _ _ _ _ _ us hl => match us, hl with | [_], _ => rfl)
    fun cdv A outer s H E hr cn tk hp => (s_one (s_if (t_not (t_val (x_isiO B.is_Scene B.b_isinstance (x_var (pv 0))) (fun _ => rfl))) (s_one (s_raiseE B.e_Unlike (by decide) hr (by decide) cn tk (x_cons x_str x_nil))) s_nil))
theorem g_plans {P : Program} {w : World} {K : PySem.W.Frag} {mg : Str → Option Value} {base : Heap} (B : Bu P w K mg base) : FunE P w K mg base 4 "plans" ["scene"] F_plans :=
  FunE.of (own := false) B.d_plans B.m_plans sc_plans rfl (fun _ _ _ _ _ _ us hl => match us, hl with | [_], _ => rfl)
    fun cdv A outer s H E hr cn tk hp => (s_cons (s_expr (x_callE (g_need_scene B) hr (by decide) cn tk (x_cons (x_var (pv 0)) x_nil)))
  (s_cons (s_expr (x_callE (g_need_few B) hr (by decide) cn tk (x_cons (x_var (pv 0)) x_nil)))
  (s_one (s_ret (x_tuple B.b_tuple (x_cons (x_callE (g_all_rows B) hr (by decide) cn tk (x_cons (x_fld (fl_Scene__answers B) (x_var (pv 0))) x_nil)) x_nil))))))
theorem g_many_plans {P : Program} {w : World} {K : PySem.W.Frag} {mg : Str → Option Value} {base : Heap} (B : Bu P w K mg base) : FunE P w K mg base 4 "many_plans" ["scene"] F_many_plans :=
  FunE.of (own := false) B.d_many_plans B.m_many_plans sc_many_plans rfl (fun _ _ _ _ _ _ us hl => match us, hl with | [_], _ => rfl)
    fun cdv A outer s H E hr cn tk hp => (s_cons (s_expr (x_callE (g_need_scene B) hr (by decide) cn tk (x_cons (x_var (pv 0)) x_nil)))
  (s_one (s_ret (x_callE (g_product_of B) hr (by decide) cn tk (x_cons (x_fld (fl_Scene__answers B) (x_var (pv 0))) x_nil)))))
theorem g_lot_rows {P : Program} {w : World} {K : PySem.W.Frag} {mg : Str → Option Value} {base : Heap} (B : Bu P w K mg base) : FunE P w K mg base 2 "lot_rows" ["scene", "number"] F_lot_rows :=
  FunE.of (own := false) B.d_lot_rows B.m_lot_rows sc_lot_rows rfl (fun _ _ _ _ _ _ us hl => match us, hl with | [_, _], _ => rfl)
    fun cdv A outer s H E hr cn tk hp => (s_one (s_ret (x_callE (g_all_rows B) hr (by decide) cn tk (x_cons (x_lc (own := false) (onames := [("question", 2)]) (sl := [2]) cn sc_lot_rows.nd (it_seq (x_ix (x_fld (fl_Scene__lots B) (x_var (pv 0))) (x_var (pv 1)) (fun _ _ => rfl))) (blkOk_by (by kernel_rfl)) (by decide) (fun _ _ _ _ _ => (g_name sc_lot_rows.nd rfl (by first | exact .inl rfl | exact .inr rfl))) (fun _ _ _ _ _ => ts_nil) (fun _ _ _ _ _ => (x_ix (x_fld (fl_Scene__answers B) (x_var (pv 0))) (x_var (pv 2)) (fun _ _ => rfl)))) x_nil))))
theorem g_need_between {P : Program} {w : World} {K : PySem.W.Frag} {mg : Str → Option Value} {base : Heap} (B : Bu P w K mg base) : FunE P w K mg base 3 "need_between" ["what", "number", "low", "high"] F_need_between :=
  FunE.of (own := false) B.d_need_between B.m_need_between sc_need_between rfl (fun _ _ _ _ _ _ us hl => match us, hl with | [_, _, _, _], _ => rfl)
    fun cdv A outer s H E hr cn tk hp => (s_cons (s_if (t_not (t_val (x_callE (g_is_whole B) hr (by decide) cn tk (x_cons (x_var (pv 1)) x_nil)) (fun _ => rfl))) (s_one (s_raiseE B.e_BadNumber (by decide) hr (by decide) cn tk (x_cons (x_var (pv 0)) (x_cons (x_var (pv 1)) x_nil)))) s_nil)
  (s_one (s_if (t_w (w_or (t_w (w_and (t_isnot (x_var (pv 2)) x_non) (w_and1 (t_lt (x_var (pv 1)) (x_var (pv 2)))))) (w_or1 (t_w (w_and (t_isnot (x_var (pv 3)) x_non) (w_and1 (t_gt (x_var (pv 1)) (x_var (pv 3))))))))) (s_one (s_raiseE B.e_BadNumber (by decide) hr (by decide) cn tk (x_cons (x_var (pv 0)) (x_cons (x_var (pv 1)) x_nil)))) s_nil)))
theorem g_need_number {P : Program} {w : World} {K : PySem.W.Frag} {mg : Str → Option Value} {base : Heap} (B : Bu P w K mg base) : FunE P w K mg base 4 "need_number" ["scene", "number"] F_need_number :=
  FunE.of (own := false) B.d_need_number B.m_need_number sc_need_number rfl (fun _ _ _ _ _ _ us hl => match us, hl with | [_, _], _ => rfl)
    fun cdv A outer s H E hr cn tk hp => (s_one (s_expr (x_callE (g_need_between B) hr (by decide) cn tk (x_cons x_str (x_cons (x_var (pv 1)) (x_cons x_int (x_cons (x_sub (x_len B.b_len (x_cons (x_fld (fl_Scene__lots B) (x_var (pv 0))) x_nil)) x_int) x_nil)))))))
theorem g_rows_of {P : Program} {w : World} {K : PySem.W.Frag} {mg : Str → Option Value} {base : Heap} (B : Bu P w K mg base) : FunE P w K mg base 5 "rows_of" ["scene", "number"] F_rows_of :=
  FunE.of (own := false) B.d_rows_of B.m_rows_of sc_rows_of rfl (fun _ _ _ _ _ _ us hl => match us, hl with | [_, _], _ => rfl)
    fun cdv A outer s H E hr cn tk hp => (s_cons (s_expr (x_callE (g_need_scene B) hr (by decide) cn tk (x_cons (x_var (pv 0)) x_nil)))
  (s_cons (s_expr (x_callE (g_need_number B) hr (by decide) cn tk (x_cons (x_var (pv 0)) (x_cons (x_var (pv 1)) x_nil))))
  (s_one (s_ret (x_tuple B.b_tuple (x_cons (x_callE (g_lot_rows B) hr (by decide) cn tk (x_cons (x_var (pv 0)) (x_cons (x_var (pv 1)) x_nil))) x_nil))))))
theorem g_is_tuple_of {P : Program} {w : World} {K : PySem.W.Frag} {mg : Str → Option Value} {base : Heap} (B : Bu P w K mg base) : FunE P w K mg base 1 "is_tuple_of" ["value", "many"] F_is_tuple_of :=
  FunE.of (own := false) B.d_is_tuple_of B.m_is_tuple_of sc_is_tuple_of rfl (fun _ _ _ _ _ _ us hl => match us, hl with | [_, _], _ => rfl)
    fun cdv A outer s H E hr cn tk hp => (s_one (s_ret (x_and (x_isi B.b_isinstance (x_cons (x_var (pv 0)) (x_cons (x_ty B.b_tuple) x_nil))) (x_one (x_eq cn (x_len B.b_len (x_cons (x_var (pv 0)) x_nil)) (x_var (pv 1)))))))
theorem g_is_row_of {P : Program} {w : World} {K : PySem.W.Frag} {mg : Str → Option Value} {base : Heap} (B : Bu P w K mg base) : FunE P w K mg base 2 "is_row_of" ["value", "answers"] F_is_row_of :=
  FunE.of (own := false) B.d_is_row_of B.m_is_row_of sc_is_row_of rfl (fun _ _ _ _ _ _ us hl => match us, hl with | [_, _], _ => rfl)
    fun cdv A outer s H E hr cn tk hp => (s_cons (s_if (t_not (t_val (x_callE (g_is_tuple_of B) hr (by decide) cn tk (x_cons (x_var (pv 0)) (x_cons (x_len B.b_len (x_cons (x_var (pv 1)) x_nil)) x_nil))) (fun _ => rfl))) (s_one (s_ret x_bl)) s_nil)
  (s_one (s_ret (x_all cn B.b_all (x_cons (x_lc (own := false) (onames := [("item", 2), ("many", 3)]) (sl := [2, 3]) cn sc_is_row_of.nd (it_zip2 (x_cons (x_var (pv 0)) (x_cons (x_var (pv 1)) x_nil)) B.b_zip) (blkOk_by (by kernel_rfl)) (by decide) (fun _ _ _ _ _ => (g_tup ((cn).blk).calm (g_cons (g_name sc_is_row_of.nd rfl (by first | exact .inl rfl | exact .inr rfl)) (g_cons (g_name sc_is_row_of.nd rfl (by first | exact .inl rfl | exact .inr rfl)) g_nil)))) (fun _ _ _ _ _ => ts_nil) (fun _ _ _ _ _ => (x_and (x_callE (g_is_whole B) hr (by decide) ((cn).blk) LamX.takes0 (x_cons (x_var (pv 2)) x_nil)) (x_one (x_ch (p := (fun i j => decide (i ≤ j))) (q := (fun i j => decide (i < j))) op_le op_lt x_int (x_var (pv 2)) (x_var (pv 3))))))) x_nil)))))
theorem g_plan_from {P : Program} {w : World} {K : PySem.W.Frag} {mg : Str → Option Value} {base : Heap} (B : Bu P w K mg base) : FunE P w K mg base 13 "plan_from" ["scene", "plan"] F_plan_from :=
  FunE.of (own := false) B.d_plan_from B.m_plan_from sc_plan_from rfl (fun _ _ _ _ _ _ us hl => match us, hl with | [_, _], _ => rfl)
    fun cdv A outer s H E hr cn tk hp => (s_cons (s_set sc_plan_from.nd rfl (by first | exact .inl rfl | exact .inr rfl) (x_callE (g_in_tuples B) hr (by decide) cn tk (x_cons (x_var (pv 1)) x_nil)))
  (s_cons (s_if (t_not (t_val (x_callE (g_is_row_of B) hr (by decide) cn tk (x_cons (x_var (pv 2)) (x_cons (x_fld (fl_Scene__answers B) (x_var (pv 0))) x_nil))) (fun _ => rfl))) (s_one (s_raiseE B.e_BadRow (by decide) hr (by decide) cn tk (x_cons (x_var (pv 1)) x_nil))) s_nil)
  (s_one (s_ret (x_var (pv 2))))))
theorem g_seen_by {P : Program} {w : World} {K : PySem.W.Frag} {mg : Str → Option Value} {base : Heap} (B : Bu P w K mg base) : FunE P w K mg base 1 "seen_by" ["scene", "plan", "number"] F_seen_by :=
  FunE.of (own := false) B.d_seen_by B.m_seen_by sc_seen_by rfl (fun _ _ _ _ _ _ us hl => match us, hl with | [_, _, _], _ => rfl)
    fun cdv A outer s H E hr cn tk hp => (s_one (s_ret (x_tuple B.b_tuple (x_cons (x_lc (own := false) (onames := [("question", 3)]) (sl := [3]) cn sc_seen_by.nd (it_seq (x_ix (x_fld (fl_Scene__lots B) (x_var (pv 0))) (x_var (pv 2)) (fun _ _ => rfl))) (blkOk_by (by kernel_rfl)) (by decide) (fun _ _ _ _ _ => (g_name sc_seen_by.nd rfl (by first | exact .inl rfl | exact .inr rfl))) (fun _ _ _ _ _ => ts_nil) (fun _ _ _ _ _ => (x_ix (x_var (pv 1)) (x_var (pv 3)) (fun _ _ => rfl)))) x_nil))))
theorem g_seen {P : Program} {w : World} {K : PySem.W.Frag} {mg : Str → Option Value} {base : Heap} (B : Bu P w K mg base) : FunE P w K mg base 14 "seen" ["scene", "plan", "number"] F_seen :=
  FunE.of (own := false) B.d_seen B.m_seen sc_seen rfl (fun _ _ _ _ _ _ us hl => match us, hl with | [_, _, _], _ => rfl)
    fun cdv A outer s H E hr cn tk hp => (s_cons (s_expr (x_callE (g_need_scene B) hr (by decide) cn tk (x_cons (x_var (pv 0)) x_nil)))
  (s_cons (s_set sc_seen.nd rfl (by first | exact .inl rfl | exact .inr rfl) (x_callE (g_plan_from B) hr (by decide) cn tk (x_cons (x_var (pv 0)) (x_cons (x_var (pv 1)) x_nil))))
  (s_cons (s_expr (x_callE (g_need_number B) hr (by decide) cn tk (x_cons (x_var (pv 0)) (x_cons (x_var (pv 2)) x_nil))))
  (s_one (s_ret (x_callE (g_seen_by B) hr (by decide) cn tk (x_cons (x_var (pv 0)) (x_cons (x_var (pv 3)) (x_cons (x_var (pv 2)) x_nil)))))))))
def lam_0 : LamI := lamI (defBody (top 46)) "law.<locals>.<lambda>" 0 ["bad", "odd"]
def lam_1 : LamI := lamI (defBody (top 46)) "law.<locals>.<lambda>" 1 ["answers", "odd"]
def lam_2 : LamI := lamI (defBody (top 46)) "law.<locals>.<lambda>" 2 ["answers"]
def lam_3 : LamI := lamI (defBody (top 46)) "law.<locals>.<lambda>" 3 ["wide"]
def lam_4 : LamI := lamI (defBody (top 46)) "law.<locals>.<lambda>" 4 []
def lam_5 : LamI := lamI (defBody (top 46)) "law.<locals>.<lambda>" 5 ["one", "low"]
def lam_6 : LamI := lamI (defBody (top 46)) "law.<locals>.<lambda>" 6 ["one", "low", "wrong"]
def lam_7 : LamI := lamI (defBody (top 46)) "law.<locals>.<lambda>" 7 ["one", "plan", "low"]
def lam_8 : LamI := lamI (defBody (top 46)) "law.<locals>.<lambda>" 8 ["lots", "low", "wrong"]
noncomputable def B_0 : Sm := (evA (evCons (evVar 0) (evCons (evVar 1) evNil)) (mkI "Scene" 3 F_Scene___init__))
noncomputable def B_1 : Sm := (evA (evCons (evVar 0) (evCons (evVar 1) evNil)) (mkI "Scene" 3 F_Scene___init__))
noncomputable def B_2 : Sm := (evA (evCons (evVar 0) evNil) (callF 1 [] F_plans))
noncomputable def B_3 : Sm := (evA (evCons (evVar 0) evNil) (callF 1 [] F_plans))
noncomputable def B_4 : Sm := (evA (evCons (evC .non) evNil) (callF 1 [] F_many_plans))
noncomputable def B_5 : Sm := (evA (evCons (evVar 0) (evCons (evVar 1) evNil)) (callF 2 [] F_rows_of))
noncomputable def B_6 : Sm := (evA (evCons (evVar 0) (evCons (evVar 2) (evCons (evVar 1) evNil))) (callF 3 [] F_seen))
noncomputable def B_7 : Sm := (evA (evCons (evVar 0) (evCons (evVar 1) (evCons (evVar 2) evNil))) (callF 3 [] F_seen))
noncomputable def B_8 : Sm := (evA (evCons (evVar 0) (evCons (evVar 2) (evCons (evVar 1) evNil))) (callF 3 [] F_seen))
noncomputable def tab : LamI → List D → Store → Res := fun l cs S => match l.i with
  | 0 => if l = lam_0 then runL B_0 cs S else .bad
  | 1 => if l = lam_1 then runL B_1 cs S else .bad
  | 2 => if l = lam_2 then runL B_2 cs S else .bad
  | 3 => if l = lam_3 then runL B_3 cs S else .bad
  | 4 => if l = lam_4 then runL B_4 cs S else .bad
  | 5 => if l = lam_5 then runL B_5 cs S else .bad
  | 6 => if l = lam_6 then runL B_6 cs S else .bad
  | 7 => if l = lam_7 then runL B_7 cs S else .bad
  | 8 => if l = lam_8 then runL B_8 cs S else .bad
  | _ => .bad
theorem lg_0 {P : Program} {w : World} {K : PySem.W.Frag} {mg : Str → Option Value} {base : Heap} (B : Bu P w K mg base) : LamG P w K mg base 14 lam_0 B_0 := ⟨⟨rfl, rfl, rfl, by decide +kernel, by decide +kernel, fun _ _ _ _ => rfl⟩, fun f c' cl A outer s H E hr cn tk => (x_makeE (g_Scene___init__ B) B.mk_Scene hr (by decide) cn tk (x_cons (x_var (pv 0)) (x_cons (x_var (pv 1)) x_nil)))⟩
theorem lg_1 {P : Program} {w : World} {K : PySem.W.Frag} {mg : Str → Option Value} {base : Heap} (B : Bu P w K mg base) : LamG P w K mg base 14 lam_1 B_1 := ⟨⟨rfl, rfl, rfl, by decide +kernel, by decide +kernel, fun _ _ _ _ => rfl⟩, fun f c' cl A outer s H E hr cn tk => (x_makeE (g_Scene___init__ B) B.mk_Scene hr (by decide) cn tk (x_cons (x_var (pv 0)) (x_cons (x_var (pv 1)) x_nil)))⟩
theorem lg_2 {P : Program} {w : World} {K : PySem.W.Frag} {mg : Str → Option Value} {base : Heap} (B : Bu P w K mg base) : LamG P w K mg base 14 lam_2 B_2 := ⟨⟨rfl, rfl, rfl, by decide +kernel, by decide +kernel, fun _ _ _ _ => rfl⟩, fun f c' cl A outer s H E hr cn tk => (x_callE (g_plans B) hr (by decide) cn tk (x_cons (x_var (pv 0)) x_nil))⟩
theorem lg_3 {P : Program} {w : World} {K : PySem.W.Frag} {mg : Str → Option Value} {base : Heap} (B : Bu P w K mg base) : LamG P w K mg base 14 lam_3 B_3 := ⟨⟨rfl, rfl, rfl, by decide +kernel, by decide +kernel, fun _ _ _ _ => rfl⟩, fun f c' cl A outer s H E hr cn tk => (x_callE (g_plans B) hr (by decide) cn tk (x_cons (x_var (pv 0)) x_nil))⟩
theorem lg_4 {P : Program} {w : World} {K : PySem.W.Frag} {mg : Str → Option Value} {base : Heap} (B : Bu P w K mg base) : LamG P w K mg base 14 lam_4 B_4 := ⟨⟨rfl, rfl, rfl, by decide +kernel, by decide +kernel, fun _ _ _ _ => rfl⟩, fun f c' cl A outer s H E hr cn tk => (x_callE (g_many_plans B) hr (by decide) cn tk (x_cons x_non x_nil))⟩
theorem lg_5 {P : Program} {w : World} {K : PySem.W.Frag} {mg : Str → Option Value} {base : Heap} (B : Bu P w K mg base) : LamG P w K mg base 14 lam_5 B_5 := ⟨⟨rfl, rfl, rfl, by decide +kernel, by decide +kernel, fun _ _ _ _ => rfl⟩, fun f c' cl A outer s H E hr cn tk => (x_callE (g_rows_of B) hr (by decide) cn tk (x_cons (x_var (pv 0)) (x_cons (x_var (pv 1)) x_nil)))⟩
theorem lg_6 {P : Program} {w : World} {K : PySem.W.Frag} {mg : Str → Option Value} {base : Heap} (B : Bu P w K mg base) : LamG P w K mg base 14 lam_6 B_6 := ⟨⟨rfl, rfl, rfl, by decide +kernel, by decide +kernel, fun _ _ _ _ => rfl⟩, fun f c' cl A outer s H E hr cn tk => (x_callE (g_seen B) hr (by decide) cn tk (x_cons (x_var (pv 0)) (x_cons (x_var (pv 2)) (x_cons (x_var (pv 1)) x_nil))))⟩
theorem lg_7 {P : Program} {w : World} {K : PySem.W.Frag} {mg : Str → Option Value} {base : Heap} (B : Bu P w K mg base) : LamG P w K mg base 14 lam_7 B_7 := ⟨⟨rfl, rfl, rfl, by decide +kernel, by decide +kernel, fun _ _ _ _ => rfl⟩, fun f c' cl A outer s H E hr cn tk => (x_callE (g_seen B) hr (by decide) cn tk (x_cons (x_var (pv 0)) (x_cons (x_var (pv 1)) (x_cons (x_var (pv 2)) x_nil))))⟩
theorem lg_8 {P : Program} {w : World} {K : PySem.W.Frag} {mg : Str → Option Value} {base : Heap} (B : Bu P w K mg base) : LamG P w K mg base 14 lam_8 B_8 := ⟨⟨rfl, rfl, rfl, by decide +kernel, by decide +kernel, fun _ _ _ _ => rfl⟩, fun f c' cl A outer s H E hr cn tk => (x_callE (g_seen B) hr (by decide) cn tk (x_cons (x_var (pv 0)) (x_cons (x_var (pv 2)) (x_cons (x_var (pv 1)) x_nil))))⟩
noncomputable def tb : TabK := ⟨kn, tab⟩
theorem tabOk {P : Program} {w : World} {K : PySem.W.Frag} {mg : Str → Option Value} {base : Heap} (B : Bu P w K mg base) : TabOk P w K mg base 14 tab := by
  intro l cs S
  unfold tab
  split
  · split
    · rename_i h; subst h; exact .inr ⟨B_0, lg_0 B, rfl⟩
    · exact .inl rfl
  · split
    · rename_i h; subst h; exact .inr ⟨B_1, lg_1 B, rfl⟩
    · exact .inl rfl
  · split
    · rename_i h; subst h; exact .inr ⟨B_2, lg_2 B, rfl⟩
    · exact .inl rfl
  · split
    · rename_i h; subst h; exact .inr ⟨B_3, lg_3 B, rfl⟩
    · exact .inl rfl
  · split
    · rename_i h; subst h; exact .inr ⟨B_4, lg_4 B, rfl⟩
    · exact .inl rfl
  · split
    · rename_i h; subst h; exact .inr ⟨B_5, lg_5 B, rfl⟩
    · exact .inl rfl
  · split
    · rename_i h; subst h; exact .inr ⟨B_6, lg_6 B, rfl⟩
    · exact .inl rfl
  · split
    · rename_i h; subst h; exact .inr ⟨B_7, lg_7 B, rfl⟩
    · exact .inl rfl
  · split
    · rename_i h; subst h; exact .inr ⟨B_8, lg_8 B, rfl⟩
    · exact .inl rfl
  · exact .inl rfl
theorem g__law_fault {P : Program} {w : World} {K : PySem.W.Frag} {mg : Str → Option Value} {base : Heap} (B : Bu P w K mg base) : FunE P w K mg base 16 "_law_fault" ["work"] (F__law_fault tb) :=
  FunE.of (own := false) B.d__law_fault B.m__law_fault sc__law_fault rfl (fun _ _ _ _ _ _ us hl => match us, hl with | [_], _ => rfl)
    fun cdv A outer s H E hr cn tk hp => (s_cons (s_tryF (i := 1) (n := "fault") rfl rfl sc__law_fault.nd rfl rfl tk B.kin (fun W' pn xe tk' hp' => (s_one (s_expr (x_callV (tabOk B) (hr.mono (by decide)) ((cn).tr) tk' (pv 0))))) (.cons (h := ⟨"BadLot", "lot", ["lot"]⟩) B.x_BadLot.2.2 rfl (by decide) (fun a ox cls d pn hz hf => pss_retF (pa_cons pe_str (pa_cons (pe_xf B.x_BadLot.1 (B.x_BadLot.2.1 "lot" (by decide)) hz hf (pv 1)) pa_nil))) (.cons (h := ⟨"BadNumber", "number", ["what", "number"]⟩) B.x_BadNumber.2.2 rfl (by decide) (fun a ox cls d pn hz hf => pss_retF (pa_cons pe_str (pa_cons (pe_xf B.x_BadNumber.1 (B.x_BadNumber.2.1 "what" (by decide)) hz hf (pv 1)) (pa_cons (pe_xf B.x_BadNumber.1 (B.x_BadNumber.2.1 "number" (by decide)) hz hf (pv 1)) pa_nil)))) (.cons (h := ⟨"BadRow", "row", ["row"]⟩) B.x_BadRow.2.2 rfl (by decide) (fun a ox cls d pn hz hf => pss_retF (pa_cons pe_str (pa_cons (pe_xf B.x_BadRow.1 (B.x_BadRow.2.1 "row" (by decide)) hz hf (pv 1)) pa_nil))) (.cons (h := ⟨"BadScene", "scene", ["what", "value"]⟩) B.x_BadScene.2.2 rfl (by decide) (fun a ox cls d pn hz hf => pss_retF (pa_cons pe_str (pa_cons (pe_xf B.x_BadScene.1 (B.x_BadScene.2.1 "what" (by decide)) hz hf (pv 1)) (pa_cons (pe_xf B.x_BadScene.1 (B.x_BadScene.2.1 "value" (by decide)) hz hf (pv 1)) pa_nil)))) (.cons (h := ⟨"BadTable", "table", ["table"]⟩) B.x_BadTable.2.2 rfl (by decide) (fun a ox cls d pn hz hf => pss_retF (pa_cons pe_str (pa_cons (pe_xf B.x_BadTable.1 (B.x_BadTable.2.1 "table" (by decide)) hz hf (pv 1)) pa_nil))) (.cons (h := ⟨"TooMany", "many", ["what", "many", "limit"]⟩) B.x_TooMany.2.2 rfl (by decide) (fun a ox cls d pn hz hf => pss_retF (pa_cons pe_str (pa_cons (pe_xf B.x_TooMany.1 (B.x_TooMany.2.1 "what" (by decide)) hz hf (pv 1)) (pa_cons (pe_xf B.x_TooMany.1 (B.x_TooMany.2.1 "many" (by decide)) hz hf (pv 1)) (pa_cons (pe_xf B.x_TooMany.1 (B.x_TooMany.2.1 "limit" (by decide)) hz hf (pv 1)) pa_nil))))) (.cons (h := ⟨"Unlike", "unlike", ["what"]⟩) B.x_Unlike.2.2 rfl (by decide) (fun a ox cls d pn hz hf => pss_retF (pa_cons pe_str (pa_cons (pe_xf B.x_Unlike.1 (B.x_Unlike.2.1 "what" (by decide)) hz hf (pv 1)) pa_nil))) .nil))))))))
  (s_one (s_ret x_non)))
theorem g__law_are_due {P : Program} {w : World} {K : PySem.W.Frag} {mg : Str → Option Value} {base : Heap} (B : Bu P w K mg base) : FunE P w K mg base 17 "_law_are_due" ["tries"] (F__law_are_due tb) :=
  FunE.of (own := false) B.d__law_are_due B.m__law_are_due sc__law_are_due rfl (fun _ _ _ _ _ _ us hl => match us, hl with | [_], _ => rfl)
    fun cdv A outer s H E hr cn tk hp => (s_one (s_ret (x_all cn B.b_all (x_cons (x_lc (own := false) (onames := [("work", 1), ("due", 2)]) (sl := [1, 2]) cn sc__law_are_due.nd (it_seq (x_var (pv 0))) (blkOk_by (by kernel_rfl)) (by decide) (fun _ _ _ _ _ => (g_tup ((cn).blk).calm (g_cons (g_name sc__law_are_due.nd rfl (by first | exact .inl rfl | exact .inr rfl)) (g_cons (g_name sc__law_are_due.nd rfl (by first | exact .inl rfl | exact .inr rfl)) g_nil)))) (fun _ _ _ _ _ => ts_nil) (fun _ _ _ _ _ => (x_eq ((cn).blk) (x_repr ((cn).blk) B.b_repr (x_cons (x_callE (g__law_fault B) hr (by decide) ((cn).blk) LamX.takes0 (x_cons (x_var (pv 1)) x_nil)) x_nil)) (x_repr ((cn).blk) B.b_repr (x_cons (x_var (pv 2)) x_nil))))) x_nil))))
theorem g__law_draw {P : Program} {w : World} {K : PySem.W.Frag} {mg : Str → Option Value} {base : Heap} (B : Bu P w K mg base) : FunE P w K mg base 1 "_law_draw" ["pen", "many"] (F__law_draw pc) :=
  FunE.of (own := false) B.d__law_draw B.m__law_draw sc__law_draw rfl (fun _ _ _ _ _ _ us hl => match us, hl with | [_, _], _ => rfl)
    fun cdv A outer s H E hr cn tk hp => (s_cons (s_sub cn (x_add (own := false) (x_dget cn (x_var (pv 0)) x_str (fun _ _ => rfl)) x_int) (x_var (pv 0)) x_str)
  (s_cons (s_if (t_w (w_and (t_eq cn (x_dget cn (x_var (pv 0)) x_str (fun _ _ => rfl)) x_int) (w_and1 (t_lt (x_dget cn (x_var (pv 0)) x_str (fun _ _ => rfl)) (x_len B.b_len (x_cons (x_dget cn (x_var (pv 0)) x_str (fun _ _ => rfl)) x_nil)))))) (s_cons (s_set sc__law_draw.nd rfl (by first | exact .inl rfl | exact .inr rfl) (x_ix (x_dget cn (x_var (pv 0)) x_str (fun _ _ => rfl)) (x_dget cn (x_var (pv 0)) x_str (fun _ _ => rfl)) (fun _ _ => rfl)))
  (s_cons (s_sub cn (x_add (own := false) (x_dget cn (x_var (pv 0)) x_str (fun _ _ => rfl)) x_int) (x_var (pv 0)) x_str)
  (s_one (s_if (t_ge (x_var (pv 2)) (x_pow x_int x_int)) (s_one (s_sub cn (x_sub (x_var (pv 2)) (x_pow x_int x_int)) (x_var (pv 0)) x_str)) (s_one (s_sub cn (x_mod (x_int1 B.b_int (x_cons (x_add (own := false) (x_mul (own := false) (x_dget cn (x_var (pv 0)) x_str (fun _ _ => rfl)) x_int) (x_var (pv 2))) x_nil)) x_int) (x_var (pv 0)) x_str)))))) s_nil)
  (s_cons (s_if (t_gt (x_dget cn (x_var (pv 0)) x_str (fun _ _ => rfl)) x_int) (s_cons (s_set sc__law_draw.nd rfl (by first | exact .inl rfl | exact .inr rfl) (x_mod (x_int1 B.b_int (x_cons (x_dget cn (x_var (pv 0)) x_str (fun _ _ => rfl)) x_nil)) (x_var (pv 1))))
  (s_cons (s_sub cn (x_div (x_dget cn (x_var (pv 0)) x_str (fun _ _ => rfl)) (x_var (pv 1))) (x_var (pv 0)) x_str)
  (s_one (s_ret (x_var (pv 3)))))) s_nil)
  (s_cons (s_set sc__law_draw.nd rfl (by first | exact .inl rfl | exact .inr rfl) (x_add (own := false) (x_add (own := false) (x_dget cn (x_var (pv 0)) x_str (fun _ _ => rfl)) (x_mul (own := false) (x_dget cn (x_var (pv 0)) x_str (fun _ _ => rfl)) x_int)) x_int))
  (s_one (s_ret (x_mod (x_div (x_int1 B.b_int (x_cons (x_mod (x_pow (x_var (pv 4)) x_int) x_int) x_nil)) x_int) (x_var (pv 1)))))))))
theorem g__law_rows {P : Program} {w : World} {K : PySem.W.Frag} {mg : Str → Option Value} {base : Heap} (B : Bu P w K mg base) : FunE P w K mg base 1 "_law_rows" ["many"] F__law_rows :=
  FunE.of (own := false) B.d__law_rows B.m__law_rows sc__law_rows rfl (fun _ _ _ _ _ _ us hl => match us, hl with | [_], _ => rfl)
    fun cdv A outer s H E hr cn tk hp => (s_cons (s_set sc__law_rows.nd rfl (by first | exact .inl rfl | exact .inr rfl) (x_lst (own := false) (x_cons (x_tup x_nil) x_nil)))
  (s_cons (s_for (sl := [2]) hp cn.calm (it_seq (x_var (pv 0))) (g_name sc__law_rows.nd rfl (by first | exact .inl rfl | exact .inr rfl)) (s_cons (s_set sc__law_rows.nd rfl (by first | exact .inl rfl | exact .inr rfl) (x_lst (own := false) x_nil))
  (s_cons (s_for (sl := [4]) hp cn.calm (it_seq (x_var (pv 1))) (g_name sc__law_rows.nd rfl (by first | exact .inl rfl | exact .inr rfl)) (s_one (s_set sc__law_rows.nd rfl (by first | exact .inl rfl | exact .inr rfl) (x_add (own := false) (x_var (pv 3)) (x_lc (own := false) (onames := [("answer", 5)]) (sl := [5]) cn sc__law_rows.nd (it_rg1 (x_cons (x_var (pv 2)) x_nil) B.b_range) (blkOk_by (by kernel_rfl)) (by decide) (fun _ _ _ _ _ => (g_name sc__law_rows.nd rfl (by first | exact .inl rfl | exact .inr rfl))) (fun _ _ _ _ _ => ts_nil) (fun _ _ _ _ _ => (x_add (own := false) (x_var (pv 4)) (x_tup (x_cons (x_var (pv 5)) x_nil)))))))))
  (s_one (s_set sc__law_rows.nd rfl (by first | exact .inl rfl | exact .inr rfl) (x_var (pv 3)))))))
  (s_one (s_ret (x_var (pv 1))))))
theorem g__law_lot_rows {P : Program} {w : World} {K : PySem.W.Frag} {mg : Str → Option Value} {base : Heap} (B : Bu P w K mg base) : FunE P w K mg base 2 "_law_lot_rows" ["answers", "lot"] F__law_lot_rows :=
  FunE.of (own := false) B.d__law_lot_rows B.m__law_lot_rows sc__law_lot_rows rfl (fun _ _ _ _ _ _ us hl => match us, hl with | [_, _], _ => rfl)
    fun cdv A outer s H E hr cn tk hp => (s_one (s_ret (x_callE (g__law_rows B) hr (by decide) cn tk (x_cons (x_lc (own := false) (onames := [("question", 2)]) (sl := [2]) cn sc__law_lot_rows.nd (it_seq (x_var (pv 1))) (blkOk_by (by kernel_rfl)) (by decide) (fun _ _ _ _ _ => (g_name sc__law_lot_rows.nd rfl (by first | exact .inl rfl | exact .inr rfl))) (fun _ _ _ _ _ => ts_nil) (fun _ _ _ _ _ => (x_ix (x_var (pv 0)) (x_var (pv 2)) (fun _ _ => rfl)))) x_nil))))
theorem g__law_pen {P : Program} {w : World} {K : PySem.W.Frag} {mg : Str → Option Value} {base : Heap} (B : Bu P w K mg base) : FunE P w K mg base 1 "_law_pen" ["script"] F__law_pen :=
  FunE.of (own := true) B.d__law_pen B.m__law_pen sc__law_pen rfl (fun _ _ _ _ _ _ us hl => match us, hl with | [_], _ => rfl)
    fun cdv A outer s H E hr cn tk hp => (s_cons (s_set sc__law_pen.nd rfl (by first | exact .inl rfl | exact .inr rfl) x_int)
  (s_cons (s_for (sl := [2]) hp cn.calm (it_seq (x_var (pv 0))) (g_name sc__law_pen.nd rfl (by first | exact .inl rfl | exact .inr rfl)) (s_one (s_set sc__law_pen.nd rfl (by first | exact .inl rfl | exact .inr rfl) (x_mod (x_int1 B.b_int (x_cons (x_add (own := false) (x_mul (own := false) (x_var (pv 1)) x_int) (x_var (pv 2))) x_nil)) x_int))))
  (s_one (s_ret (x_disp (own := true) (prs := [((evC (.str "cells")), (evA (evCons (evVar 0) evNil) (one (dList false)))), ((evC (.str "at")), (evC (.int 0))), ((evC (.str "digits")), (evC (.int 0))), ((evC (.str "count")), (evC (.int 0))), ((evC (.str "fold")), (evVar 1))]) (pps_cons x_str (x_list (own := false) B.b_list (x_cons (x_var (pv 0)) x_nil)) (pps_cons x_str x_int (pps_cons x_str x_int (pps_cons x_str x_int (pps_cons x_str (x_var (pv 1)) pps_nil))))))))))
theorem g__law_pick {P : Program} {w : World} {K : PySem.W.Frag} {mg : Str → Option Value} {base : Heap} (B : Bu P w K mg base) : FunE P w K mg base 2 "_law_pick" ["pen", "some"] (F__law_pick pc) :=
  FunE.of (own := false) B.d__law_pick B.m__law_pick sc__law_pick rfl (fun _ _ _ _ _ _ us hl => match us, hl with | [_, _], _ => rfl)
    fun cdv A outer s H E hr cn tk hp => (s_one (s_ret (x_ix (x_var (pv 1)) (x_callE (g__law_draw B) hr (by decide) cn tk (x_cons (x_var (pv 0)) (x_cons (x_len B.b_len (x_cons (x_var (pv 1)) x_nil)) x_nil))) (fun _ _ => rfl))))
theorem g__law_shuffled {P : Program} {w : World} {K : PySem.W.Frag} {mg : Str → Option Value} {base : Heap} (B : Bu P w K mg base) : FunE P w K mg base 2 "_law_shuffled" ["pen", "some"] (F__law_shuffled pc) :=
  FunE.of (own := false) B.d__law_shuffled B.m__law_shuffled sc__law_shuffled rfl (fun _ _ _ _ _ _ us hl => match us, hl with | [_, _], _ => rfl)
    fun cdv A outer s H E hr cn tk hp => (s_cons (s_par2 cn.calm sc__law_shuffled.nd rfl rfl (by decide) rfl rfl (x_cons (x_list (own := true) B.b_list (x_cons (x_var (pv 1)) x_nil)) (x_cons (x_lst (own := true) x_nil) x_nil)))
  (s_cons (s_for (sl := [4]) hp cn.calm (it_rg1 (x_cons (x_len B.b_len (x_cons (x_var (pv 1)) x_nil)) x_nil) B.b_range) (g_name sc__law_shuffled.nd rfl (by first | exact .inl rfl | exact .inr rfl)) (s_one (s_expr (x_append (x_var (pv 3)) (x_cons (x_popAt (x_var (pv 2)) (x_cons (x_callE (g__law_draw B) hr (by decide) cn tk (x_cons (x_var (pv 0)) (x_cons (x_len B.b_len (x_cons (x_var (pv 2)) x_nil)) x_nil))) x_nil)) x_nil)))))
  (s_one (s_ret (x_var (pv 3))))))
theorem g__law_scene {P : Program} {w : World} {K : PySem.W.Frag} {mg : Str → Option Value} {base : Heap} (B : Bu P w K mg base) : FunE P w K mg base 3 "_law_scene" ["pen", "questions", "most", "lots"] (F__law_scene pc) :=
  FunE.of (own := false) B.d__law_scene B.m__law_scene sc__law_scene rfl (fun _ _ _ _ _ _ us hl => match us, hl with | [_, _, _, _], _ => rfl)
    fun cdv A outer s H E hr cn tk hp => (s_cons (s_set sc__law_scene.nd rfl (by first | exact .inl rfl | exact .inr rfl) (x_tuple B.b_tuple (x_cons (x_lc (own := false) (onames := [("k", 11)]) (sl := [11]) cn sc__law_scene.nd (it_rg1 (x_cons (x_var (pv 1)) x_nil) B.b_range) (blkOk_by (by kernel_rfl)) (by decide) (fun _ _ _ _ _ => (g_name sc__law_scene.nd rfl (by first | exact .inl rfl | exact .inr rfl))) (fun _ _ _ _ _ => ts_nil) (fun _ _ _ _ _ => (x_add (own := false) x_int (x_callE (g__law_draw B) hr (by decide) ((cn).blk) LamX.takes0 (x_cons (x_var (pv 0)) (x_cons (x_sub (x_var (pv 2)) x_int) x_nil)))))) x_nil)))
  (s_cons (s_set sc__law_scene.nd rfl (by first | exact .inl rfl | exact .inr rfl) (x_lst (own := true) x_nil))
  (s_cons (s_for (sl := [6]) hp cn.calm (it_rg1 (x_cons (x_add (own := false) x_int (x_callE (g__law_draw B) hr (by decide) cn tk (x_cons (x_var (pv 0)) (x_cons (x_var (pv 3)) x_nil)))) x_nil) B.b_range) (g_name sc__law_scene.nd rfl (by first | exact .inl rfl | exact .inr rfl)) (s_cons (s_set sc__law_scene.nd rfl (by first | exact .inl rfl | exact .inr rfl) (x_add (own := false) x_int (x_callE (g__law_draw B) hr (by decide) cn tk (x_cons (x_var (pv 0)) (x_cons (x_min2 cn B.b_min (x_cons x_int (x_cons (x_var (pv 1)) x_nil))) x_nil)))))
  (s_one (s_expr (x_append (x_var (pv 5)) (x_cons (x_tuple B.b_tuple (x_cons (x_sortI (own := false) B.b_sorted (x_cons (x_slice (own := false) (x_callE (g__law_shuffled B) hr (by decide) cn tk (x_cons (x_var (pv 0)) (x_cons (x_rgL1 (own := false) cn B.b_list B.b_range (x_var (pv 1))) x_nil))) o_no (o_some (x_var (pv 7)))) x_nil)) x_nil)) x_nil))))))
  (s_cons (s_for (sl := [8]) hp cn.calm (it_rg1 (x_cons (x_var (pv 1)) x_nil) B.b_range) (g_name sc__law_scene.nd rfl (by first | exact .inl rfl | exact .inr rfl)) (s_one (s_if (t_not (t_val (x_any cn B.b_any (x_cons (x_lc (own := false) (onames := [("lot", 10)]) (sl := [10]) cn sc__law_scene.nd (it_seq (x_var (pv 5))) (blkOk_by (by kernel_rfl)) (by decide) (fun _ _ _ _ _ => (g_name sc__law_scene.nd rfl (by first | exact .inl rfl | exact .inr rfl))) (fun _ _ _ _ _ => ts_nil) (fun _ _ _ _ _ => (x_in ((cn).blk) (x_var (pv 8)) (x_var (pv 10))))) x_nil)) (fun _ => rfl))) (s_one (s_expr (x_append (x_var (pv 5)) (x_cons (x_tup (x_cons (x_var (pv 8)) x_nil)) x_nil)))) s_nil)))
  (s_cons (s_set sc__law_scene.nd rfl (by first | exact .inl rfl | exact .inr rfl) (x_lst (own := true) x_nil))
  (s_cons (s_for (sl := [10]) hp cn.calm (it_seq (x_var (pv 5))) (g_name sc__law_scene.nd rfl (by first | exact .inl rfl | exact .inr rfl)) (s_one (s_if (t_w (w_and (t_notin cn (x_var (pv 10)) (x_var (pv 9))) (w_and1 (t_not (t_val (x_any cn B.b_any (x_cons (x_lc (own := false) (onames := [("far", 12)]) (sl := [12]) cn sc__law_scene.nd (it_seq (x_var (pv 5))) (blkOk_by (by kernel_rfl)) (by decide) (fun _ _ _ _ _ => (g_name sc__law_scene.nd rfl (by first | exact .inl rfl | exact .inr rfl))) (fun _ _ _ _ _ => ts_nil) (fun _ _ _ _ _ => (x_and (x_ne ((cn).blk) (x_var (pv 10)) (x_var (pv 12))) (x_one (x_all ((cn).blk) B.b_all (x_cons (x_lc (own := false) (onames := [("k", 11)]) (sl := [11]) ((cn).blk) sc__law_scene.nd (it_seq (x_var (pv 10))) (blkOk_by (by kernel_rfl)) (by decide) (fun _ _ _ _ _ => (g_name sc__law_scene.nd rfl (by first | exact .inl rfl | exact .inr rfl))) (fun _ _ _ _ _ => ts_nil) (fun _ _ _ _ _ => (x_in ((((cn).blk)).blk) (x_var (pv 11)) (x_var (pv 12))))) x_nil)))))) x_nil)) (fun _ => rfl)))))) (s_one (s_expr (x_append (x_var (pv 9)) (x_cons (x_var (pv 10)) x_nil)))) s_nil)))
  (s_one (s_ret (x_tup (x_cons (x_var (pv 4)) (x_cons (x_tuple B.b_tuple (x_cons (x_var (pv 9)) x_nil)) x_nil)))))))))))
theorem g__law_seen {P : Program} {w : World} {K : PySem.W.Frag} {mg : Str → Option Value} {base : Heap} (B : Bu P w K mg base) : FunE P w K mg base 1 "_law_seen" ["plan", "lot"] F__law_seen :=
  FunE.of (own := false) B.d__law_seen B.m__law_seen sc__law_seen rfl (fun _ _ _ _ _ _ us hl => match us, hl with | [_, _], _ => rfl)
    fun cdv A outer s H E hr cn tk hp => (s_one (s_ret (x_tuple B.b_tuple (x_cons (x_lc (own := false) (onames := [("question", 2)]) (sl := [2]) cn sc__law_seen.nd (it_seq (x_var (pv 1))) (blkOk_by (by kernel_rfl)) (by decide) (fun _ _ _ _ _ => (g_name sc__law_seen.nd rfl (by first | exact .inl rfl | exact .inr rfl))) (fun _ _ _ _ _ => ts_nil) (fun _ _ _ _ _ => (x_ix (x_var (pv 0)) (x_var (pv 2)) (fun _ _ => rfl)))) x_nil))))
noncomputable def E_law_0 : Sm := (evA (evCons (evVar 18) evNil) (one (dList false)))
noncomputable def M_law : Sst := (sSeq (sSet 1 (evA (evCons (evVar 0) evNil) (callF 1 [] F__law_pen)))
  (sSeq (sAsg (tgTup 2 (tgCons (tgN 2) (tgCons (tgN 3) tgNil))) (evA (evCons (evVar 1) (evCons (evB (evC (.int 1)) (evA (evCons (evVar 1) (evCons (evC (.int 4)) evNil)) (callF 2 [] (F__law_draw pc))) (dAdd false)) (evCons (evC (.int 4)) (evCons (evC (.int 5)) evNil)))) (callF 4 [] (F__law_scene pc))))
  (sSeq (sSet 4 (evA (evCons (evA (evCons (evVar 1) (evCons (evA (evCons (evVar 2) (evCons (evA (evCons (evVar 2) evNil) (one (dList false))) evNil)) (mkL false)) evNil)) (callF 2 [] (F__law_pick pc))) (evCons (evA (evCons (evVar 1) (evCons (evA (evCons (evVar 3) (evCons (evLc false (evVar 3) seqOf (tgN 18) (evC (.bl true)) (E_law_0) [18]) evNil)) (mkL false)) evNil)) (callF 2 [] (F__law_pick pc))) evNil)) (mkI "Scene" 3 F_Scene___init__)))
  (sSeq (sIf (evB (evA (evCons (evA (evCons (evU (evVar 4) (dFld ["Scene"] "answers")) (evCons (evU (evVar 4) (dFld ["Scene"] "lots")) evNil)) mkT) evNil) dRepr1) (evA (evCons (evA (evCons (evVar 2) (evCons (evVar 3) evNil)) mkT) evNil) dRepr1) (dEq true)) (sRet (evC (.bl false))) sNil)
  (sSeq (sPar2 5 6 (evCons (evA (evCons (evVar 2) (evCons (evVar 3) evNil)) (mkI "Scene" 3 F_Scene___init__)) (evCons (evA (evCons (evVar 2) (evCons (evB (evVar 3) (evU (evC (.int 1)) dNeg) (dRevS false)) evNil)) (mkI "Scene" 3 F_Scene___init__)) evNil)))
  (sSeq (sIf (evOrT (evU (evB (evVar 4) (evVar 5) (dEqG false ["Scene"] (eqT1 "Scene" F_Scene___eq__))) dNot) (evOrT (evB (evVar 4) (evVar 5) (dEqG true ["Scene"] (eqT1 "Scene" F_Scene___ne__))) (evOrT (evB (evB (evVar 4) (evVar 6) (dEqG false ["Scene"] (eqT1 "Scene" F_Scene___eq__))) (evB (evVar 3) (evB (evVar 3) (evU (evC (.int 1)) dNeg) (dRevS false)) (dEq false)) (dEq true)) (evB (evVar 4) (evA (evCons (evVar 2) (evCons (evVar 3) evNil)) mkT) (dEqG false ["Scene"] (eqT1 "Scene" F_Scene___eq__)))))) (sRet (evC (.bl false))) sNil)
  (sSeq (sSet 7 (evA (evCons (evVar 2) evNil) (callF 1 [] F__law_rows)))
  (sSeq (sIf (evOrT (evB (evA (evCons (evA (evCons (evVar 4) evNil) (callF 1 [] F_plans)) evNil) dRepr1) (evA (evCons (evA (evCons (evVar 7) evNil) (one dTuple)) evNil) dRepr1) (dEq true)) (evB (evA (evCons (evA (evCons (evVar 4) evNil) (callF 1 [] F_many_plans)) evNil) dRepr1) (evA (evCons (evA (evCons (evVar 7) evNil) (one dLen)) evNil) dRepr1) (dEq true))) (sRet (evC (.bl false))) sNil)
  (sSeq (sAsg (tgTup 2 (tgCons (tgN 8) (tgCons (tgN 9) tgNil))) (evA (evCons (evA (evCons (evVar 1) (evCons (evVar 7) evNil)) (callF 2 [] (F__law_pick pc))) (evCons (evA (evCons (evVar 1) (evCons (evA (evCons (evVar 3) evNil) (one dLen)) evNil)) (callF 2 [] (F__law_draw pc))) evNil)) mkT))
  (sSeq (sIf (evB (evA (evCons (evA (evCons (evVar 4) (evCons (evVar 9) evNil)) (callF 2 [] F_rows_of)) evNil) dRepr1) (evA (evCons (evA (evCons (evA (evCons (evVar 2) (evCons (evB (evVar 3) (evVar 9) dIx) evNil)) (callF 2 [] F__law_lot_rows)) evNil) (one dTuple)) evNil) dRepr1) (dEq true)) (sRet (evC (.bl false))) sNil)
  (sSeq (sIf (evB (evA (evCons (evA (evCons (evVar 4) (evCons (evA (evCons (evVar 1) (evCons (evA (evCons (evVar 8) (evCons (evA (evCons (evVar 8) evNil) (one (dList false))) evNil)) (mkL false)) evNil)) (callF 2 [] (F__law_pick pc))) (evCons (evVar 9) evNil))) (callF 3 [] F_seen)) evNil) dRepr1) (evA (evCons (evA (evCons (evVar 8) (evCons (evB (evVar 3) (evVar 9) dIx) evNil)) (callF 2 [] F__law_seen)) evNil) dRepr1) (dEq true)) (sRet (evC (.bl false))) sNil)
  (sSeq (sSet 10 (evA (evCons (evVar 1) (evCons (evA (evCons (evC .non) (evCons (evA evNil mkT) (evCons (evA (evCons (evC (.int 1)) evNil) mkT) (evCons (evA (evCons (evC (.int 6)) evNil) mkT) (evCons (evB (evA (evCons (evC (.int 2)) evNil) mkT) (evC (.int 10)) (dMul false)) (evCons (evA (evCons (evC (.bl true)) (evCons (evC (.int 2)) evNil)) mkT) (evCons (evA (evCons (evC (.str "2")) evNil) mkT) (evCons (evC (.int 5)) evNil)))))))) (mkL false)) evNil)) (callF 2 [] (F__law_pick pc))))
  (sSeq (sSet 11 (evA (evCons (evVar 2) evNil) (one dLen)))
  (sSeq (sSet 12 (evA (evCons (evC .non) (evCons (evA evNil mkT) (evCons (evA (evCons (evA evNil mkT) evNil) mkT) (evCons (evB (evVar 3) (evA (evCons (evA (evCons (evVar 11) evNil) mkT) evNil) mkT) (dAdd false)) (evCons (evB (evVar 3) (evSl false (evVar 3) none (some (evC (.int 1)))) (dAdd false)) (evCons (evA (evCons (evA (evCons (evU (evC (.int 1)) dNeg) evNil) mkT) evNil) mkT) (evCons (evC (.int 5)) (evCons (evA (evCons (evC (.int 0)) evNil) mkT) (evCons (evB (evVar 3) (evA (evCons (evSl false (evB (evVar 3) (evC (.int 0)) dIx) none (some (evC (.int 1)))) evNil) mkT) (dAdd false)) (evCons (evA (evCons (evA (evCons (evC (.bl true)) evNil) mkT) evNil) mkT) evNil)))))))))) (mkL false)))
  (sSeq (sIf (evB (evVar 11) (evC (.int 1)) (dGt)) (sSet 12 (evB (evVar 12) (evA (evCons (evA (evCons (evA (evCons (evC (.int 0)) evNil) mkT) evNil) mkT) (evCons (evA (evCons (evA (evCons (evC (.int 1)) (evCons (evC (.int 0)) evNil)) mkT) evNil) mkT) (evCons (evB (evVar 3) (evA (evCons (evA (evCons (evC (.int 0)) (evCons (evC (.int 0)) evNil)) mkT) evNil) mkT) (dAdd false)) evNil))) (mkL false)) (dAdd false))) sNil)
  (sSeq (sSet 13 (evA (evCons (evVar 1) (evCons (evVar 12) evNil)) (callF 2 [] (F__law_pick pc))))
  (sSeq (sSet 14 (evA (evCons (evVar 1) (evCons (evA (evCons (evA (evCons (evVar 3) evNil) (one dLen)) (evCons (evU (evC (.int 1)) dNeg) (evCons (evC (.bl true)) (evCons (evC .non) evNil)))) (mkL false)) evNil)) (callF 2 [] (F__law_pick pc))))
  (sSeq (sSet 15 (evA (evCons (evVar 1) (evCons (evA (evCons (evC .non) (evCons (evSl false (evVar 8) (some (evC (.int 1))) none) (evCons (evB (evVar 8) (evA (evCons (evC (.int 0)) evNil) mkT) (dAdd false)) (evCons (evB (evA (evCons (evC (.int 9)) evNil) mkT) (evVar 11) (dMul false)) (evCons (evC (.int 5)) (evCons (evB (evA (evCons (evC (.str "0")) evNil) mkT) (evVar 11) (dMul false)) evNil)))))) (mkL false)) evNil)) (callF 2 [] (F__law_pick pc))))
  (sSeq (sSet 16 (evA (evCons (evB (evA (evCons (evC (.int 5)) evNil) mkT) (evC (.int 4)) (dMul false)) (evCons (evA (evCons (evA (evCons (evC (.int 0)) (evCons (evC (.int 1)) (evCons (evC (.int 2)) (evCons (evC (.int 3)) evNil)))) mkT) evNil) mkT) evNil)) (mkI "Scene" 3 F_Scene___init__)))
  (sSeq (sSet 17 (evA (evCons (evA (evCons (evLam lam_0 [10, 13]) (evCons (evA (evCons (evC (.str "scene")) (evCons (evC (.str "answers")) (evCons (evVar 10) evNil))) mkT) evNil)) mkT) evNil) (mkL true)))
  (sSeq (sExpr (evMth (evVar 17) (evCons (evA (evCons (evLam lam_1 [2, 13]) (evCons (evA (evCons (evC (.str "scene")) (evCons (evC (.str "lots")) (evCons (evVar 13) evNil))) mkT) evNil)) mkT) evNil) isLstD dAppend))
  (sSeq (sExpr (evMth (evVar 17) (evCons (evA (evCons (evLam lam_2 [2]) (evCons (evA (evCons (evC (.str "unlike")) (evCons (evC (.str "scene")) evNil)) mkT) evNil)) mkT) evNil) isLstD dAppend))
  (sSeq (sExpr (evMth (evVar 17) (evCons (evA (evCons (evLam lam_3 [16]) (evCons (evA (evCons (evC (.str "many")) (evCons (evC (.str "plans")) (evCons (evC (.int 625)) (evCons (evC (.int 512)) evNil)))) mkT) evNil)) mkT) evNil) isLstD dAppend))
  (sSeq (sExpr (evMth (evVar 17) (evCons (evA (evCons (evLam lam_4 []) (evCons (evA (evCons (evC (.str "unlike")) (evCons (evC (.str "scene")) evNil)) mkT) evNil)) mkT) evNil) isLstD dAppend))
  (sSeq (sExpr (evMth (evVar 17) (evCons (evA (evCons (evLam lam_5 [4, 14]) (evCons (evA (evCons (evC (.str "number")) (evCons (evC (.str "number")) (evCons (evVar 14) evNil))) mkT) evNil)) mkT) evNil) isLstD dAppend))
  (sSeq (sExpr (evMth (evVar 17) (evCons (evA (evCons (evLam lam_6 [4, 14, 15]) (evCons (evA (evCons (evC (.str "row")) (evCons (evVar 15) evNil)) mkT) evNil)) mkT) evNil) isLstD dAppend))
  (sSeq (sExpr (evMth (evVar 17) (evCons (evA (evCons (evLam lam_7 [4, 8, 14]) (evCons (evA (evCons (evC (.str "number")) (evCons (evC (.str "number")) (evCons (evVar 14) evNil))) mkT) evNil)) mkT) evNil) isLstD dAppend))
  (sSeq (sExpr (evMth (evVar 17) (evCons (evA (evCons (evLam lam_8 [3, 14, 15]) (evCons (evA (evCons (evC (.str "unlike")) (evCons (evC (.str "scene")) evNil)) mkT) evNil)) mkT) evNil) isLstD dAppend))
  (sRet (evAnd (evB (evA (evCons (evVar 16) evNil) (callF 1 [] F_many_plans)) (evC (.int 625)) (dEq false)) (fun σd S => ((evCons (evVar 17) evNil) σd S).bindA (callC [2, 3, 4, 8, 10, 13, 14, 15, 16] 1 (F__law_are_due tb) σd))))))))))))))))))))))))))))))))
theorem slOk_law {P : Program} {w : World} {K : PySem.W.Frag} {mg : Str → Option Value} {base : Heap} {f : Addr} {cdv : Value} {A : Around} {outer : List Env} {s : Shared} {H : Hp} {E : XK} : SlOk (cxOf (L2.CX P w) P w K mg base ["script", "pen", "answers", "lots", "one", "twin", "other", "every", "plan", "number", "bad", "far", "some", "odd", "low", "wrong", "wide", "tries", "lot"] "law" (defScope (top 46)) f cdv A outer s H E) [2, 3, 4, 8, 10, 13, 14, 15, 16] := by
  intro i hi
  simp only [List.mem_cons, List.mem_nil_iff, or_false] at hi
  rcases hi with rfl | rfl | rfl | rfl | rfl | rfl | rfl | rfl | rfl
  · exact ⟨"answers", rfl, rfl, rfl⟩
  · exact ⟨"lots", rfl, rfl, rfl⟩
  · exact ⟨"one", rfl, rfl, rfl⟩
  · exact ⟨"plan", rfl, rfl, rfl⟩
  · exact ⟨"bad", rfl, rfl, rfl⟩
  · exact ⟨"odd", rfl, rfl, rfl⟩
  · exact ⟨"low", rfl, rfl, rfl⟩
  · exact ⟨"wrong", rfl, rfl, rfl⟩
  · exact ⟨"wide", rfl, rfl, rfl⟩
theorem g_law {P : Program} {w : World} {K : PySem.W.Frag} {mg : Str → Option Value} {base : Heap} {fa : Addr} {t : Addr} (B : Bu P w K mg base) : LawB P w K mg base 17 fa ["script", "pen", "answers", "lots", "one", "twin", "other", "every", "plan", "number", "bad", "far", "some", "odd", "low", "wrong", "wide", "tries", "lot"] "script" "law" (defArgs (top 46)) (defBody (top 46)) (defScope (top 46)) t M_law :=
  ⟨fun cdv A outer s H E ht hr cn tk hp => by
    obtain ⟨c, hCode0, hTB⟩ := ht
    subst hCode0
    have hCode : (Value.ref c) = .ref c := rfl
    exact (s_cons (s_set sc_law.nd rfl (by first | exact .inl rfl | exact .inr rfl) (x_callE (g__law_pen B) hr (by decide) cn tk (x_cons (x_var (pv 0)) x_nil)))
  (s_cons (s_asg (sl := [2, 3]) (x_callE (g__law_scene B) hr (by decide) cn tk (x_cons (x_var (pv 1)) (x_cons (x_add (own := false) x_int (x_callE (g__law_draw B) hr (by decide) cn tk (x_cons (x_var (pv 1)) (x_cons x_int x_nil)))) (x_cons x_int (x_cons x_int x_nil))))) (g_tup cn.calm (g_cons (g_name sc_law.nd rfl (by first | exact .inl rfl | exact .inr rfl)) (g_cons (g_name sc_law.nd rfl (by first | exact .inl rfl | exact .inr rfl)) g_nil))))
  (s_cons (s_set sc_law.nd rfl (by first | exact .inl rfl | exact .inr rfl) (x_makeE (g_Scene___init__ B) B.mk_Scene hr (by decide) cn tk (x_cons (x_callE (g__law_pick B) hr (by decide) cn tk (x_cons (x_var (pv 1)) (x_cons (x_lst (own := false) (x_cons (x_var (pv 2)) (x_cons (x_list (own := false) B.b_list (x_cons (x_var (pv 2)) x_nil)) x_nil))) x_nil))) (x_cons (x_callE (g__law_pick B) hr (by decide) cn tk (x_cons (x_var (pv 1)) (x_cons (x_lst (own := false) (x_cons (x_var (pv 3)) (x_cons (x_lc (own := false) (onames := [("lot", 18)]) (sl := [18]) cn sc_law.nd (it_seq (x_var (pv 3))) (blkOk_by (by kernel_rfl)) (by decide) (fun _ _ _ _ _ => (g_name sc_law.nd rfl (by first | exact .inl rfl | exact .inr rfl))) (fun _ _ _ _ _ => ts_nil) (fun _ _ _ _ _ => (x_list (own := false) B.b_list (x_cons (x_var (pv 18)) x_nil)))) x_nil))) x_nil))) x_nil))))
  (s_cons (s_if (t_ne cn (x_repr cn B.b_repr (x_cons (x_tup (x_cons (x_fld (fl_Scene__answers B) (x_var (pv 4))) (x_cons (x_fld (fl_Scene__lots B) (x_var (pv 4))) x_nil))) x_nil)) (x_repr cn B.b_repr (x_cons (x_tup (x_cons (x_var (pv 2)) (x_cons (x_var (pv 3)) x_nil))) x_nil))) (s_one (s_ret x_bl)) s_nil)
  (s_cons (s_par2 cn.calm sc_law.nd rfl rfl (by decide) rfl rfl (x_cons (x_makeE (g_Scene___init__ B) B.mk_Scene hr (by decide) cn tk (x_cons (x_var (pv 2)) (x_cons (x_var (pv 3)) x_nil))) (x_cons (x_makeE (g_Scene___init__ B) B.mk_Scene hr (by decide) cn tk (x_cons (x_var (pv 2)) (x_cons (x_revS (own := false) (x_var (pv 3)) (x_neg x_int)) x_nil))) x_nil)))
  (s_cons (s_if (t_w (w_or (t_not (t_eqG (kq_Scene___eq__ B) (hr.mono (by decide)) cn (x_var (pv 4)) (x_var (pv 5)))) (w_or (t_neG (kq_Scene___ne__ B) (hr.mono (by decide)) cn (x_var (pv 4)) (x_var (pv 5))) (w_or (t_ne cn (x_eqG (kq_Scene___eq__ B) (hr.mono (by decide)) cn (x_var (pv 4)) (x_var (pv 6))) (x_eq cn (x_var (pv 3)) (x_revS (own := false) (x_var (pv 3)) (x_neg x_int)))) (w_or1 (t_eqG (kq_Scene___eq__ B) (hr.mono (by decide)) cn (x_var (pv 4)) (x_tup (x_cons (x_var (pv 2)) (x_cons (x_var (pv 3)) x_nil))))))))) (s_one (s_ret x_bl)) s_nil)
  (s_cons (s_set sc_law.nd rfl (by first | exact .inl rfl | exact .inr rfl) (x_callE (g__law_rows B) hr (by decide) cn tk (x_cons (x_var (pv 2)) x_nil)))
  (s_cons (s_if (t_w (w_or (t_ne cn (x_repr cn B.b_repr (x_cons (x_callE (g_plans B) hr (by decide) cn tk (x_cons (x_var (pv 4)) x_nil)) x_nil)) (x_repr cn B.b_repr (x_cons (x_tuple B.b_tuple (x_cons (x_var (pv 7)) x_nil)) x_nil))) (w_or1 (t_ne cn (x_repr cn B.b_repr (x_cons (x_callE (g_many_plans B) hr (by decide) cn tk (x_cons (x_var (pv 4)) x_nil)) x_nil)) (x_repr cn B.b_repr (x_cons (x_len B.b_len (x_cons (x_var (pv 7)) x_nil)) x_nil)))))) (s_one (s_ret x_bl)) s_nil)
  (s_cons (s_asg (sl := [8, 9]) (x_tup (x_cons (x_callE (g__law_pick B) hr (by decide) cn tk (x_cons (x_var (pv 1)) (x_cons (x_var (pv 7)) x_nil))) (x_cons (x_callE (g__law_draw B) hr (by decide) cn tk (x_cons (x_var (pv 1)) (x_cons (x_len B.b_len (x_cons (x_var (pv 3)) x_nil)) x_nil))) x_nil))) (g_tup cn.calm (g_cons (g_name sc_law.nd rfl (by first | exact .inl rfl | exact .inr rfl)) (g_cons (g_name sc_law.nd rfl (by first | exact .inl rfl | exact .inr rfl)) g_nil))))
  (s_cons (s_if (t_ne cn (x_repr cn B.b_repr (x_cons (x_callE (g_rows_of B) hr (by decide) cn tk (x_cons (x_var (pv 4)) (x_cons (x_var (pv 9)) x_nil))) x_nil)) (x_repr cn B.b_repr (x_cons (x_tuple B.b_tuple (x_cons (x_callE (g__law_lot_rows B) hr (by decide) cn tk (x_cons (x_var (pv 2)) (x_cons (x_ix (x_var (pv 3)) (x_var (pv 9)) (fun _ _ => rfl)) x_nil))) x_nil)) x_nil))) (s_one (s_ret x_bl)) s_nil)
  (s_cons (s_if (t_ne cn (x_repr cn B.b_repr (x_cons (x_callE (g_seen B) hr (by decide) cn tk (x_cons (x_var (pv 4)) (x_cons (x_callE (g__law_pick B) hr (by decide) cn tk (x_cons (x_var (pv 1)) (x_cons (x_lst (own := false) (x_cons (x_var (pv 8)) (x_cons (x_list (own := false) B.b_list (x_cons (x_var (pv 8)) x_nil)) x_nil))) x_nil))) (x_cons (x_var (pv 9)) x_nil)))) x_nil)) (x_repr cn B.b_repr (x_cons (x_callE (g__law_seen B) hr (by decide) cn tk (x_cons (x_var (pv 8)) (x_cons (x_ix (x_var (pv 3)) (x_var (pv 9)) (fun _ _ => rfl)) x_nil))) x_nil))) (s_one (s_ret x_bl)) s_nil)
  (s_cons (s_set sc_law.nd rfl (by first | exact .inl rfl | exact .inr rfl) (x_callE (g__law_pick B) hr (by decide) cn tk (x_cons (x_var (pv 1)) (x_cons (x_lst (own := false) (x_cons x_non (x_cons (x_tup x_nil) (x_cons (x_tup (x_cons x_int x_nil)) (x_cons (x_tup (x_cons x_int x_nil)) (x_cons (x_mul (own := false) (x_tup (x_cons x_int x_nil)) x_int) (x_cons (x_tup (x_cons x_bl (x_cons x_int x_nil))) (x_cons (x_tup (x_cons x_str x_nil)) (x_cons x_int x_nil))))))))) x_nil))))
  (s_cons (s_set sc_law.nd rfl (by first | exact .inl rfl | exact .inr rfl) (x_len B.b_len (x_cons (x_var (pv 2)) x_nil)))
  (s_cons (s_set sc_law.nd rfl (by first | exact .inl rfl | exact .inr rfl) (x_lst (own := false) (x_cons x_non (x_cons (x_tup x_nil) (x_cons (x_tup (x_cons (x_tup x_nil) x_nil)) (x_cons (x_add (own := false) (x_var (pv 3)) (x_tup (x_cons (x_tup (x_cons (x_var (pv 11)) x_nil)) x_nil))) (x_cons (x_add (own := false) (x_var (pv 3)) (x_slice (own := false) (x_var (pv 3)) o_no (o_some x_int))) (x_cons (x_tup (x_cons (x_tup (x_cons (x_neg x_int) x_nil)) x_nil)) (x_cons x_int (x_cons (x_tup (x_cons x_int x_nil)) (x_cons (x_add (own := false) (x_var (pv 3)) (x_tup (x_cons (x_slice (own := false) (x_ix (x_var (pv 3)) x_int (fun _ _ => rfl)) o_no (o_some x_int)) x_nil))) (x_cons (x_tup (x_cons (x_tup (x_cons x_bl x_nil)) x_nil)) x_nil))))))))))))
  (s_cons (s_if (t_gt (x_var (pv 11)) x_int) (s_one (s_set sc_law.nd rfl (by first | exact .inl rfl | exact .inr rfl) (x_add (own := false) (x_var (pv 12)) (x_lst (own := false) (x_cons (x_tup (x_cons (x_tup (x_cons x_int x_nil)) x_nil)) (x_cons (x_tup (x_cons (x_tup (x_cons x_int (x_cons x_int x_nil))) x_nil)) (x_cons (x_add (own := false) (x_var (pv 3)) (x_tup (x_cons (x_tup (x_cons x_int (x_cons x_int x_nil))) x_nil))) x_nil))))))) s_nil)
  (s_cons (s_set sc_law.nd rfl (by first | exact .inl rfl | exact .inr rfl) (x_callE (g__law_pick B) hr (by decide) cn tk (x_cons (x_var (pv 1)) (x_cons (x_var (pv 12)) x_nil))))
  (s_cons (s_set sc_law.nd rfl (by first | exact .inl rfl | exact .inr rfl) (x_callE (g__law_pick B) hr (by decide) cn tk (x_cons (x_var (pv 1)) (x_cons (x_lst (own := false) (x_cons (x_len B.b_len (x_cons (x_var (pv 3)) x_nil)) (x_cons (x_neg x_int) (x_cons x_bl (x_cons x_non x_nil))))) x_nil))))
  (s_cons (s_set sc_law.nd rfl (by first | exact .inl rfl | exact .inr rfl) (x_callE (g__law_pick B) hr (by decide) cn tk (x_cons (x_var (pv 1)) (x_cons (x_lst (own := false) (x_cons x_non (x_cons (x_slice (own := false) (x_var (pv 8)) (o_some x_int) o_no) (x_cons (x_add (own := false) (x_var (pv 8)) (x_tup (x_cons x_int x_nil))) (x_cons (x_mul (own := false) (x_tup (x_cons x_int x_nil)) (x_var (pv 11))) (x_cons x_int (x_cons (x_mul (own := false) (x_tup (x_cons x_str x_nil)) (x_var (pv 11))) x_nil))))))) x_nil))))
  (s_cons (s_set sc_law.nd rfl (by first | exact .inl rfl | exact .inr rfl) (x_makeE (g_Scene___init__ B) B.mk_Scene hr (by decide) cn tk (x_cons (x_mul (own := false) (x_tup (x_cons x_int x_nil)) x_int) (x_cons (x_tup (x_cons (x_tup (x_cons x_int (x_cons x_int (x_cons x_int (x_cons x_int x_nil))))) x_nil)) x_nil))))
  (s_cons (s_set sc_law.nd rfl (by first | exact .inl rfl | exact .inr rfl) (x_lst (own := true) (x_cons (x_tup (x_cons (x_lamB hTB hCode rfl ⟨rfl, rfl, rfl, rfl⟩ rfl rfl rfl (fun _ => rfl) (by kernel_rfl)) (x_cons (x_tup (x_cons x_str (x_cons x_str (x_cons (x_var (pv 10)) x_nil)))) x_nil))) x_nil)))
  (s_cons (s_expr (x_append (x_var (pv 17)) (x_cons (x_tup (x_cons (x_lamB hTB hCode rfl ⟨rfl, rfl, rfl, rfl⟩ rfl rfl rfl (fun _ => rfl) (by kernel_rfl)) (x_cons (x_tup (x_cons x_str (x_cons x_str (x_cons (x_var (pv 13)) x_nil)))) x_nil))) x_nil)))
  (s_cons (s_expr (x_append (x_var (pv 17)) (x_cons (x_tup (x_cons (x_lamB hTB hCode rfl ⟨rfl, rfl, rfl, rfl⟩ rfl rfl rfl (fun _ => rfl) (by kernel_rfl)) (x_cons (x_tup (x_cons x_str (x_cons x_str x_nil))) x_nil))) x_nil)))
  (s_cons (s_expr (x_append (x_var (pv 17)) (x_cons (x_tup (x_cons (x_lamB hTB hCode rfl ⟨rfl, rfl, rfl, rfl⟩ rfl rfl rfl (fun _ => rfl) (by kernel_rfl)) (x_cons (x_tup (x_cons x_str (x_cons x_str (x_cons x_int (x_cons x_int x_nil))))) x_nil))) x_nil)))
  (s_cons (s_expr (x_append (x_var (pv 17)) (x_cons (x_tup (x_cons (x_lamB hTB hCode rfl ⟨rfl, rfl, rfl, rfl⟩ rfl rfl rfl (fun _ => rfl) (by kernel_rfl)) (x_cons (x_tup (x_cons x_str (x_cons x_str x_nil))) x_nil))) x_nil)))
  (s_cons (s_expr (x_append (x_var (pv 17)) (x_cons (x_tup (x_cons (x_lamB hTB hCode rfl ⟨rfl, rfl, rfl, rfl⟩ rfl rfl rfl (fun _ => rfl) (by kernel_rfl)) (x_cons (x_tup (x_cons x_str (x_cons x_str (x_cons (x_var (pv 14)) x_nil)))) x_nil))) x_nil)))
  (s_cons (s_expr (x_append (x_var (pv 17)) (x_cons (x_tup (x_cons (x_lamB hTB hCode rfl ⟨rfl, rfl, rfl, rfl⟩ rfl rfl rfl (fun _ => rfl) (by kernel_rfl)) (x_cons (x_tup (x_cons x_str (x_cons (x_var (pv 15)) x_nil))) x_nil))) x_nil)))
  (s_cons (s_expr (x_append (x_var (pv 17)) (x_cons (x_tup (x_cons (x_lamB hTB hCode rfl ⟨rfl, rfl, rfl, rfl⟩ rfl rfl rfl (fun _ => rfl) (by kernel_rfl)) (x_cons (x_tup (x_cons x_str (x_cons x_str (x_cons (x_var (pv 14)) x_nil)))) x_nil))) x_nil)))
  (s_cons (s_expr (x_append (x_var (pv 17)) (x_cons (x_tup (x_cons (x_lamB hTB hCode rfl ⟨rfl, rfl, rfl, rfl⟩ rfl rfl rfl (fun _ => rfl) (by kernel_rfl)) (x_cons (x_tup (x_cons x_str (x_cons x_str x_nil))) x_nil))) x_nil)))
  (s_one (s_ret (x_and (x_eq cn (x_callE (g_many_plans B) hr (by decide) cn tk (x_cons (x_var (pv 16)) x_nil)) x_int) (x_one (x_callEC (sl := [2, 3, 4, 8, 10, 13, 14, 15, 16]) (g__law_are_due B) hr (by decide) cn tk rfl (slOk_law) (x_cons (x_var (pv 17)) x_nil))))))))))))))))))))))))))))))))))⟩
def levelLaw : Nat := 17
end Lw
end

section
set_option maxHeartbeats 4000000
namespace Lw
open PySem PySem.Spec PyProof.Rows L2 Ev
open Classical
theorem pcOk : PcOk pc := ⟨by decide, by decide, by decide, by decide, by decide, by decide, by decide, by decide, by decide, by decide, by decide, by decide⟩
theorem knOk : KnOk tb := by unfold KnOk; decide
theorem tabE (l : LamI) (cs : List D) (S : Store) (B : Sm) (h : tab l cs S = (if l = l then runL B cs S else .bad)) : tab l cs S = runL B cs S := by
  rw [h, if_pos rfl]
/-- what the law's names hold when the errors are asked for -/
structure CapK where
  as : List Int
  ls : List (List Int)
  p : List Int
  bad : D
  odd : D
  low : D
  wrong : D
structure CapOk (c : CapK) : Prop where
  ok : ScOk c.as c.ls
  four : c.as.length ≤ 4
  plan : c.p ∈ rowsL c.as
  bad : c.bad ∈ badAs
  odd : OddL c.as.length c.odd
  low : c.low ∈ lows c.ls
  wrong : WrongP c.as c.wrong
abbrev wideD : D := scn [5, 5, 5, 5] [[0, 1, 2, 3]]
theorem wide_ok : ScOk [5, 5, 5, 5] [[0, 1, 2, 3]] := ⟨by decide, by decide, by decide, by decide, by decide, by decide, by decide, by decide⟩
abbrev vsC (c : CapK) : List (Option D) := [none, none, some (tI c.as), some (tL c.ls), some (scn c.as c.ls), none, none, none, some (tI c.p), none, some c.bad, none, none, some c.odd, some c.low, some c.wrong, some wideD, none, none]
abbrev stC (cs : List Cell) (c : CapK) : Store := ⟨cs, [], vsC c, none⟩
theorem rows_bad {S : Store} {as : List Int} {ls : List (List Int)} {d : D} (ok : ScOk as ls) (hd : d.dat = true) (hb : btw d 0 ((ls.length : Int) - 1) = false) : F_rows_of [scn as ls, d] S = .exc "BadNumber" ["number", "what"] [d, .str "number"] S := by
  have e := f_rows_of (S := S) ok hd
  rw [e]
  cases d <;> simp [hb]
theorem seen_bad {S : Store} {as p : List Int} {ls : List (List Int)} {d : D} (ok : ScOk as ls) (hi : InD (tI p)) (h3 : inT (tI p) = tI p) (hr : rowD as (tI p) = true) (hd : d.dat = true) (hb : btw d 0 ((ls.length : Int) - 1) = false) : F_seen [scn as ls, tI p, d] S = .exc "BadNumber" ["number", "what"] [d, .str "number"] S := by
  have e := f_seen (S := S) ok hi hd
  rw [e, h3, hr, if_pos rfl]
  cases d <;> simp [tI, hb]
section
variable {cs : List Cell} {c : CapK} (h : CapOk c)
theorem off_st : (stC cs c).off = ⟨cs, [], (stC cs c).off.vs, (stC cs c).off.mkr⟩ := rfl
include h
theorem fl_0 : F__law_fault tb [.clo lam_0 [10, 13]] (stC cs c) = .ok (.tup [.str "scene", .str "answers", c.bad]) (stC cs c) := by
  obtain ⟨b1, b2, b3⟩ := badA_all _ h.bad
  have hp := dat_pure _ b1.dat
  refine fault_of (cs := [c.bad, c.odd]) (c := "BadScene") (fs := ["value", "what"]) (vs := [c.bad, .str "answers"]) rfl rfl ?_ (hand_scene knOk) (by simp [hp])
  show tab lam_0 _ _ = _
  rw [show (stC cs c).ent = stC cs c from rfl, tabE lam_0 _ _ B_0 rfl]
  refine runL_exc ?_ (by simp [hp])
  have e := fun v m => mk_scene (cs := cs) (os := []) (v := v) (m := m) (fun c h => by simp at h) b1 h.odd.ind
  simp only [b2, Bool.false_eq_true, if_false] at e
  rw [off_st]
  simp [B_0, e]
theorem fl_1 : F__law_fault tb [.clo lam_1 [2, 13]] (stC cs c) = .ok (.tup [.str "scene", .str "lots", c.odd]) (stC cs c) := by
  have hp := dat_pure _ h.odd.ind.dat
  obtain ⟨i1, _, i3, _⟩ := ind_tI c.as (by have := h.four; omega)
  refine fault_of (cs := [tI c.as, c.odd]) (c := "BadScene") (fs := ["value", "what"]) (vs := [c.odd, .str "lots"]) rfl rfl ?_ (hand_scene knOk) (by simp [hp])
  show tab lam_1 _ _ = _
  rw [show (stC cs c).ent = stC cs c from rfl, tabE lam_1 _ _ B_1 rfl]
  refine runL_exc ?_ (by simp [hp])
  have e := fun v m => mk_scene (cs := cs) (os := []) (v := v) (m := m) (fun c h => by simp at h) i1 h.odd.ind
  have ht : tupLen (tI c.as) = c.as.length := by simp [tI, tupLen]
  simp only [i3, h.ok.ans, if_true, ht, h.odd.bad, Bool.false_eq_true, if_false] at e
  rw [off_st]
  simp [B_1, e]
theorem fl_2 : F__law_fault tb [.clo lam_2 [2]] (stC cs c) = .ok (.tup [.str "unlike", .str "scene"]) (stC cs c) := by
  obtain ⟨i1, _, _, _⟩ := ind_tI c.as (by have := h.four; omega)
  refine fault_of (cs := [tI c.as]) (c := "Unlike") (fs := ["what"]) (vs := [.str "scene"]) rfl rfl ?_ (hand_unlike knOk) (by simp)
  show tab lam_2 _ _ = _
  rw [show (stC cs c).ent = stC cs c from rfl, tabE lam_2 _ _ B_2 rfl]
  refine runL_exc ?_ (by simp)
  have e := fun S => need_bad (S := S) i1.dat
  simp [B_2, F_plans, runF, M_plans, startD, e]
theorem fl_3 : F__law_fault tb [.clo lam_3 [16]] (stC cs c) = .ok (.tup [.str "many", .str "plans", .int 625, .int 512]) (stC cs c) := by
  refine fault_of (cs := [wideD]) (c := "TooMany") (fs := ["limit", "many", "what"]) (vs := [.int 512, .int 625, .str "plans"]) rfl rfl ?_ (hand_many knOk) (by simp)
  show tab lam_3 _ _ = _
  rw [show (stC cs c).ent = stC cs c from rfl, tabE lam_3 _ _ B_3 rfl]
  refine runL_exc ?_ (by simp)
  have e := fun S => f_plans (S := S) wide_ok
  have hp : prodI [5, 5, 5, 5] = 625 := by decide
  rw [hp] at e
  simp [B_3, e]
theorem fl_4 : F__law_fault tb [.clo lam_4 []] (stC cs c) = .ok (.tup [.str "unlike", .str "scene"]) (stC cs c) := by
  refine fault_of (cs := []) (c := "Unlike") (fs := ["what"]) (vs := [.str "scene"]) rfl rfl ?_ (hand_unlike knOk) (by simp)
  show tab lam_4 _ _ = _
  rw [show (stC cs c).ent = stC cs c from rfl, tabE lam_4 _ _ B_4 rfl]
  refine runL_exc ?_ (by simp)
  have e := fun S => need_bad (S := S) (d := .non) (by simp)
  simp [B_4, F_many_plans, runF, M_many_plans, startD, e]
theorem fl_5 : F__law_fault tb [.clo lam_5 [4, 14]] (stC cs c) = .ok (.tup [.str "number", .str "number", c.low]) (stC cs c) := by
  obtain ⟨b1, b2, b3⟩ := low_all h.ok _ h.low
  have hp := dat_pure _ b1
  refine fault_of (cs := [scn c.as c.ls, c.low]) (c := "BadNumber") (fs := ["number", "what"]) (vs := [c.low, .str "number"]) rfl rfl ?_ (hand_number knOk) (by simp [hp])
  show tab lam_5 _ _ = _
  rw [show (stC cs c).ent = stC cs c from rfl, tabE lam_5 _ _ B_5 rfl]
  refine runL_exc ?_ (by simp [hp])
  have e : ∀ S, F_rows_of [scn c.as c.ls, c.low] S = .exc "BadNumber" ["number", "what"] [c.low, .str "number"] S := fun S => by
    exact rows_bad h.ok b1 b2
  simp [B_5, e]
theorem seen_row (d e : D) (hd : WrongP c.as d) (he : e.dat = true) (S : Store) : F_seen [scn c.as c.ls, d, e] S = .exc "BadRow" ["row"] [d] S := by
  rw [f_seen h.ok hd.ind he, hd.bad]; simp
theorem fl_6 : F__law_fault tb [.clo lam_6 [4, 14, 15]] (stC cs c) = .ok (.tup [.str "row", c.wrong]) (stC cs c) := by
  obtain ⟨b1, b2, b3⟩ := low_all h.ok _ h.low
  have hp := dat_pure _ h.wrong.ind.dat
  refine fault_of (cs := [scn c.as c.ls, c.low, c.wrong]) (c := "BadRow") (fs := ["row"]) (vs := [c.wrong]) rfl rfl ?_ (hand_row knOk) (by simp [hp])
  show tab lam_6 _ _ = _
  rw [show (stC cs c).ent = stC cs c from rfl, tabE lam_6 _ _ B_6 rfl]
  refine runL_exc ?_ (by simp [hp])
  have e := seen_row h c.wrong c.low h.wrong b1
  simp [B_6, e]
theorem fl_7 : F__law_fault tb [.clo lam_7 [4, 8, 14]] (stC cs c) = .ok (.tup [.str "number", .str "number", c.low]) (stC cs c) := by
  obtain ⟨b1, b2, b3⟩ := low_all h.ok _ h.low
  obtain ⟨p1, p2, p3⟩ := plan_good h.ok h.plan
  obtain ⟨i1, _, i3, _⟩ := ind_tI c.p (by have := h.four; omega)
  have hp := dat_pure _ b1
  refine fault_of (cs := [scn c.as c.ls, tI c.p, c.low]) (c := "BadNumber") (fs := ["number", "what"]) (vs := [c.low, .str "number"]) rfl rfl ?_ (hand_number knOk) (by simp [hp])
  show tab lam_7 _ _ = _
  rw [show (stC cs c).ent = stC cs c from rfl, tabE lam_7 _ _ B_7 rfl]
  refine runL_exc ?_ (by simp [hp])
  have e : ∀ S, F_seen [scn c.as c.ls, tI c.p, c.low] S = .exc "BadNumber" ["number", "what"] [c.low, .str "number"] S := fun S => by
    exact seen_bad h.ok i1 i3 p3 b1 b2
  simp [B_7, e]
theorem fl_8 : F__law_fault tb [.clo lam_8 [3, 14, 15]] (stC cs c) = .ok (.tup [.str "unlike", .str "scene"]) (stC cs c) := by
  obtain ⟨i1, _, _, _⟩ := ind_tL c.ls (by have := h.ok.l12; omega) (fun l hl => by have := h.ok.ll l hl; omega)
  refine fault_of (cs := [tL c.ls, c.low, c.wrong]) (c := "Unlike") (fs := ["what"]) (vs := [.str "scene"]) rfl rfl ?_ (hand_unlike knOk) (by simp)
  show tab lam_8 _ _ = _
  rw [show (stC cs c).ent = stC cs c from rfl, tabE lam_8 _ _ B_8 rfl]
  refine runL_exc ?_ (by simp)
  have e := fun S => need_bad (S := S) i1.dat
  simp [B_8, F_seen, runF, M_seen, startD, e]
end
theorem sl_to {A : Sm} {σ : Env1} {S S1 : Store} {xs : List D} {n : Nat} (hA : A σ S = .ok (.tup xs) S1) : evSl false A none (some (evC (.int (n : Int)))) σ S = .ok (.tup (xs.take n)) S1 := by
  have hcut : Ev.cutD xs none (some (n : Int)) = xs.take n := by
    have e1 : HT.sIx xs.length xs.length (some (n : Int)) = min n xs.length := HT.sIx_nat _ _ _
    unfold Ev.cutD
    rw [e1, HT.sIx_none, List.drop_zero, Nat.sub_zero]
    by_cases h : n ≤ xs.length
    · rw [Nat.min_eq_left h]
    · rw [Nat.min_eq_right (by omega), List.take_of_length_le (Nat.le_refl _), List.take_of_length_le (by omega)]
  unfold evSl partE
  rw [hA]
  simp only [Res.bind, p_c]
  rw [sl_t, hcut]
theorem sl_from {A : Sm} {σ : Env1} {S S1 : Store} {xs : List D} {n : Nat} (hA : A σ S = .ok (.tup xs) S1) : evSl false A (some (evC (.int (n : Int)))) none σ S = .ok (.tup (xs.drop n)) S1 := by
  have hcut : Ev.cutD xs (some (n : Int)) none = xs.drop n := by
    have e1 : HT.sIx xs.length 0 (some (n : Int)) = min n xs.length := HT.sIx_nat _ _ _
    unfold Ev.cutD
    rw [e1, HT.sIx_none]
    by_cases h : n ≤ xs.length
    · rw [Nat.min_eq_left h, List.take_of_length_le (by rw [List.length_drop]; omega)]
    · rw [Nat.min_eq_right (by omega), List.drop_of_length_le (Nat.le_refl _), List.drop_of_length_le (by omega)]
      simp
  unfold evSl partE
  rw [hA]
  simp only [Res.bind, p_c]
  rw [sl_t, hcut]
theorem eq_bb {neg a b : Bool} {S : Store} : dEq neg (.bl a) (.bl b) S = .ok (.bl (if neg then !(a == b) else (a == b))) S := by
  rw [dEq_dat (k := 1) EG.bl EG.bl (by decide) (fun _ => nofun) (fun _ => nofun) (fun _ => nofun)]
  have : PyData.eqv (py (.bl a)) (py (.bl b)) = (a == b) := by simp [py, PyData.eqv]
  rw [this]
theorem rg_rows4 {rs : List (List Int)} (hn : rs.length ≤ 400) (h : ∀ r ∈ rs, r.length ≤ 9 ∧ ∀ i ∈ r, i.natAbs ≤ 1000) : okRepr (.tup (rs.map tI)) = true := by
  have := RG.tup (c := 17391) (k := 2) (n := 400) (xs := rs.map tI) (fun x hx => by
    obtain ⟨r, hr, rfl⟩ := List.mem_map.mp hx
    have := RG.tup (c := 1930) (k := 1) (n := 9) (xs := r.map D.int) (fun x hx => by
      obtain ⟨i, hi, rfl⟩ := List.mem_map.mp hx
      exact RG.int (log_small (n := 20) (by have := (h r hr).2 i hi; omega))) (by simpa using (h r hr).1)
    exact this) (by simpa using hn)
  exact this.ok
theorem prodN4 : ∀ {ms : List Int}, (∀ m ∈ ms, m ≤ 4) → prodN ms ≤ 4 ^ ms.length
  | [], _ => Nat.le_refl _
  | m :: ms, h => by
    have h1 := h m (List.mem_cons_self ..)
    have h2 := prodN4 fun m' h' => h m' (List.mem_cons_of_mem _ h')
    show m.toNat * prodN ms ≤ 4 ^ (ms.length + 1)
    rw [Nat.pow_succ, Nat.mul_comm (4 ^ ms.length)]
    exact Nat.mul_le_mul (by omega) h2
theorem rows_rep {as : List Int} (h5 : ∀ a ∈ as, a ≤ 5) (h4 : as.length ≤ 9) (hp : prodN as ≤ 400) : okRepr (.tup ((rowsL as).map tI)) = true := by
  refine rg_rows4 (by rw [rowsL_cnt']; exact hp) fun r hr => ⟨by rw [rowsL_len hr]; exact h4, fun i hi => ?_⟩
  have := rowsL_bd (B := 5) (fun m hm => by have := h5 m hm; omega) hr i hi
  omega
theorem plain : ∀ ns : List Int, ns.length ≤ 63 → (∀ z ∈ ns, Builtin.Int.intBits z ≤ 1048576) → ∃ S1, M_law (startD 19 [.scr (ns.map D.int)]) S0 = .rt (.bl true) S1 := by
  intro ns hns _
  obtain ⟨p0, hp0, e0⟩ := pen (ns := ns) pcOk (by decide) hns [] [] (some 0)
  obtain ⟨x, p1, x1, x2, x3, x4⟩ := draw (many := 4) (r := []) (o := []) (v := []) (m := some 0) hp0 (by omega) (by decide) (by decide)
  obtain ⟨q, q1, q4, hq⟩ : ∃ q : Nat, 1 ≤ q ∧ q ≤ 4 ∧ 1 + x = (q : Int) := ⟨1 + x.toNat, by omega, by omega, by omega⟩
  obtain ⟨as, ls, p2, ok, hal, ha4, s1, s2⟩ := l_scene (q := q) (most := 4) (lots := 5) (r := []) (o := []) (v := []) (m := some 0) x3 (by omega) q1 (by decide) (by decide) (by decide) (by omega) (by omega)
  have s2 : F__law_scene pc [.ref 0, .int (q : Int), .int 4, .int 5] ⟨[p1], [], [], some 0⟩ = .ok (.tup [tI as, tL ls]) ⟨[p2], [], [], some 0⟩ := s2
  have h4 : as.length ≤ 4 := by omega
  obtain ⟨iA, iA', tA, tA'⟩ := ind_tI as (by omega)
  obtain ⟨iL, iL', tL1, tL2⟩ := ind_tL ls (by have := ok.l12; omega) (fun l hl => by have := ok.ll l hl; omega)
  have pLL : (D.lst (ls.map lI)).pure = true := dat_pure _ iL'.dat
  obtain ⟨dA, p3, a1, a2, a3⟩ := pick (xs := [tI as, lI as]) (r := []) (o := []) (v := []) (m := some 0) s1 (by omega) (by simp) (by simp) (by simp)
  obtain ⟨dL, p4, b1, b2, b3⟩ := pick (xs := [tL ls, .lst (ls.map lI)]) (r := []) (o := []) (v := []) (m := some 0) a2 (by omega) (by simp) (by simp) (by simp only [pus_cons, pu_tL, pLL, pus_nil, Bool.and_self])
  have hdA : InD dA ∧ inT dA = tI as := by
    simp only [List.mem_cons, List.not_mem_nil, or_false] at a1
    rcases a1 with rfl | rfl
    · exact ⟨iA, tA⟩
    · exact ⟨iA', tA'⟩
  have hdL : InD dL ∧ inT dL = tL ls := by
    simp only [List.mem_cons, List.not_mem_nil, or_false] at b1
    rcases b1 with rfl | rfl
    · exact ⟨iL, tL1⟩
    · exact ⟨iL', tL2⟩
  have m1 := fun cs v m => mk_ok (cs := cs) (v := v) (m := m) ok hdA.1 hdL.1 hdA.2 hdL.2
  have m2 := fun cs v m => mk_ok (cs := cs) (v := v) (m := m) ok iA iL tA tL1
  obtain ⟨iR, _, tR, _⟩ := ind_tL ls.reverse (by have := ok.l12; rw [List.length_reverse]; omega) (fun l hl => by have := ok.ll l (List.mem_reverse.mp hl); omega)
  have m3 := fun cs v m => mk_ok (cs := cs) (v := v) (m := m) ok.rev iA iR tA tR
  have hrev : ∀ S, dRevS false (tL ls) (.int (-1)) S = .ok (tL ls.reverse) S := fun S => by
    show Res.ok (D.tup (ls.map tI).reverse) S = _
    rw [← List.map_reverse]; rfl
  have rAL := repr_ok (rep2' ((rg_ints (r := as) (by omega) (fun i hi => by have := ok.a5 i hi; omega)).mono (c' := 800000) (by decide) (show 2 ≤ 4 by decide)) ((rg_lots20 (rs := ls) (by have := ok.l12; omega) (lots_sm ok)).mono (by decide) (by decide)) (by decide) (by decide)) (fun _ => nofun)
  have g1 := fun S => eqG_scn (S := S) (as := as) (bs := as) (ls := ls) (ms := ls)
  have g2 := fun S => neG_scn (S := S) (as := as) (bs := as) (ls := ls) (ms := ls)
  have g3 := fun S => eqG_scn (S := S) (as := as) (bs := as) (ls := ls) (ms := ls.reverse)
  have hALd : (D.tup [tI as, tL ls]).dat = true := by
    have := iA.dat
    have := iL.dat
    simp [*]
  have g4 := fun S => eqG_dat (S := S) (as := as) (ls := ls) hALd
  simp only [decide_true, Bool.true_and, Bool.not_true] at g1 g2 g3
  have g5 : ∀ S, dEq true (.bl (decide (ls = ls.reverse))) (.bl (decide (ls = ls.reverse))) S = .ok (.bl false) S := fun S => by rw [eq_bb]; simp
  have hN : prodN as ≤ 256 := by
    have h1 := prodN4 (ms := as) (fun m hm => by have := ha4 m hm; omega)
    have h2 : 4 ^ as.length ≤ 4 ^ 4 := Nat.pow_le_pow_right (by decide) h4
    omega
  have hPI := prod_eq (as := as) (fun a ha => (a05 ok a ha).1)
  have er : ∀ S, F__law_rows [tI as] S = .ok (.lst ((rowsL as).map tI)) S := fun S => f_all_rows (d := tI as) (ms := as) (fun _ => rfl) (fun m hm => by have := ok.a5 m hm; omega) (by omega) (by omega) (fun S n => frz_pu (by simp))
  have epl := fun S => f_plans (S := S) ok
  simp only [show prodI as ≤ 512 by omega, if_true] at epl
  have emp := fun S => f_many (S := S) ok
  have hRl : ((rowsL as).length : Int) = prodI as := by rw [rowsL_cnt', hPI]
  have rRows := repr_ok (rows_rep (as := as) (fun a ha => (a05 ok a ha).2) (by omega) (by omega)) (fun _ => nofun)
  have rInt := repr_ok ((RG.int (i := prodI as) (log_small (n := 20) (by omega))).ok) (fun _ => nofun)
  have hRne : (rowsL as).map tI ≠ [] := by
    intro e
    have e2 := congrArg List.length e
    rw [List.length_map, rowsL_cnt'] at e2
    have := prodN_pos (ms := as) (fun m hm => by have := ok.a5 m hm; omega)
    simp at e2
    omega
  have hRp : D.pures ((rowsL as).map tI) = true := pures_iff.mpr fun x hx => by
    obtain ⟨r, _, rfl⟩ := List.mem_map.mp hx
    simp
  have hRll : (rowsL as).length ≤ 16777216 := by rw [rowsL_cnt']; omega
  obtain ⟨dp, p5, c1, c2, c3⟩ := pick (xs := (rowsL as).map tI) (r := []) (o := []) (v := []) (m := some 0) b2 (by omega) hRne (by rw [List.length_map, rowsL_cnt']; omega) hRp
  obtain ⟨pl, hpl, rfl⟩ := List.mem_map.mp c1
  obtain ⟨y, p6, y1, y2, y3, y4⟩ := draw (many := (ls.length : Int)) (r := []) (o := []) (v := []) (m := some 0) c2 (by omega) (by have := ok.l1; omega) (by have := ok.l12; omega)
  obtain ⟨k, hk, hy⟩ : ∃ k : Nat, k < ls.length ∧ y = (k : Int) := ⟨y.toNat, by omega, by omega⟩
  subst hy
  obtain ⟨g6, g7, g8⟩ := plan_good ok hpl
  obtain ⟨iP, iP', tP, tP'⟩ := ind_tI pl (by omega)
  have hm := lot_in ok hk
  have erow : ∀ S, F_rows_of [scn as ls, .int (k : Int)] S = .ok (.tup ((rowsL (lotA as (ls.getD k []))).map tI)) S := fun S => by
    have e := f_rows_of (S := S) (d := .int (k : Int)) ok (by simp)
    have hb : btw (.int (k : Int)) 0 ((ls.length : Int) - 1) = true := by simp [btw]; omega
    simp only [hb, if_true, Int.toNat_natCast] at e
    exact e
  have elr := fun S => l_lot_rows (S := S) ok hm
  have eix : ∀ S, dIx (tL ls) (.int (k : Int)) S = .ok (tI (ls.getD k [])) S := fun S => ix_lot (S := S) hk
  obtain ⟨dp2, p7, d1, d2, d3⟩ := pick (xs := [tI pl, lI pl]) (r := []) (o := []) (v := []) (m := some 0) y3 (by omega) (by simp) (by simp) (by simp)
  have hdp2 : InD dp2 ∧ inT dp2 = tI pl := by
    simp only [List.mem_cons, List.not_mem_nil, or_false] at d1
    rcases d1 with rfl | rfl
    · exact ⟨iP, tP⟩
    · exact ⟨iP', tP'⟩
  have eseen : ∀ S, F_seen [scn as ls, dp2, .int (k : Int)] S = .ok (tI (seenL pl (ls.getD k []))) S := fun S => by
    have e := f_seen (S := S) (d := dp2) (e := .int (k : Int)) ok hdp2.1 (by simp)
    have hb : btw (.int (k : Int)) 0 ((ls.length : Int) - 1) = true := by simp [btw]; omega
    rw [e, hdp2.2, g8, if_pos rfl]
    simp only [tI, hb, if_true, Int.toNat_natCast, intsX_map]
  have els := fun S => l_seen (S := S) (p := pl) ok hm g6
  obtain ⟨t1, t2, t3, t5⟩ := lot_prod ok hm
  have hlot4 : (ls.getD k []).length ≤ 4 := Nat.le_trans (asc_len (ok.lr _ hm).2.1 (ok.lr _ hm).2.2) h4
  have rLot := repr_ok (rows_rep (as := lotA as (ls.getD k [])) (fun a ha => (t5 a ha).2) t2 (by
    have h1 := prodN4 (ms := lotA as (ls.getD k [])) (fun m hmm => by
      obtain ⟨i, hi, rfl⟩ := List.mem_map.mp hmm
      have := (ok.lr _ hm).2.2 i hi
      have hlt : i.toNat < as.length := by omega
      have := ha4 (as.getD i.toNat 0) (by simp [List.getD_eq_getElem?_getD, List.getElem?_eq_getElem hlt])
      omega)
    have h2 : 4 ^ (lotA as (ls.getD k [])).length ≤ 4 ^ 4 := Nat.pow_le_pow_right (by decide) (by rw [List.length_map]; exact hlot4)
    omega)) (fun _ => nofun)
  have hLl : (rowsL (lotA as (ls.getD k []))).length ≤ 16777216 := by rw [rowsL_cnt']; exact t3
  have rSeen := repr_ok ((rg_ints (r := seenL pl (ls.getD k [])) (by rw [List.length_map]; omega) (fun i hi => by
    obtain ⟨j, hj, rfl⟩ := List.mem_map.mp hi
    have := (ok.lr _ hm).2.2 j hj
    have hlt : j.toNat < pl.length := by omega
    exact g7 _ (by simp [List.getD_eq_getElem?_getD, List.getElem?_eq_getElem hlt]))).ok) (fun _ => nofun)
  have pures_of : ∀ {xs : List D}, (∀ d ∈ xs, d.dat = true) → D.pures xs = true := fun h => dats_pures (dats_iff.mpr h)
  obtain ⟨bad, p8, f1, f2, f3⟩ := pick (xs := badAs) (r := []) (o := []) (v := []) (m := some 0) d2 (by omega) (by simp) (by simp) (by simp)
  obtain ⟨L, hL1, hL2, hLp, hLn, hLl2⟩ : ∃ L : List D, (L = if (1 : Int) < as.length then odd1 as ls ++ odd2 ls else odd1 as ls) ∧ (∀ d ∈ L, OddL as.length d) ∧ D.pures L = true ∧ L ≠ [] ∧ L.length ≤ 100 := by
    by_cases h1 : 1 < as.length
    · have hall : ∀ d ∈ odd1 as ls ++ odd2 ls, OddL as.length d := fun d hd => (List.mem_append.mp hd).elim (odd1_all ok d) (odd2_all ok h1 d)
      exact ⟨_, (if_pos (by omega)).symm, hall, pures_of fun d hd => (hall d hd).ind.dat, by simp, by simp⟩
    · exact ⟨_, (if_neg (by omega)).symm, odd1_all ok, pures_of fun d hd => (odd1_all ok d hd).ind.dat, by simp, by simp⟩
  obtain ⟨odd, p9, i1, i2, i3⟩ := pick (xs := L) (r := []) (o := []) (v := []) (m := some 0) f2 (by omega) hLn (by omega) hLp
  obtain ⟨low, p10, j1, j2, j3⟩ := pick (xs := lows ls) (r := []) (o := []) (v := []) (m := some 0) i2 (by omega) (by simp) (by simp) (by simp)
  have hw := wrong_all ok h4 hpl
  obtain ⟨wrong, p11, k1, k2, k3⟩ := pick (xs := wrongs as pl) (r := []) (o := []) (v := []) (m := some 0) j2 (by omega) (by simp) (by simp) (pures_of fun d hd => (hw d hd).ind.dat)
  have hc : CapOk ⟨as, ls, pl, bad, odd, low, wrong⟩ := ⟨ok, h4, hpl, f1, hL2 _ i1, j1, hw _ k1⟩
  obtain ⟨w1, _, w3, _⟩ := ind_tI [5, 5, 5, 5] (by decide)
  obtain ⟨v1, _, v3, _⟩ := ind_tL [[0, 1, 2, 3]] (by decide) (by decide)
  have m4 := fun cs v m => mk_ok (cs := cs) (v := v) (m := m) wide_ok w1 v1 w3 v3
  have emw := fun S => f_many (S := S) wide_ok
  have hp625 : prodI [5, 5, 5, 5] = 625 := by decide
  rw [hp625] at emw
  -- the tries
  let T : List D := [.tup [.clo lam_0 [10, 13], .tup [.str "scene", .str "answers", bad]], .tup [.clo lam_1 [2, 13], .tup [.str "scene", .str "lots", odd]], .tup [.clo lam_2 [2], .tup [.str "unlike", .str "scene"]], .tup [.clo lam_3 [16], .tup [.str "many", .str "plans", .int 625, .int 512]], .tup [.clo lam_4 [], .tup [.str "unlike", .str "scene"]], .tup [.clo lam_5 [4, 14], .tup [.str "number", .str "number", low]], .tup [.clo lam_6 [4, 14, 15], .tup [.str "row", wrong]], .tup [.clo lam_7 [4, 8, 14], .tup [.str "number", .str "number", low]], .tup [.clo lam_8 [3, 14, 15], .tup [.str "unlike", .str "scene"]]]
  have rbad := (badA_all _ f1).2.2
  have rlow := (low_all ok _ j1).2.2
  have hdue := are_due (tb := tb) (n := 1) (S := stC [p11, .lst T] ⟨as, ls, pl, bad, odd, low, wrong⟩) (items := T) rfl (by
    intro x hx
    simp only [T, List.mem_cons, List.not_mem_nil, or_false] at hx
    rcases hx with rfl | rfl | rfl | rfl | rfl | rfl | rfl | rfl | rfl
    · exact ⟨_, _, rfl, fl_0 hc, rbad, fun _ => nofun⟩
    · exact ⟨_, _, rfl, fl_1 hc, (hL2 _ i1).rep, fun _ => nofun⟩
    · exact ⟨_, _, rfl, fl_2 hc, by kernel_rfl, fun _ => nofun⟩
    · exact ⟨_, _, rfl, fl_3 hc, by kernel_rfl, fun _ => nofun⟩
    · exact ⟨_, _, rfl, fl_4 hc, by kernel_rfl, fun _ => nofun⟩
    · exact ⟨_, _, rfl, fl_5 hc, rlow, fun _ => nofun⟩
    · exact ⟨_, _, rfl, fl_6 hc, (hw _ k1).rep, fun _ => nofun⟩
    · exact ⟨_, _, rfl, fl_7 hc, rlow, fun _ => nofun⟩
    · exact ⟨_, _, rfl, fl_8 hc, by kernel_rfl, fun _ => nofun⟩) (by simp [T])
  refine ⟨⟨[p11, .lst T], [], [], some 0⟩, ?_⟩
  have est : startD 19 [D.scr (ns.map D.int)] = [some (.scr (ns.map D.int)), none, none, none, none, none, none, none, none, none, none, none, none, none, none, none, none, none, none] := rfl
  rw [est]
  -- what is handed over
  have elc := fun S => lc_g (C := evC (.bl true)) (E := E_law_0) (T := tgN 18) (σ := [some (.scr (ns.map D.int)), some (.ref 0), some (tI as), some (tL ls), none, none, none, none, none, none, none, none, none, none, none, none, none, none, none]) (S := S) (it := seqOf (tL ls)) (xs := ls.map tI) tI lI rfl ls fun l hl => by
    have hll : (l.map D.int).length ≤ 16777216 := by have := ok.ll l hl; rw [List.length_map]; omega
    refine ⟨_, rfl, by simp, ?_⟩
    have : dList false (tI l) S = .ok (lI l) S := by
      show mkL false _ S = _
      rw [mkL_f, if_pos hll]; rfl
    simp [E_law_0, this]
  have hlsl : ls.length ≤ 16777216 := by have := ok.l12; omega
  have hlA : ∀ S, dList false (tI as) S = .ok (lI as) S := fun S => by
    show mkL false _ S = _
    rw [mkL_f, if_pos (by simp; omega)]; rfl
  have hlP : ∀ S, dList false (tI pl) S = .ok (lI pl) S := fun S => by
    show mkL false _ S = _
    rw [mkL_f, if_pos (by simp; omega)]; rfl
  have le1 : 0 + 1 ≤ 16777216 := by decide
  have le2 : 0 + 1 + 1 ≤ 16777216 := by decide
  unfold M_law S0
  simp only [q_seq, q_set, q_if, q_expr, q_ret, q_nil, p_A, p_B, kB_e, p_U, p_cons, p_nil, kCons_e, kTup_e, bind_ok, bindA_ok, p_var, p_c, p_lc, kLc_e, p_one, p_two, p_repr1, p_callF, List.getElem?_cons_succ, List.getElem?_cons_zero, List.append_nil, List.length_cons, List.length_nil, if_true, go_ok, kSet_e, seq_nx, kSIf_t, kSIf_f, kRet_e, kExpr_e, p_orT, kOrT_t, kOrT_f, p_andT, kAndT_t, kAndT_f, seq_l, seq_t, wipeD, List.set_cons_succ, List.set_cons_zero, List.foldl_cons, List.foldl_nil, mkL_f, mkT_e, List.length_map, tup_l, tup_t, len_t, len_l, add_i, sub_i, ne_ss, ne_i, eq_i, e0, x4, hq, s2, q_asg, kAsg_e, tg_tup, tg_cons, tg_n, tg_nil, hlA, a3, seq_tL, elc, hlsl, b3, le2, m1, fld_ans, fld_lots, rAL, decide_true, Bool.not_true, q_par2, m2, neg_i, hrev, m3, kPar2_e, g1, not_b, g2, g3, eq_tL, Bool.false_eq_true, if_false, g5, g4, er, epl, hRll, rRows, emp, rInt, hRl, c3, len_tL, y4, erow, eix, elr, hLl, rLot, hlP, d3, eseen, els, rSeen]
  have hm10 : ∀ S, dMul false (.tup [.int 2]) (.int 10) S = .ok (.tup [.int 2, .int 2, .int 2, .int 2, .int 2, .int 2, .int 2, .int 2, .int 2, .int 2]) S := fun S => by simp
  have hm54 : ∀ S, dMul false (.tup [.int 5]) (.int 4) S = .ok (tI [5, 5, 5, 5]) S := fun S => by simp [tI]
  have m4 : ∀ (cs : List Cell) (v : List (Option D)) (m : Option Nat), mkI "Scene" 3 F_Scene___init__ [tI [5, 5, 5, 5], .tup [.tup [.int 0, .int 1, .int 2, .int 3]]] ⟨cs, [], v, m⟩ = .ok (scn [5, 5, 5, 5] [[0, 1, 2, 3]]) ⟨cs, [], v, m⟩ := m4
  simp only [stC, vsC, T] at hdue
  have haL : ∀ (x : List Int) S, dAdd false (tL ls) (.tup [tI x]) S = .ok (tL (ls ++ [x])) S := fun x S => by
    show mkT (ls.map tI ++ [tI x]) S = _
    rw [mkT_e, if_pos (by simp; have := ok.l12; omega)]
    simp [tL]
  have ha1 : ∀ S, dAdd false (tL ls) (.tup [.tup [.int (as.length : Int)]]) S = .ok (tL (ls ++ [[(as.length : Int)]])) S := haL [(as.length : Int)]
  have ha00 : ∀ S, dAdd false (tL ls) (.tup [.tup [.int 0, .int 0]]) S = .ok (tL (ls ++ [[0, 0]])) S := haL [0, 0]
  have ha2 : ∀ S, dAdd false (tL ls) (tL (ls.take 1)) S = .ok (tL (ls ++ ls.take 1)) S := fun S => by
    show mkT (ls.map tI ++ (ls.take 1).map tI) S = _
    rw [mkT_e, if_pos (by simp; have := ok.l12; omega)]
    simp [tL]
  have eix0 : ∀ S, dIx (tL ls) (.int 0) S = .ok (tI (ls.getD 0 [])) S := fun S => ix_lot (S := S) (k := 0) (by have := ok.l1; omega)
  have hsl1 : ∀ (σ : Env1) (S : Store), σ[3]? = some (some (tL ls)) → evSl false (evVar 3) none (some (evC (.int 1))) σ S = .ok (tL (ls.take 1)) S := fun σ S h => by
    have e := sl_to (n := 1) (A := evVar 3) (σ := σ) (S := S) (S1 := S) (xs := ls.map tI) (by rw [p_var, h]; rfl)
    rw [← List.map_take] at e
    exact e
  have hsl2 : ∀ (σ : Env1) (S : Store), σ[3]? = some (some (tL ls)) → evSl false (evB (evVar 3) (evC (.int 0)) dIx) none (some (evC (.int 1))) σ S = .ok (tI ((ls.getD 0 []).take 1)) S := fun σ S h => by
    have e := sl_to (n := 1) (A := evB (evVar 3) (evC (.int 0)) dIx) (σ := σ) (S := S) (S1 := S) (xs := (ls.getD 0 []).map D.int) (by
      simp only [p_B, kB_e, p_var, p_c, bind_ok, h, eix0]
      rfl)
    rw [← List.map_take] at e
    exact e
  have hsl3 : ∀ (σ : Env1) (S : Store), σ[8]? = some (some (tI pl)) → evSl false (evVar 8) (some (evC (.int 1))) none σ S = .ok (tI (pl.drop 1)) S := fun σ S h => by
    have e := sl_from (n := 1) (A := evVar 8) (σ := σ) (S := S) (S1 := S) (xs := pl.map D.int) (by rw [p_var, h]; rfl)
    rw [← List.map_drop] at e
    exact e
  have hap : ∀ S, dAdd false (tI pl) (.tup [.int 0]) S = .ok (tI (pl ++ [0])) S := fun S => by
    show mkT (pl.map D.int ++ [.int 0]) S = _
    rw [mkT_e, if_pos (by simp; omega)]
    simp [tI]
  have hm9 : ∀ S, dMul false (.tup [.int 9]) (.int (as.length : Int)) S = .ok (tI (List.replicate as.length 9)) S := fun S => by
    rw [mul_t, if_pos (by simp; omega)]
    simp [tI]
  have hm0 : ∀ S, dMul false (.tup [.str "0"]) (.int (as.length : Int)) S = .ok (zeroS as.length) S := fun S => by
    rw [mul_t, if_pos (by simp; omega)]
    simp
  have hlam : ∀ (l : LamI) (sl : List Nat) (σ : Env1) (c : List Cell) (o v), evLam l sl σ ⟨c, o, v, some 0⟩ = .ok (.clo l (sl.map (0 + ·))) ⟨c, o, v, some 0⟩ := fun l sl σ c o v => rfl
  have hdg : ∀ S, dGt (.int (as.length : Int)) (.int 1) S = .ok (.bl (decide ((1 : Int) < as.length))) S := fun S => rfl
  have hclo : ∀ l ns, D.pure (.clo l ns) = true := fun l ns => by simp [D.pure]
  have ubad := dat_pure _ (badA_all _ f1).1.dat
  have uodd := dat_pure _ (hL2 _ i1).ind.dat
  have ulow := dat_pure _ (low_all ok _ j1).1
  have uwr := dat_pure _ (hw _ k1).ind.dat
  have hstep : L = (if (1 : Int) < as.length then odd1 as ls ++ odd2 ls else odd1 as ls) := hL1
  by_cases hfar : (1 : Int) < as.length
  · rw [if_pos hfar] at hstep
    rw [hstep] at i3
    simp only [odd1, odd2, List.cons_append, List.nil_append] at i3
    simp only [decide_eq_true hfar] at hdg
    simp only [q_seq, q_set, q_if, q_expr, q_ret, q_nil, p_A, p_B, kB_e, p_U, p_cons, p_nil, kCons_e, kTup_e, bind_ok, bindA_ok, p_var, p_c, p_lc, kLc_e, p_one, p_two, p_repr1, p_callF, List.getElem?_cons_succ, List.getElem?_cons_zero, List.append_nil, List.length_cons, List.length_nil, if_true, go_ok, kSet_e, seq_nx, kSIf_t, kSIf_f, kRet_e, kExpr_e, p_orT, kOrT_t, kOrT_f, p_andT, kAndT_t, kAndT_f, seq_l, seq_t, wipeD, List.set_cons_succ, List.set_cons_zero, List.foldl_cons, List.foldl_nil, mkL_f, mkT_e, List.length_map, tup_l, tup_t, len_t, len_l, add_i, sub_i, ne_ss, ne_i, eq_i, hm10, f3, len_tI, ha1, hsl1, ha2, neg_i, eix0, hsl2, haL, hdg, ha00, add_l, List.cons_append, List.nil_append, i3, len_tL, j3, hsl3, hap, hm9, hm0, k3, hm54, m4, Nat.reduceAdd, Nat.reduceLeDiff]
    simp [mkL, hlam, hclo, ubad, uodd, ulow, uwr, isLstD, lstX, isTupD, dAppend, emw, callC, Store.entC, mask, hdue, Store.back, T]
    done
  · rw [if_neg hfar] at hstep
    rw [hstep] at i3
    simp only [odd1] at i3
    simp only [decide_eq_false hfar] at hdg
    simp only [q_seq, q_set, q_if, q_expr, q_ret, q_nil, p_A, p_B, kB_e, p_U, p_cons, p_nil, kCons_e, kTup_e, bind_ok, bindA_ok, p_var, p_c, p_lc, kLc_e, p_one, p_two, p_repr1, p_callF, List.getElem?_cons_succ, List.getElem?_cons_zero, List.append_nil, List.length_cons, List.length_nil, if_true, go_ok, kSet_e, seq_nx, kSIf_t, kSIf_f, kRet_e, kExpr_e, p_orT, kOrT_t, kOrT_f, p_andT, kAndT_t, kAndT_f, seq_l, seq_t, wipeD, List.set_cons_succ, List.set_cons_zero, List.foldl_cons, List.foldl_nil, mkL_f, mkT_e, List.length_map, tup_l, tup_t, len_t, len_l, add_i, sub_i, ne_ss, ne_i, eq_i, hm10, f3, len_tI, ha1, hsl1, ha2, neg_i, eix0, hsl2, haL, hdg, ha00, add_l, i3, len_tL, j3, hsl3, hap, hm9, hm0, k3, hm54, m4, Nat.reduceAdd, Nat.reduceLeDiff]
    simp [mkL, hlam, hclo, ubad, uodd, ulow, uwr, isLstD, lstX, isTupD, dAppend, emw, callC, Store.entC, mask, hdue, Store.back, T]
end Lw
end

section
set_option maxHeartbeats 0
namespace Lw
open PySem PySem.Spec PyProof.Rows L2 Ev
open Classical
def nms_0 : List Str := ["PlanError", "BadNumber", "BadScene", "BadRow", "BadTable", "BadLot", "Unlike", "TooMany", "is_whole", "in_tuples", "is_tuple_of", "need_between", "MOST_QUESTIONS", "MOST_LOTS", "MOST_PLANS", "Scene", "is_lot", "is_within", "are_lots", "need_scene", "all_rows", "product_of", "many_plans", "need_few", "plans", "lot_rows", "need_number", "rows_of", "is_row_of", "plan_from"]
def nms_1 : List Str := ["seen", "seen_by", "_law_pen", "_law_draw", "_law_pick", "_law_shuffled", "_law_rows", "_law_lot_rows", "_law_scene", "_law_seen", "_law_fault", "_law_are_due"]
def nms : List Str := nms_0 ++ nms_1
def dd_0 : He.DefD := ⟨("Scene", some "__eq__"), "__eq__", "Scene.__eq__", defArgs (mth (top 18) 1), defBody (mth (top 18) 1), defScope (mth (top 18) 1), [], []⟩
def dd_1 : He.DefD := ⟨("is_whole", none), "is_whole", "is_whole", defArgs (top 10), defBody (top 10), defScope (top 10), [], []⟩
def dd_2 : He.DefD := ⟨("is_lot", none), "is_lot", "is_lot", defArgs (top 19), defBody (top 19), defScope (top 19), [], []⟩
def dd_3 : He.DefD := ⟨("is_within", none), "is_within", "is_within", defArgs (top 20), defBody (top 20), defScope (top 20), [], []⟩
def dd_4 : He.DefD := ⟨("are_lots", none), "are_lots", "are_lots", defArgs (top 21), defBody (top 21), defScope (top 21), [], []⟩
def dd_5 : He.DefD := ⟨("in_tuples", none), "in_tuples", "in_tuples", defArgs (top 11), defBody (top 11), defScope (top 11), [], []⟩
def dd_6 : He.DefD := ⟨("Scene", some "__init__"), "__init__", "Scene.__init__", defArgs (mth (top 18) 0), defBody (mth (top 18) 0), defScope (mth (top 18) 0), [], []⟩
def dd_7 : He.DefD := ⟨("Scene", some "__ne__"), "__ne__", "Scene.__ne__", defArgs (mth (top 18) 2), defBody (mth (top 18) 2), defScope (mth (top 18) 2), [], []⟩
def dd_8 : He.DefD := ⟨("all_rows", none), "all_rows", "all_rows", defArgs (top 23), defBody (top 23), defScope (top 23), [], []⟩
def dd_9 : He.DefD := ⟨("product_of", none), "product_of", "product_of", defArgs (top 24), defBody (top 24), defScope (top 24), [], []⟩
def dd_10 : He.DefD := ⟨("need_few", none), "need_few", "need_few", defArgs (top 26), defBody (top 26), defScope (top 26), [], []⟩
def dd_11 : He.DefD := ⟨("need_scene", none), "need_scene", "need_scene", defArgs (top 22), defBody (top 22), defScope (top 22), [], []⟩
def dd_12 : He.DefD := ⟨("plans", none), "plans", "plans", defArgs (top 27), defBody (top 27), defScope (top 27), [], []⟩
def dd_13 : He.DefD := ⟨("many_plans", none), "many_plans", "many_plans", defArgs (top 25), defBody (top 25), defScope (top 25), [], []⟩
def dd_14 : He.DefD := ⟨("lot_rows", none), "lot_rows", "lot_rows", defArgs (top 28), defBody (top 28), defScope (top 28), [], []⟩
def dd_15 : He.DefD := ⟨("need_between", none), "need_between", "need_between", defArgs (top 13), defBody (top 13), defScope (top 13), [], []⟩
def dd_16 : He.DefD := ⟨("need_number", none), "need_number", "need_number", defArgs (top 29), defBody (top 29), defScope (top 29), [], []⟩
def dd_17 : He.DefD := ⟨("rows_of", none), "rows_of", "rows_of", defArgs (top 30), defBody (top 30), defScope (top 30), [], []⟩
def dd_18 : He.DefD := ⟨("is_tuple_of", none), "is_tuple_of", "is_tuple_of", defArgs (top 12), defBody (top 12), defScope (top 12), [], []⟩
def dd_19 : He.DefD := ⟨("is_row_of", none), "is_row_of", "is_row_of", defArgs (top 31), defBody (top 31), defScope (top 31), [], []⟩
def dd_20 : He.DefD := ⟨("plan_from", none), "plan_from", "plan_from", defArgs (top 32), defBody (top 32), defScope (top 32), [], []⟩
def dd_21 : He.DefD := ⟨("seen_by", none), "seen_by", "seen_by", defArgs (top 34), defBody (top 34), defScope (top 34), [], []⟩
def dd_22 : He.DefD := ⟨("seen", none), "seen", "seen", defArgs (top 33), defBody (top 33), defScope (top 33), [], []⟩
def dd_23 : He.DefD := ⟨("_law_fault", none), "_law_fault", "_law_fault", defArgs (top 44), defBody (top 44), defScope (top 44), [], []⟩
def dd_24 : He.DefD := ⟨("_law_are_due", none), "_law_are_due", "_law_are_due", defArgs (top 45), defBody (top 45), defScope (top 45), [], []⟩
def dd_25 : He.DefD := ⟨("_law_draw", none), "_law_draw", "_law_draw", defArgs (top 37), defBody (top 37), defScope (top 37), [], []⟩
def dd_26 : He.DefD := ⟨("_law_rows", none), "_law_rows", "_law_rows", defArgs (top 40), defBody (top 40), defScope (top 40), [], []⟩
def dd_27 : He.DefD := ⟨("_law_lot_rows", none), "_law_lot_rows", "_law_lot_rows", defArgs (top 41), defBody (top 41), defScope (top 41), [], []⟩
def dd_28 : He.DefD := ⟨("_law_pen", none), "_law_pen", "_law_pen", defArgs (top 36), defBody (top 36), defScope (top 36), [], []⟩
def dd_29 : He.DefD := ⟨("_law_pick", none), "_law_pick", "_law_pick", defArgs (top 38), defBody (top 38), defScope (top 38), [], []⟩
def dd_30 : He.DefD := ⟨("_law_shuffled", none), "_law_shuffled", "_law_shuffled", defArgs (top 39), defBody (top 39), defScope (top 39), [], []⟩
def dd_31 : He.DefD := ⟨("_law_scene", none), "_law_scene", "_law_scene", defArgs (top 42), defBody (top 42), defScope (top 42), [], []⟩
def dd_32 : He.DefD := ⟨("_law_seen", none), "_law_seen", "_law_seen", defArgs (top 43), defBody (top 43), defScope (top 43), [], []⟩
def dd_33 : He.DefD := ⟨("law", none), "law", "law", defArgs (top 46), defBody (top 46), defScope (top 46), [], []⟩
def dd_34 : He.DefD := ⟨("BadNumber", some "__init__"), "__init__", "BadNumber.__init__", defArgs (mth (top 2) 0), defBody (mth (top 2) 0), defScope (mth (top 2) 0), [], []⟩
def dd_35 : He.DefD := ⟨("BadScene", some "__init__"), "__init__", "BadScene.__init__", defArgs (mth (top 3) 0), defBody (mth (top 3) 0), defScope (mth (top 3) 0), [], []⟩
def dd_36 : He.DefD := ⟨("BadRow", some "__init__"), "__init__", "BadRow.__init__", defArgs (mth (top 4) 0), defBody (mth (top 4) 0), defScope (mth (top 4) 0), [], []⟩
def dd_37 : He.DefD := ⟨("BadTable", some "__init__"), "__init__", "BadTable.__init__", defArgs (mth (top 5) 0), defBody (mth (top 5) 0), defScope (mth (top 5) 0), [], []⟩
def dd_38 : He.DefD := ⟨("BadLot", some "__init__"), "__init__", "BadLot.__init__", defArgs (mth (top 6) 0), defBody (mth (top 6) 0), defScope (mth (top 6) 0), [], []⟩
def dd_39 : He.DefD := ⟨("Unlike", some "__init__"), "__init__", "Unlike.__init__", defArgs (mth (top 7) 0), defBody (mth (top 7) 0), defScope (mth (top 7) 0), [], []⟩
def dd_40 : He.DefD := ⟨("TooMany", some "__init__"), "__init__", "TooMany.__init__", defArgs (mth (top 8) 0), defBody (mth (top 8) 0), defScope (mth (top 8) 0), [], []⟩
def fn_0 : List He.DefD := [dd_0, dd_1, dd_2, dd_3, dd_4, dd_5, dd_6, dd_7, dd_8, dd_9, dd_10, dd_11, dd_12, dd_13, dd_14, dd_15, dd_16, dd_17, dd_18, dd_19, dd_20, dd_21, dd_22, dd_23, dd_24, dd_25, dd_26, dd_27, dd_28, dd_29]
def fn_1 : List He.DefD := [dd_30, dd_31, dd_32, dd_33, dd_34, dd_35, dd_36, dd_37, dd_38, dd_39, dd_40]
def fn : List He.DefD := fn_0 ++ fn_1
def fa_0 : List He.Fa := [.glo "is_whole", .glo "is_lot", .glo "is_within", .glo "are_lots", .glo "in_tuples", .glo "all_rows", .glo "product_of", .glo "need_few", .glo "need_scene", .glo "plans", .glo "many_plans", .glo "lot_rows", .glo "need_between", .glo "need_number", .glo "rows_of", .glo "is_tuple_of", .glo "is_row_of", .glo "plan_from", .glo "seen_by", .glo "seen", .glo "_law_fault", .glo "_law_are_due", .glo "_law_draw", .glo "_law_rows", .glo "_law_lot_rows", .glo "_law_pen", .glo "_law_pick", .glo "_law_shuffled", .glo "_law_scene", .glo "_law_seen"]
def fa_1 : List He.Fa := [.glo "law", .glo "PlanError", .glo "BadNumber", .glo "BadScene", .glo "BadRow", .glo "BadTable", .glo "BadLot", .glo "Unlike", .glo "TooMany", .glo "Scene", .free "all", .free "any", .free "bool", .free "int", .free "isinstance", .free "len", .free "list", .free "min", .free "range", .free "repr", .free "sorted", .free "tuple", .free "zip", .int "MOST_LOTS" 12, .int "MOST_PLANS" 512, .int "MOST_QUESTIONS" 9]
def fa : List He.Fa := fa_0 ++ fa_1
def excs : List (Str × List Str) := [("BadNumber", ["what", "number"]), ("BadScene", ["what", "value"]), ("BadRow", ["row"]), ("BadTable", ["table"]), ("BadLot", ["lot"]), ("Unlike", ["what"]), ("TooMany", ["what", "many", "limit"])]
def kcls : List (Str × List Str) := [("Scene", ["answers", "lots"])]
def kis : List (Str × List Str) := [("Scene", ["Scene"])]
def keq : List (Str × Str × List Str) := [("Scene", "__eq__", ["Scene"]), ("Scene", "__ne__", ["Scene"])]
def kmk : List Str := ["Scene"]
def ktu : List (Str × List Int) := []
def ex : PySem.W.Frag → Bool := fun K => exB excs ["PlanError"] [] K && kxB kcls kis keq kmk ktu K
def tf : List He.Defn := [("law", none)]
abbrev R : PySem.W.OpenRow := PySem.W.OpenLaw.row PySem.Challenge.rw_hiddenplans_k03_scenes_and_plans
abbrev hk : PySem.W.Hook := hookY 5 fa fn tf ex
def ob (s : PySem.W.SharedT) : He.AlX := obsY 5 fa fn tf ex (HandSHeadRun.getT s)
theorem ob_eq (s : PySem.W.SharedT) : ob s = hk.obs s.abs := obsY_eq (HandSHeadRun.getT_eq s)
theorem run (w : World) : HandSHeadRun.RunEq R (PySem.W.view R.prog [46]) hk ob 4000 nms w := by
  intro os
  kernel_rfl
theorem sci_BadNumber : FnScope ["self", "what", "number"] ["self", "what", "number"] (defScope (mth (top 2) 0)) := ⟨rfl, rfl, rfl, by decide +kernel, rfl, by decide +kernel, by decide +kernel⟩
theorem ex_BadNumber {P : Program} {w : World} {K : PySem.W.Frag} {mg : Str → Option Value} {base : Heap} (F : ExF K (He.ga K "BadNumber") ["what", "number"]) (PE : PeI K (He.ga K "PlanError")) (mP : mg "PlanError" = some (.ref (He.ga K "PlanError"))) (mC : mg "BadNumber" = some (.ref (He.ga K "BadNumber")))
    (D : ∃ fd, FunD K "__init__" "BadNumber.__init__" (defArgs (mth (top 2) 0)) (defBody (mth (top 2) 0)) (defScope (mth (top 2) 0)) [] [] (He.ma K (He.ga K "BadNumber") "__init__") fd) : ExE P w K mg base "BadNumber" ["what", "number"] :=
  ExE.of (msg := "A number that is not allowed here.") F.cls F.ini F.tyI D sci_BadNumber (by decide) mC F.nof (fun _ _ _ _ _ _ us hl => match us, hl with | [_, _, _], _ => rfl) fun cdv A outer s H E => (pss_cons (ps_expr (pe_baseInit PE mP (pa_cons (pv 0) (pa_cons pe_str pa_nil)))) (pss_cons (ps_ost (pv 0) (pv 1)) (pss_cons (ps_ost (pv 0) (pv 2)) pss_nil)))
theorem sci_BadScene : FnScope ["self", "what", "value"] ["self", "what", "value"] (defScope (mth (top 3) 0)) := ⟨rfl, rfl, rfl, by decide +kernel, rfl, by decide +kernel, by decide +kernel⟩
theorem ex_BadScene {P : Program} {w : World} {K : PySem.W.Frag} {mg : Str → Option Value} {base : Heap} (F : ExF K (He.ga K "BadScene") ["what", "value"]) (PE : PeI K (He.ga K "PlanError")) (mP : mg "PlanError" = some (.ref (He.ga K "PlanError"))) (mC : mg "BadScene" = some (.ref (He.ga K "BadScene")))
    (D : ∃ fd, FunD K "__init__" "BadScene.__init__" (defArgs (mth (top 3) 0)) (defBody (mth (top 3) 0)) (defScope (mth (top 3) 0)) [] [] (He.ma K (He.ga K "BadScene") "__init__") fd) : ExE P w K mg base "BadScene" ["what", "value"] :=
  ExE.of (msg := "A value of which no scene is made.") F.cls F.ini F.tyI D sci_BadScene (by decide) mC F.nof (fun _ _ _ _ _ _ us hl => match us, hl with | [_, _, _], _ => rfl) fun cdv A outer s H E => (pss_cons (ps_expr (pe_baseInit PE mP (pa_cons (pv 0) (pa_cons pe_str pa_nil)))) (pss_cons (ps_ost (pv 0) (pv 1)) (pss_cons (ps_ost (pv 0) (pv 2)) pss_nil)))
theorem sci_BadRow : FnScope ["self", "row"] ["self", "row"] (defScope (mth (top 4) 0)) := ⟨rfl, rfl, rfl, by decide +kernel, rfl, by decide +kernel, by decide +kernel⟩
theorem ex_BadRow {P : Program} {w : World} {K : PySem.W.Frag} {mg : Str → Option Value} {base : Heap} (F : ExF K (He.ga K "BadRow") ["row"]) (PE : PeI K (He.ga K "PlanError")) (mP : mg "PlanError" = some (.ref (He.ga K "PlanError"))) (mC : mg "BadRow" = some (.ref (He.ga K "BadRow")))
    (D : ∃ fd, FunD K "__init__" "BadRow.__init__" (defArgs (mth (top 4) 0)) (defBody (mth (top 4) 0)) (defScope (mth (top 4) 0)) [] [] (He.ma K (He.ga K "BadRow") "__init__") fd) : ExE P w K mg base "BadRow" ["row"] :=
  ExE.of (msg := "A value that is no such row.") F.cls F.ini F.tyI D sci_BadRow (by decide) mC F.nof (fun _ _ _ _ _ _ us hl => match us, hl with | [_, _], _ => rfl) fun cdv A outer s H E => (pss_cons (ps_expr (pe_baseInit PE mP (pa_cons (pv 0) (pa_cons pe_str pa_nil)))) (pss_cons (ps_ost (pv 0) (pv 1)) pss_nil))
theorem sci_BadTable : FnScope ["self", "table"] ["self", "table"] (defScope (mth (top 5) 0)) := ⟨rfl, rfl, rfl, by decide +kernel, rfl, by decide +kernel, by decide +kernel⟩
theorem ex_BadTable {P : Program} {w : World} {K : PySem.W.Frag} {mg : Str → Option Value} {base : Heap} (F : ExF K (He.ga K "BadTable") ["table"]) (PE : PeI K (He.ga K "PlanError")) (mP : mg "PlanError" = some (.ref (He.ga K "PlanError"))) (mC : mg "BadTable" = some (.ref (He.ga K "BadTable")))
    (D : ∃ fd, FunD K "__init__" "BadTable.__init__" (defArgs (mth (top 5) 0)) (defBody (mth (top 5) 0)) (defScope (mth (top 5) 0)) [] [] (He.ma K (He.ga K "BadTable") "__init__") fd) : ExE P w K mg base "BadTable" ["table"] :=
  ExE.of (msg := "A value that is no such row of tables.") F.cls F.ini F.tyI D sci_BadTable (by decide) mC F.nof (fun _ _ _ _ _ _ us hl => match us, hl with | [_, _], _ => rfl) fun cdv A outer s H E => (pss_cons (ps_expr (pe_baseInit PE mP (pa_cons (pv 0) (pa_cons pe_str pa_nil)))) (pss_cons (ps_ost (pv 0) (pv 1)) pss_nil))
theorem sci_BadLot : FnScope ["self", "lot"] ["self", "lot"] (defScope (mth (top 6) 0)) := ⟨rfl, rfl, rfl, by decide +kernel, rfl, by decide +kernel, by decide +kernel⟩
theorem ex_BadLot {P : Program} {w : World} {K : PySem.W.Frag} {mg : Str → Option Value} {base : Heap} (F : ExF K (He.ga K "BadLot") ["lot"]) (PE : PeI K (He.ga K "PlanError")) (mP : mg "PlanError" = some (.ref (He.ga K "PlanError"))) (mC : mg "BadLot" = some (.ref (He.ga K "BadLot")))
    (D : ∃ fd, FunD K "__init__" "BadLot.__init__" (defArgs (mth (top 6) 0)) (defBody (mth (top 6) 0)) (defScope (mth (top 6) 0)) [] [] (He.ma K (He.ga K "BadLot") "__init__") fd) : ExE P w K mg base "BadLot" ["lot"] :=
  ExE.of (msg := "A value that is no such lot.") F.cls F.ini F.tyI D sci_BadLot (by decide) mC F.nof (fun _ _ _ _ _ _ us hl => match us, hl with | [_, _], _ => rfl) fun cdv A outer s H E => (pss_cons (ps_expr (pe_baseInit PE mP (pa_cons (pv 0) (pa_cons pe_str pa_nil)))) (pss_cons (ps_ost (pv 0) (pv 1)) pss_nil))
theorem sci_Unlike : FnScope ["self", "what"] ["self", "what"] (defScope (mth (top 7) 0)) := ⟨rfl, rfl, rfl, by decide +kernel, rfl, by decide +kernel, by decide +kernel⟩
theorem ex_Unlike {P : Program} {w : World} {K : PySem.W.Frag} {mg : Str → Option Value} {base : Heap} (F : ExF K (He.ga K "Unlike") ["what"]) (PE : PeI K (He.ga K "PlanError")) (mP : mg "PlanError" = some (.ref (He.ga K "PlanError"))) (mC : mg "Unlike" = some (.ref (He.ga K "Unlike")))
    (D : ∃ fd, FunD K "__init__" "Unlike.__init__" (defArgs (mth (top 7) 0)) (defBody (mth (top 7) 0)) (defScope (mth (top 7) 0)) [] [] (He.ma K (He.ga K "Unlike") "__init__") fd) : ExE P w K mg base "Unlike" ["what"] :=
  ExE.of (msg := "Things that do not fit together.") F.cls F.ini F.tyI D sci_Unlike (by decide) mC F.nof (fun _ _ _ _ _ _ us hl => match us, hl with | [_, _], _ => rfl) fun cdv A outer s H E => (pss_cons (ps_expr (pe_baseInit PE mP (pa_cons (pv 0) (pa_cons pe_str pa_nil)))) (pss_cons (ps_ost (pv 0) (pv 1)) pss_nil))
theorem sci_TooMany : FnScope ["self", "what", "many", "limit"] ["self", "what", "many", "limit"] (defScope (mth (top 8) 0)) := ⟨rfl, rfl, rfl, by decide +kernel, rfl, by decide +kernel, by decide +kernel⟩
theorem ex_TooMany {P : Program} {w : World} {K : PySem.W.Frag} {mg : Str → Option Value} {base : Heap} (F : ExF K (He.ga K "TooMany") ["what", "many", "limit"]) (PE : PeI K (He.ga K "PlanError")) (mP : mg "PlanError" = some (.ref (He.ga K "PlanError"))) (mC : mg "TooMany" = some (.ref (He.ga K "TooMany")))
    (D : ∃ fd, FunD K "__init__" "TooMany.__init__" (defArgs (mth (top 8) 0)) (defBody (mth (top 8) 0)) (defScope (mth (top 8) 0)) [] [] (He.ma K (He.ga K "TooMany") "__init__") fd) : ExE P w K mg base "TooMany" ["what", "many", "limit"] :=
  ExE.of (msg := "More than may be.") F.cls F.ini F.tyI D sci_TooMany (by decide) mC F.nof (fun _ _ _ _ _ _ us hl => match us, hl with | [_, _, _, _], _ => rfl) fun cdv A outer s H E => (pss_cons (ps_expr (pe_baseInit PE mP (pa_cons (pv 0) (pa_cons pe_str pa_nil)))) (pss_cons (ps_ost (pv 0) (pv 1)) (pss_cons (ps_ost (pv 0) (pv 2)) (pss_cons (ps_ost (pv 0) (pv 3)) pss_nil))))
theorem bu {P : Program} {w : World} {K : PySem.W.Frag} {hp : Heap} {mg : Str → Option Value} {base : Heap} (X : K.In hp) (G : hp.Ns mainGlobals mg) (c : He.SaysX fa fn [] tf ex w hp K) : Bu P w K mg base := by
  have d : He.SaysD fa fn K := congrArg (fun z : He.AlT => z.1) c.t
  obtain ⟨more1, more2⟩ := Bool.and_eq_true_iff.mp c.more
  obtain ⟨ke, kp, kb, kk⟩ := exB_ok more1
  obtain ⟨zc, zi, ze, zm, zt⟩ := kxB_ok more2
  have f_BadNumber := excB_ok (ke _ (List.mem_of_getElem? (i := 0) rfl))
  have f_BadScene := excB_ok (ke _ (List.mem_of_getElem? (i := 1) rfl))
  have f_BadRow := excB_ok (ke _ (List.mem_of_getElem? (i := 2) rfl))
  have f_BadTable := excB_ok (ke _ (List.mem_of_getElem? (i := 3) rfl))
  have f_BadLot := excB_ok (ke _ (List.mem_of_getElem? (i := 4) rfl))
  have f_Unlike := excB_ok (ke _ (List.mem_of_getElem? (i := 5) rfl))
  have f_TooMany := excB_ok (ke _ (List.mem_of_getElem? (i := 6) rfl))
  have pe := peB_ok (kp _ (List.mem_of_getElem? (i := 0) rfl))
  have m_PlanError : mg "PlanError" = some (.ref (He.ga K "PlanError")) := He.glo_ok X G (d.fact 31 (f := .glo "PlanError") rfl)
  have m_BadNumber : mg "BadNumber" = some (.ref (He.ga K "BadNumber")) := He.glo_ok X G (d.fact 32 (f := .glo "BadNumber") rfl)
  have m_BadScene : mg "BadScene" = some (.ref (He.ga K "BadScene")) := He.glo_ok X G (d.fact 33 (f := .glo "BadScene") rfl)
  have m_BadRow : mg "BadRow" = some (.ref (He.ga K "BadRow")) := He.glo_ok X G (d.fact 34 (f := .glo "BadRow") rfl)
  have m_BadTable : mg "BadTable" = some (.ref (He.ga K "BadTable")) := He.glo_ok X G (d.fact 35 (f := .glo "BadTable") rfl)
  have m_BadLot : mg "BadLot" = some (.ref (He.ga K "BadLot")) := He.glo_ok X G (d.fact 36 (f := .glo "BadLot") rfl)
  have m_Unlike : mg "Unlike" = some (.ref (He.ga K "Unlike")) := He.glo_ok X G (d.fact 37 (f := .glo "Unlike") rfl)
  have m_TooMany : mg "TooMany" = some (.ref (He.ga K "TooMany")) := He.glo_ok X G (d.fact 38 (f := .glo "TooMany") rfl)
  have m_Scene : mg "Scene" = some (.ref (He.ga K "Scene")) := He.glo_ok X G (d.fact 39 (f := .glo "Scene") rfl)
  have k_Scene := clsB_ok (zc _ (List.mem_of_getElem? (i := 0) rfl)) m_Scene
  exact { c_MOST_LOTS := He.int_ok X G (d.fact 53 (f := .int "MOST_LOTS" 12) rfl)
          c_MOST_PLANS := He.int_ok X G (d.fact 54 (f := .int "MOST_PLANS" 512) rfl)
          c_MOST_QUESTIONS := He.int_ok X G (d.fact 55 (f := .int "MOST_QUESTIONS" 9) rfl)
          k_Scene := k_Scene
          mk_Scene := ⟨m_Scene, He.mkr_ok (zm _ (List.mem_of_getElem? (i := 0) rfl))⟩
          is_Scene := isB_ok (zi _ (List.mem_of_getElem? (i := 0) rfl)) m_Scene (by
      intro x hx
      have hx : x ∈ (["Scene"] : List Str) := hx
      simp only [List.mem_cons, List.not_mem_nil, or_false] at hx
      rcases hx with rfl
      · exact ⟨_, k_Scene⟩)
          eq_Scene___eq__ := ze _ (List.mem_of_getElem? (i := 0) rfl)
          eq_Scene___ne__ := ze _ (List.mem_of_getElem? (i := 1) rfl)
          d_Scene___eq__ := d.def_ 0 (d := dd_0) rfl
          d_is_whole := d.def_ 1 (d := dd_1) rfl
          m_is_whole := He.glo_ok X G (d.fact 0 (f := .glo "is_whole") rfl)
          d_is_lot := d.def_ 2 (d := dd_2) rfl
          m_is_lot := He.glo_ok X G (d.fact 1 (f := .glo "is_lot") rfl)
          d_is_within := d.def_ 3 (d := dd_3) rfl
          m_is_within := He.glo_ok X G (d.fact 2 (f := .glo "is_within") rfl)
          d_are_lots := d.def_ 4 (d := dd_4) rfl
          m_are_lots := He.glo_ok X G (d.fact 3 (f := .glo "are_lots") rfl)
          d_in_tuples := d.def_ 5 (d := dd_5) rfl
          m_in_tuples := He.glo_ok X G (d.fact 4 (f := .glo "in_tuples") rfl)
          d_Scene___init__ := d.def_ 6 (d := dd_6) rfl
          d_Scene___ne__ := d.def_ 7 (d := dd_7) rfl
          d_all_rows := d.def_ 8 (d := dd_8) rfl
          m_all_rows := He.glo_ok X G (d.fact 5 (f := .glo "all_rows") rfl)
          d_product_of := d.def_ 9 (d := dd_9) rfl
          m_product_of := He.glo_ok X G (d.fact 6 (f := .glo "product_of") rfl)
          d_need_few := d.def_ 10 (d := dd_10) rfl
          m_need_few := He.glo_ok X G (d.fact 7 (f := .glo "need_few") rfl)
          d_need_scene := d.def_ 11 (d := dd_11) rfl
          m_need_scene := He.glo_ok X G (d.fact 8 (f := .glo "need_scene") rfl)
          d_plans := d.def_ 12 (d := dd_12) rfl
          m_plans := He.glo_ok X G (d.fact 9 (f := .glo "plans") rfl)
          d_many_plans := d.def_ 13 (d := dd_13) rfl
          m_many_plans := He.glo_ok X G (d.fact 10 (f := .glo "many_plans") rfl)
          d_lot_rows := d.def_ 14 (d := dd_14) rfl
          m_lot_rows := He.glo_ok X G (d.fact 11 (f := .glo "lot_rows") rfl)
          d_need_between := d.def_ 15 (d := dd_15) rfl
          m_need_between := He.glo_ok X G (d.fact 12 (f := .glo "need_between") rfl)
          d_need_number := d.def_ 16 (d := dd_16) rfl
          m_need_number := He.glo_ok X G (d.fact 13 (f := .glo "need_number") rfl)
          d_rows_of := d.def_ 17 (d := dd_17) rfl
          m_rows_of := He.glo_ok X G (d.fact 14 (f := .glo "rows_of") rfl)
          d_is_tuple_of := d.def_ 18 (d := dd_18) rfl
          m_is_tuple_of := He.glo_ok X G (d.fact 15 (f := .glo "is_tuple_of") rfl)
          d_is_row_of := d.def_ 19 (d := dd_19) rfl
          m_is_row_of := He.glo_ok X G (d.fact 16 (f := .glo "is_row_of") rfl)
          d_plan_from := d.def_ 20 (d := dd_20) rfl
          m_plan_from := He.glo_ok X G (d.fact 17 (f := .glo "plan_from") rfl)
          d_seen_by := d.def_ 21 (d := dd_21) rfl
          m_seen_by := He.glo_ok X G (d.fact 18 (f := .glo "seen_by") rfl)
          d_seen := d.def_ 22 (d := dd_22) rfl
          m_seen := He.glo_ok X G (d.fact 19 (f := .glo "seen") rfl)
          d__law_fault := d.def_ 23 (d := dd_23) rfl
          m__law_fault := He.glo_ok X G (d.fact 20 (f := .glo "_law_fault") rfl)
          d__law_are_due := d.def_ 24 (d := dd_24) rfl
          m__law_are_due := He.glo_ok X G (d.fact 21 (f := .glo "_law_are_due") rfl)
          d__law_draw := d.def_ 25 (d := dd_25) rfl
          m__law_draw := He.glo_ok X G (d.fact 22 (f := .glo "_law_draw") rfl)
          d__law_rows := d.def_ 26 (d := dd_26) rfl
          m__law_rows := He.glo_ok X G (d.fact 23 (f := .glo "_law_rows") rfl)
          d__law_lot_rows := d.def_ 27 (d := dd_27) rfl
          m__law_lot_rows := He.glo_ok X G (d.fact 24 (f := .glo "_law_lot_rows") rfl)
          d__law_pen := d.def_ 28 (d := dd_28) rfl
          m__law_pen := He.glo_ok X G (d.fact 25 (f := .glo "_law_pen") rfl)
          d__law_pick := d.def_ 29 (d := dd_29) rfl
          m__law_pick := He.glo_ok X G (d.fact 26 (f := .glo "_law_pick") rfl)
          d__law_shuffled := d.def_ 30 (d := dd_30) rfl
          m__law_shuffled := He.glo_ok X G (d.fact 27 (f := .glo "_law_shuffled") rfl)
          d__law_scene := d.def_ 31 (d := dd_31) rfl
          m__law_scene := He.glo_ok X G (d.fact 28 (f := .glo "_law_scene") rfl)
          d__law_seen := d.def_ 32 (d := dd_32) rfl
          m__law_seen := He.glo_ok X G (d.fact 29 (f := .glo "_law_seen") rfl)
          b_all := He.free_ok X G (d.fact 40 (f := .free "all") rfl)
          b_any := He.free_ok X G (d.fact 41 (f := .free "any") rfl)
          b_bool := He.free_ok X G (d.fact 42 (f := .free "bool") rfl)
          b_int := He.free_ok X G (d.fact 43 (f := .free "int") rfl)
          b_isinstance := He.free_ok X G (d.fact 44 (f := .free "isinstance") rfl)
          b_len := He.free_ok X G (d.fact 45 (f := .free "len") rfl)
          b_list := He.free_ok X G (d.fact 46 (f := .free "list") rfl)
          b_min := He.free_ok X G (d.fact 47 (f := .free "min") rfl)
          b_range := He.free_ok X G (d.fact 48 (f := .free "range") rfl)
          b_repr := He.free_ok X G (d.fact 49 (f := .free "repr") rfl)
          b_sorted := He.free_ok X G (d.fact 50 (f := .free "sorted") rfl)
          b_tuple := He.free_ok X G (d.fact 51 (f := .free "tuple") rfl)
          b_zip := He.free_ok X G (d.fact 52 (f := .free "zip") rfl)
          e_BadNumber := ex_BadNumber f_BadNumber pe m_PlanError m_BadNumber (d.def_ 34 (d := dd_34) rfl)
          x_BadNumber := ⟨f_BadNumber.xf, f_BadNumber.nof, m_BadNumber⟩
          e_BadScene := ex_BadScene f_BadScene pe m_PlanError m_BadScene (d.def_ 35 (d := dd_35) rfl)
          x_BadScene := ⟨f_BadScene.xf, f_BadScene.nof, m_BadScene⟩
          e_BadRow := ex_BadRow f_BadRow pe m_PlanError m_BadRow (d.def_ 36 (d := dd_36) rfl)
          x_BadRow := ⟨f_BadRow.xf, f_BadRow.nof, m_BadRow⟩
          e_BadTable := ex_BadTable f_BadTable pe m_PlanError m_BadTable (d.def_ 37 (d := dd_37) rfl)
          x_BadTable := ⟨f_BadTable.xf, f_BadTable.nof, m_BadTable⟩
          e_BadLot := ex_BadLot f_BadLot pe m_PlanError m_BadLot (d.def_ 38 (d := dd_38) rfl)
          x_BadLot := ⟨f_BadLot.xf, f_BadLot.nof, m_BadLot⟩
          e_Unlike := ex_Unlike f_Unlike pe m_PlanError m_Unlike (d.def_ 39 (d := dd_39) rfl)
          x_Unlike := ⟨f_Unlike.xf, f_Unlike.nof, m_Unlike⟩
          e_TooMany := ex_TooMany f_TooMany pe m_PlanError m_TooMany (d.def_ 40 (d := dd_40) rfl)
          x_TooMany := ⟨f_TooMany.xf, f_TooMany.nof, m_TooMany⟩
          kin := kinB_ok kk (by
      intro x hx
      have hx : x ∈ kn := hx
      simp only [kn, List.mem_cons, List.mem_nil_iff, or_false] at hx
      rcases hx with rfl | rfl | rfl | rfl | rfl | rfl | rfl
      · exact m_BadNumber
      · exact m_BadScene
      · exact m_BadRow
      · exact m_BadTable
      · exact m_BadLot
      · exact m_Unlike
      · exact m_TooMany) }
theorem lawF {P : Program} {w : World} {K : PySem.W.Frag} {hp : Heap} {mg : Str → Option Value} {f : Addr} (X : K.In hp) (G : hp.Ns mainGlobals mg) (hf : mg "law" = some (.ref f)) (c : He.SaysX fa fn [] tf ex w hp K) :
    LawF P w K mg 17 19 f ["script", "pen", "answers", "lots", "one", "twin", "other", "every", "plan", "number", "bad", "far", "some", "odd", "low", "wrong", "wide", "tries", "lot"] "script" (defArgs (top 46)) (defBody (top 46)) (defScope (top 46)) M_law hp := by
  have d : He.SaysD fa fn K := congrArg (fun z : He.AlT => z.1) c.t
  obtain ⟨fd, F⟩ := d.def_ 33 (d := dd_33) rfl
  have e := hf.symm.trans (He.glo_ok X G (d.fact 30 (f := .glo "law") rfl))
  cases e
  obtain ⟨cc, t, h1, h2, h3, h4⟩ := lawTab (p := ("law", none)) (x := "law") c X (List.mem_of_getElem? (i := 0) rfl) F
  exact ⟨fd, cc, t, F, h1, h2, h3, h4, fun s u => FunD.bindsA (ps := ["script"]) F (fun _ _ _ _ _ _ us hl => match us, hl with | [_], _ => rfl) s [u] rfl, fun base _ _ => g_law (bu X G c)⟩
end Lw
end
set_option maxHeartbeats 0
open PySem PySem.W PySem.Calls PyProof.Rows
theorem PySem.Challenge.cw_hiddenplans_k03_scenes_and_plans_holds : PySem.Challenge.rw_hiddenplans_k03_scenes_and_plans.Holds := by
  w_on; o_law
  refine HandSHeadRun.head_any (r := OpenLaw.row PySem.Challenge.rw_hiddenplans_k03_scenes_and_plans) (q := view (OpenLaw.row PySem.Challenge.rw_hiddenplans_k03_scenes_and_plans).prog [46]) (H := Lw.hk) (ob := Lw.ob) (M := 4000) (loose := Lw.nms) (d := HandSHeadRun.topDef (OpenLaw.row PySem.Challenge.rw_hiddenplans_k03_scenes_and_plans).prog 46) (kwd := []) Lw.ob_eq
    (by kernel_rfl) (fun s => by kernel_rfl) Lw.run (by kernel_rfl) (by kernel_rfl) (by kernel_rfl) (by rfl) (by first | assumption | decide +kernel) (by decide +kernel) ⟨rfl, rfl, rfl, rfl, rfl, by decide +kernel⟩ ?hw ?hc
  case hw => w_witness2
  case hc =>
    refine Ev.walkEv (l := PySem.Challenge.rw_hiddenplans_k03_scenes_and_plans) (n := 63) (k := 17) (params := L2.defArgs (Lw.top 46)) (body := L2.defBody (Lw.top 46)) rfl (by decide) (by kernel_rfl) ⟨rfl, by decide, by decide⟩ Lw.sc_law rfl (fun w mg f hp Y G hmg0 => ?_) Lw.plain
    obtain ⟨K, KX, c⟩ := Y
    have hmg : mg ("law" : PySem.Str) = some (.ref f) := by
      have e : (HandSHeadRun.topDef (OpenLaw.row PySem.Challenge.rw_hiddenplans_k03_scenes_and_plans).prog 46).name = ("law" : PySem.Str) := by kernel_rfl
      rw [← e]
      exact hmg0
    exact ⟨K, KX, Lw.lawF KX G hmg c⟩

