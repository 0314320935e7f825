import PyProof.Rows.All
import Wide.All
import OpenK.AllK
import Wide.FinOn
import HandS.ForMost
import HandS.Exc
import HandS.Lambda
import KE.KDictKeyed
import HandS.TupAny
import HandS.TupMul
import HandS.Wide
import HandS.Deep
import HandS.IsInst
import HandS.Conv
import HandS.Style
import KE.SortData
import HandS.Text
import HandS.Walk
import KE.GoesMore
import KE.GoesZip
import KE.GoesEnum
import HandS.WordsExc
import PyProof.Rows.SetFrom
import HandS.SetFor
import HandS.Dict
import HandS.Defaults
import HandS.HeadEnd
import HandS.EndBits
import HandS.Head0
import HandS.Head1
import HandS.Head2
import HandS.HeadHook1
import HandS.HeadHook2
import HandS.HeadHook4
import PySem.Challenge.RW_hearsong_k06_whole_echoes
set_option Elab.async false
set_option linter.all false
set_option maxRecDepth 100000
namespace Hs
open PySem PySem.Spec PyProof.Rows L2

inductive D where
  | non | bl (b : Bool) | int (i : Int) | str (x : Str) | scr (ns : List Int) | lst (xs : List D) | tup (xs : List D) | dct (ks vs : List D) | exc (c : Str) (a : D) | ins (fs : List D)
instance : Inhabited D := ⟨.non⟩

mutual
def D.py : D → PyData
  | .non => .none
  | .bl b => .bool b
  | .int i => .int i
  | .str x => .str x
  | .scr ns => .list (ns.map .int)
  | .lst xs => .list (D.pyL xs)
  | .tup xs => .tuple (D.pyL xs)
  | .dct _ _ => .dict []
  | .exc _ _ => .dict []
  | .ins _ => .dict []
def D.pyL : List D → List PyData
  | [] => []
  | d :: ds => d.py :: D.pyL ds
end
theorem D.pyL_eq : ∀ ds, D.pyL ds = ds.map D.py
  | [] => rfl
  | d :: ds => by rw [D.pyL, D.pyL_eq ds]; rfl

/- a nested key -/
mutual
def D.nk : D → Option NestedKey
  | .non => some .none
  | .bl b => some (.num (if b then 1 else 0))
  | .int i => some (.num i)
  | .str x => some (.text x)
  | .tup xs => (D.nkL xs).map .tup
  | _ => none
def D.nkL : List D → Option (List NestedKey)
  | [] => some []
  | d :: ds => match d.nk, D.nkL ds with
    | some k, some r => some (k :: r)
    | _, _ => none
end

structure Fx where
  P : Program
  w : World
  K : PySem.W.Frag
  mg : Str → Option Value
  T : List (Addr × Str)
structure Fits (F : Fx) (X : Cx) : Prop where
  p : X.prog = F.P
  w : X.w = F.w
  k : X.K = F.K
  m : X.mg = F.mg

def NoTbl (o : HO) : Prop := ∀ ps, o ≠ .tbl ps
/-- a dict's object, pinned -/
def dO (a : Addr) (od : Obj) : HO := .ext fun h => h.get? a = some od
theorem noTbl_lst {xs : List V} : NoTbl (.lst xs) := fun _ h => nomatch h
theorem noTbl_tup {xs : List V} : NoTbl (.tup xs) := fun _ h => nomatch h
theorem noTbl_frz {o : Obj} {u : HO} : NoTbl (.frz o u) := fun _ h => nomatch h
theorem noTbl_dO {a : Addr} {od : Obj} : NoTbl (dO a od) := fun _ h => nomatch h

/-- a list of the written part -/
def KSq (F : Fx) (a : Addr) (xs : List V) : Prop := ∃ (o : Obj) (its : Array Value) (n : Nat), F.K.lookup a = some o ∧ o.cls = .type "list" ∧ o.dict = none ∧ o.data = .seq its n ∧ its.size ≤ sizeLine ∧ Vals xs its.toList
def keyD : Key → D
  | .inl i => .int i
  | .inr x => .str x
/-- the object of a dict with int and text keys -/
def LeafD (F : Fx) (a : Addr) (od : Obj) (kl : List (Key × V)) : Prop :=
  kl.length ≤ sizeLine ∧ (a == sysModules) = false ∧ ∃ vs, KV kl vs ∧ od.IsDictOf (mixKind F.P F.w) vs
/-- the object of a dict with tuple keys -/
def NestD (F : Fx) (a : Addr) (od : Obj) (xs : List (NestedKey × Addr × V)) : Prop :=
  xs.length ≤ sizeLine ∧ (a == sysModules) = false ∧ (∀ x ∈ xs, x.1.depth ≤ 8) ∧ ∃ ys : List (NestedKey × Addr × Value),
    Paired (fun (p : NestedKey × Addr × V) (q : NestedKey × Addr × Value) => p.1 = q.1 ∧ p.2.1 = q.2.1 ∧ RelV p.2.2 q.2.2) xs ys ∧
    ∃ es ep, od.ExactDict ∧ od.data = .dict es ep ∧ es.toList = ys.map (entryOfKey (nestedKind F.P F.w)) ∧ (ys.map (·.1)).Nodup

mutual
/-- the value v reads as the datum d; all that it reaches avoids av -/
def Rp (F : Fx) (H : Hp) (av : Addr → Prop) : D → V → Prop
  | .non, v => v = .non
  | .bl b, v => v = .bl b
  | .int i, v => v = .int i
  | .str x, v => v = .str x
  | .scr ns, v => ∃ a, v = .ref a ∧ ((Rd H a (.lst (ns.map V.int)) ∧ ¬ av a) ∨ KSq F a (ns.map V.int))
  | .lst ds, v => ∃ a vs, v = .ref a ∧ H a = some (.lst vs) ∧ ¬ av a ∧ RpL F H av ds vs
  | .tup ds, v => ∃ a vs, v = .ref a ∧ H a = some (.tup vs) ∧ ¬ av a ∧ RpL F H av ds vs
  | .dct ks ds, v => ∃ a od, v = .ref a ∧ H a = some (dO a od) ∧ ¬ av a ∧
      ((∃ kl, LeafD F a od kl ∧ ks = kl.map (fun p => keyD p.1) ∧ RpL F H av ds (kl.map (·.2))) ∨
        ∃ xs, NestD F a od xs ∧ D.nkL ks = some (xs.map (·.1)) ∧ RpL F H av ks (xs.map fun x => V.ref x.2.1) ∧ RpL F H av ds (xs.map (·.2.2)))
  | .exc _ _, _ => False
  | .ins _, _ => False
def RpL (F : Fx) (H : Hp) (av : Addr → Prop) : List D → List V → Prop
  | [], vs => vs = []
  | d :: ds, vs => ∃ v r, vs = v :: r ∧ Rp F H av d v ∧ RpL F H av ds r
end

/-- an own thing at a: what it holds avoids av -/
def OwRp (F : Fx) (H : Hp) (av : Addr → Prop) : D → Addr → Prop
  | .lst ds, a => ∃ vs, H a = some (.lst vs) ∧ RpL F H av ds vs
  | .dct ks ds, a => ∃ od, H a = some (dO a od) ∧
      ((∃ kl, LeafD F a od kl ∧ ks = kl.map (fun p => keyD p.1) ∧ RpL F H av ds (kl.map (·.2))) ∨
        ∃ xs, NestD F a od xs ∧ D.nkL ks = some (xs.map (·.1)) ∧ RpL F H av ks (xs.map fun x => V.ref x.2.1) ∧ RpL F H av ds (xs.map (·.2.2)))
  | _, _ => False
/-- read alone: the thing itself may be own -/
def PRp (F : Fx) (H : Hp) (av : Addr → Prop) (d : D) (v : V) : Prop := Rp F H av d v ∨ ∃ a, v = .ref a ∧ OwRp F H av d a
def PRpL (F : Fx) (H : Hp) (av : Addr → Prop) : List D → List V → Prop
  | [], vs => vs = []
  | d :: ds, vs => ∃ v r, vs = v :: r ∧ PRp F H av d v ∧ PRpL F H av ds r

/-- from one state to a later one -/
structure Ext (av av' : Addr → Prop) (H H' : Hp) : Prop where
  keep : ∀ b o, H b = some o → ¬ av b → NoTbl o → H' b = some o
  av : ∀ b, av' b → av b ∨ H b = none
  there : ∀ b, H' b = none → H b = none
theorem Ext.refl {av : Addr → Prop} {H : Hp} : Ext av av H H := ⟨fun _ _ h _ _ => h, fun _ h => .inl h, fun _ h => h⟩
theorem Ext.trans {a1 a2 a3 : Addr → Prop} {H1 H2 H3 : Hp} (x : Ext a1 a2 H1 H2) (y : Ext a2 a3 H2 H3) : Ext a1 a3 H1 H3 where
  keep := fun b o h n z => y.keep b o (x.keep b o h n z) (fun q => (x.av b q).elim n fun q => by rw [h] at q; cases q) z
  av := fun b q => (y.av b q).elim (fun q => x.av b q) fun q => .inr (x.there b q)
  there := fun b q => x.there b (y.there b q)
theorem Ext.nav {av av' : Addr → Prop} {H H' : Hp} (x : Ext av av' H H') {a : Addr} {o : HO} (h : H a = some o) (n : ¬ av a) : ¬ av' a := fun z => (x.av a z).elim n fun q => by rw [h] at q; cases q
mutual
theorem Rp.ext {F : Fx} {H H' : Hp} {av av' : Addr → Prop} (x : Ext av av' H H') : ∀ (d : D) (v : V), Rp F H av d v → Rp F H' av' d v
  | .non, _, h => h
  | .bl _, _, h => h
  | .int _, _, h => h
  | .str _, _, h => h
  | .scr ns, v, h => by
    rw [Rp] at h ⊢
    obtain ⟨a, e, q⟩ := h
    rcases q with q | q
    · have hb : ∃ u, H a = some u ∧ NoTbl u := by
        rcases q.1 with z | ⟨o, z⟩
        · exact ⟨_, z, noTbl_lst⟩
        · exact ⟨_, z, noTbl_frz⟩
      obtain ⟨u, hu, nu⟩ := hb
      have hu' := x.keep a u hu q.2 nu
      refine ⟨a, e, .inl ⟨?_, x.nav hu q.2⟩⟩
      rcases q.1 with z | ⟨o, z⟩
      · exact .inl (x.keep _ _ z q.2 noTbl_lst)
      · exact .inr ⟨o, x.keep _ _ z q.2 noTbl_frz⟩
    · exact ⟨a, e, .inr q⟩
  | .lst ds, v, h => by
    rw [Rp] at h ⊢
    obtain ⟨a, vs, e, q, n, r⟩ := h
    exact ⟨a, vs, e, x.keep _ _ q n noTbl_lst, x.nav q n, RpL.ext x ds vs r⟩
  | .tup ds, v, h => by
    rw [Rp] at h ⊢
    obtain ⟨a, vs, e, q, n, r⟩ := h
    exact ⟨a, vs, e, x.keep _ _ q n noTbl_tup, x.nav q n, RpL.ext x ds vs r⟩
  | .dct ks ds, v, h => by
    rw [Rp] at h ⊢
    obtain ⟨a, od, e, q, n, r⟩ := h
    refine ⟨a, od, e, x.keep _ _ q n noTbl_dO, x.nav q n, ?_⟩
    rcases r with ⟨kl, r1, r2, r3⟩ | ⟨xs, r1, r2, r3, r4⟩
    · exact .inl ⟨kl, r1, r2, RpL.ext x ds _ r3⟩
    · exact .inr ⟨xs, r1, r2, RpL.ext x ks _ r3, RpL.ext x ds _ r4⟩
  | .exc _ _, _, h => by rw [Rp] at h; exact h.elim
  | .ins _, _, h => by rw [Rp] at h; exact h.elim
theorem RpL.ext {F : Fx} {H H' : Hp} {av av' : Addr → Prop} (x : Ext av av' H H') : ∀ (ds : List D) (vs : List V), RpL F H av ds vs → RpL F H' av' ds vs
  | [], _, h => h
  | d :: ds, vs, h => by
    rw [RpL] at h ⊢
    obtain ⟨v, r, e, h1, h2⟩ := h
    exact ⟨v, r, e, Rp.ext x d v h1, RpL.ext x ds r h2⟩
end

theorem OwRp.ext {F : Fx} {H H' : Hp} {av av' : Addr → Prop} (x : Ext av av' H H') {d : D} {a : Addr} (h : OwRp F H av d a) (k : H' a = H a) : OwRp F H' av' d a := by
  cases d with
  | lst ds =>
    obtain ⟨vs, q, r⟩ := h
    exact ⟨vs, k.trans q, RpL.ext x ds vs r⟩
  | dct ks ds =>
    obtain ⟨od, q, r⟩ := h
    refine ⟨od, k.trans q, ?_⟩
    rcases r with ⟨kl, r1, r2, r3⟩ | ⟨xs, r1, r2, r3, r4⟩
    · exact .inl ⟨kl, r1, r2, RpL.ext x ds _ r3⟩
    · exact .inr ⟨xs, r1, r2, RpL.ext x ks _ r3, RpL.ext x ds _ r4⟩
  | _ => exact h.elim
/-- an own thing is let go -/
theorem OwRp.rp {F : Fx} {H : Hp} {av : Addr → Prop} {d : D} {a : Addr} (h : OwRp F H av d a) (n : ¬ av a) : Rp F H av d (.ref a) := by
  cases d with
  | lst ds =>
    obtain ⟨vs, q, r⟩ := h
    rw [Rp]
    exact ⟨a, vs, rfl, q, n, r⟩
  | dct ks ds =>
    obtain ⟨od, q, r⟩ := h
    rw [Rp]
    exact ⟨a, od, rfl, q, n, r⟩
  | _ => exact h.elim
theorem Rp.le {F : Fx} {H : Hp} {av av' : Addr → Prop} {d : D} {v : V} (h : Rp F H av d v) (le : ∀ b, av' b → av b) : Rp F H av' d v :=
  Rp.ext ⟨fun _ _ q _ _ => q, fun b q => .inl (le b q), fun _ q => q⟩ d v h
theorem RpL.le {F : Fx} {H : Hp} {av av' : Addr → Prop} {d : List D} {v : List V} (h : RpL F H av d v) (le : ∀ b, av' b → av b) : RpL F H av' d v :=
  RpL.ext ⟨fun _ _ q _ _ => q, fun b q => .inl (le b q), fun _ q => q⟩ d v h
theorem OwRp.le {F : Fx} {H : Hp} {av av' : Addr → Prop} {d : D} {a : Addr} (h : OwRp F H av d a) (le : ∀ b, av' b → av b) : OwRp F H av' d a :=
  h.ext ⟨fun _ _ q _ _ => q, fun b q => .inl (le b q), fun _ q => q⟩ rfl
/-- new things alone -/
def Grow (H H' : Hp) : Prop := ∀ b o, H b = some o → H' b = some o
theorem Grow.refl {H : Hp} : Grow H H := fun _ _ h => h
theorem Grow.trans {H H' H'' : Hp} (a : Grow H H') (b : Grow H' H'') : Grow H H'' := fun c o h => b c o (a c o h)
theorem Grow.upd {H : Hp} {p : Addr} {o : HO} (h : H p = none) : Grow H (upd H p o) := fun b u q => by rw [upd_ne (ne_of_none q h)]; exact q
theorem Grow.ext {H H' : Hp} {av : Addr → Prop} (g : Grow H H') : Ext av av H H' := ⟨fun b o h _ _ => g b o h, fun _ h => .inl h, fun b q => by
  cases e : H b with
  | none => rfl
  | some o => rw [g b o e] at q; cases q⟩
theorem Rp.grow {F : Fx} {H H' : Hp} {av : Addr → Prop} {d : D} {v : V} (g : Grow H H') (h : Rp F H av d v) : Rp F H' av d v := Rp.ext g.ext d v h
theorem RpL.grow {F : Fx} {H H' : Hp} {av : Addr → Prop} {d : List D} {v : List V} (g : Grow H H') (h : RpL F H av d v) : RpL F H' av d v := RpL.ext g.ext d v h
theorem RpL.length {F : Fx} {H : Hp} {av : Addr → Prop} : ∀ {ds : List D} {vs : List V}, RpL F H av ds vs → ds.length = vs.length
  | [], _, h => by rw [RpL] at h; subst h; rfl
  | d :: ds, _, h => by
    rw [RpL] at h
    obtain ⟨v, r, rfl, _, h2⟩ := h
    simp [RpL.length h2]
theorem RpL.append {F : Fx} {H : Hp} {av : Addr → Prop} : ∀ {ds es : List D} {vs us : List V}, RpL F H av ds vs → RpL F H av es us → RpL F H av (ds ++ es) (vs ++ us)
  | [], _, _, _, h, k => by rw [RpL] at h; subst h; exact k
  | d :: ds, _, _, _, h, k => by
    rw [RpL] at h
    obtain ⟨v, r, rfl, h1, h2⟩ := h
    rw [List.cons_append, RpL]
    exact ⟨v, _, rfl, h1, h2.append k⟩
theorem RpL.get {F : Fx} {H : Hp} {av : Addr → Prop} : ∀ {ds : List D} {vs : List V} {i : Nat} {d : D}, RpL F H av ds vs → ds[i]? = some d → ∃ v, vs[i]? = some v ∧ Rp F H av d v
  | [], _, _, _, _, e => by simp at e
  | d :: ds, _, 0, _, h, e => by
    rw [RpL] at h
    obtain ⟨v, r, rfl, h1, h2⟩ := h
    simp at e; subst e
    exact ⟨v, rfl, h1⟩
  | d :: ds, _, i + 1, _, h, e => by
    rw [RpL] at h
    obtain ⟨v, r, rfl, h1, h2⟩ := h
    obtain ⟨u, e1, e2⟩ := RpL.get (i := i) h2 (by simpa using e)
    exact ⟨u, by simpa using e1, e2⟩
theorem RpL.getV {F : Fx} {H : Hp} {av : Addr → Prop} {ds : List D} {vs : List V} {i : Nat} {v : V} (h : RpL F H av ds vs) (e : vs[i]? = some v) : ∃ d, ds[i]? = some d ∧ Rp F H av d v := by
  have hl := h.length
  have hi : i < vs.length := (List.getElem?_eq_some_iff.mp e).1
  obtain ⟨u, e1, e2⟩ := h.get (i := i) (d := ds[i]'(by omega)) (by simp [hl, hi])
  rw [e] at e1; cases e1
  exact ⟨_, by simp [hl, hi], e2⟩
theorem RpL.take {F : Fx} {H : Hp} {av : Addr → Prop} : ∀ {ds : List D} {vs : List V} (n : Nat), RpL F H av ds vs → RpL F H av (ds.take n) (vs.take n)
  | [], _, n, h => by rw [RpL] at h; subst h; simp [RpL]
  | d :: ds, _, 0, h => by simp [RpL]
  | d :: ds, _, n + 1, h => by
    rw [RpL] at h
    obtain ⟨v, r, rfl, h1, h2⟩ := h
    rw [List.take_succ_cons, List.take_succ_cons, RpL]
    exact ⟨v, _, rfl, h1, h2.take n⟩
theorem RpL.drop {F : Fx} {H : Hp} {av : Addr → Prop} : ∀ {ds : List D} {vs : List V} (n : Nat), RpL F H av ds vs → RpL F H av (ds.drop n) (vs.drop n)
  | [], _, n, h => by rw [RpL] at h; subst h; simp [RpL]
  | d :: ds, _, 0, h => h
  | d :: ds, _, n + 1, h => by
    rw [RpL] at h
    obtain ⟨v, r, rfl, h1, h2⟩ := h
    exact h2.drop n
theorem RpL.set {F : Fx} {H : Hp} {av : Addr → Prop} {x : D} {u : V} (hx : Rp F H av x u) : ∀ {ds : List D} {vs : List V} (i : Nat), RpL F H av ds vs → RpL F H av (ds.set i x) (vs.set i u)
  | [], _, n, h => by rw [RpL] at h; subst h; simp [RpL]
  | d :: ds, _, 0, h => by
    rw [RpL] at h
    obtain ⟨v, r, rfl, h1, h2⟩ := h
    rw [List.set_cons_zero, List.set_cons_zero, RpL]
    exact ⟨u, r, rfl, hx, h2⟩
  | d :: ds, _, n + 1, h => by
    rw [RpL] at h
    obtain ⟨v, r, rfl, h1, h2⟩ := h
    rw [List.set_cons_succ, List.set_cons_succ, RpL]
    exact ⟨v, _, rfl, h1, h2.set hx n⟩
theorem RpL.nil {F : Fx} {H : Hp} {av : Addr → Prop} : RpL F H av [] [] := by rw [RpL]
theorem RpL.cons {F : Fx} {H : Hp} {av : Addr → Prop} {d : D} {ds : List D} {v : V} {vs : List V} (h : Rp F H av d v) (t : RpL F H av ds vs) : RpL F H av (d :: ds) (v :: vs) := by
  rw [RpL]; exact ⟨v, vs, rfl, h, t⟩

inductive Knd where
  | un | va | ow
  deriving DecidableEq
structure Wd where
  oc : Addr → Prop
  io : Addr → Prop
  H0 : Hp
  n0 : Nat
abbrev Own := Addr → Option Nat
def Av (w : Wd) (ow : Own) (b : Addr) : Prop := w.oc b ∨ ∃ i, ow b = some i
def SlotOk (F : Fx) (H : Hp) (av : Addr → Prop) (ow : Own) (i : Nat) : Knd → D → Option (Option V) → Prop
  | .un, _, _ => True
  | .va, d, s => ∃ v, s = some (some v) ∧ Rp F H av d v
  | .ow, d, s => ∃ a, s = some (some (.ref a)) ∧ ow a = some i ∧ OwRp F H av d a
structure Gd (F : Fx) (w : Wd) (ow : Own) (G : List Knd) (ρ : List D) (σ : L2.St) (H : Hp) : Prop where
  len : G.length = ρ.length ∧ G.length = σ.length
  same : ∀ b o, w.H0 b = some o → ¬ w.io b → NoTbl o → H b = some o
  dom : ∀ b, H b = none → w.H0 b = none
  trk : ∀ b, Av w ow b → H b ≠ none
  wr : ∀ b i, ow b = some i → ¬ w.oc b ∧ ((i + 1 = w.n0 ∧ w.io b) ∨ w.H0 b = none)
  tabs : LamX.Tabs F.T H
  io : ∀ i, i + 1 = w.n0 → G[i]? = some .ow
  slot : ∀ i k, G[i]? = some k → SlotOk F H (Av w ow) ow i k (ρ.getD i .non) σ[i]?

structure Ex where
  c : Str
  a : D
inductive R (α : Type) where
  | ok (a : α) (ρ : List D)
  | ex (e : Ex) (ρ : List D)
  | bad
abbrev M (α : Type) := List D → R α
/-- how an exception lies: its class at C, its own dict at dx -/
def ExIs (F : Fx) (H : Hp) (av : Addr → Prop) (e : Ex) (C : Addr) (dx : Option Addr) : Prop :=
  F.mg e.c = some (.ref C) ∧ match e.a with
    | .non => dx = none
    | d => ∃ x v, dx = some x ∧ H x = some (.xd [("beats", v)]) ∧ Rp F H av d v
/-- an operand: a datum, or an own slot -/
inductive OV where
  | v (d : D)
  | s (i : Nat)
def OV.get (ρ : List D) : OV → D
  | .v d => d
  | .s i => ρ.getD i .non
def OvOk (F : Fx) (H : Hp) (av : Addr → Prop) (G : List Knd) (σ : L2.St) : OV → V → Prop
  | .v d, v => Rp F H av d v
  | .s i, v => G[i]? = some .ow ∧ σ[i]? = some (some v)
def OvsOk (F : Fx) (H : Hp) (av : Addr → Prop) (G : List Knd) (σ : L2.St) : List OV → List V → Prop
  | [], vs => vs = []
  | o :: os, vs => ∃ v r, vs = v :: r ∧ OvOk F H av G σ o v ∧ OvsOk F H av G σ os r

def Post {α : Type} (F : Fx) (w : Wd) (ow : Own) (E : XK) (G : List Knd) (σ : L2.St) (H : Hp) (r : R α) (Q : α → Own → List D → Hp → Prop) : Prop :=
  match r with
  | .ok a ρ' => ∀ H' ow', Gd F w ow' G ρ' σ H' → Ext (Av w ow) (Av w ow') H H' → Q a ow' ρ' H'
  | .ex e ρ' => ∀ H' ow' C dx, Gd F w ow' G ρ' σ H' → Ext (Av w ow) (Av w ow') H H' → ExIs F H' (Av w ow') e C dx → E (.ref C) dx H'
  | .bad => False
def EvE (F : Fx) (X : Cx) (E : XK) (G : List Knd) (e : Expr) (m : M D) : Prop :=
  Fits F X → ∃ t, PE X e t ∧ ∀ w ow ρ σ H Q, Gd F w ow G ρ σ H → Post F w ow E G σ H (m ρ) (fun d ow' _ H' => ∀ v, Rp F H' (Av w ow') d v → Q v H') → t σ H Q
def EvO (F : Fx) (X : Cx) (E : XK) (G : List Knd) (e : Expr) (m : M OV) : Prop :=
  Fits F X → ∃ t, PE X e t ∧ ∀ w ow ρ σ H Q, Gd F w ow G ρ σ H → Post F w ow E G σ H (m ρ) (fun o ow' _ H' => ∀ v, OvOk F H' (Av w ow') G σ o v → Q v H') → t σ H Q
def EvT (F : Fx) (X : Cx) (E : XK) (G : List Knd) (e : Expr) (m : M Bool) : Prop :=
  Fits F X → ∃ t, PT X e t ∧ ∀ w ow ρ σ H Q, Gd F w ow G ρ σ H → Post F w ow E G σ H (m ρ) (fun b _ _ H' => Q b H') → t σ H Q
def EvA (F : Fx) (X : Cx) (E : XK) (G : List Knd) (es : List Expr) (m : M (List OV)) : Prop :=
  Fits F X → ∃ t, PA X es t ∧ ∀ w ow ρ σ H Q, Gd F w ow G ρ σ H → Post F w ow E G σ H (m ρ) (fun os ow' _ H' => ∀ vs, OvsOk F H' (Av w ow') G σ os vs → Q vs H') → t σ H Q
end Hs

namespace Hs
open PySem PySem.Spec PyProof.Rows L2

def R.bind {α β : Type} (r : R α) (k : α → List D → R β) : R β :=
  match r with
  | .ok a ρ => k a ρ
  | .ex e ρ => .ex e ρ
  | .bad => .bad
def M.bind {α β : Type} (m : M α) (k : α → M β) : M β := fun ρ => (m ρ).bind k
def M.ret {α : Type} (a : α) : M α := fun ρ => .ok a ρ
def M.opt {α : Type} (a : Option α) : M α := fun ρ => match a with
  | some a => .ok a ρ
  | none => .bad

section
variable {F : Fx} {X : Cx} {E : XK} {w : Wd} {ow : Own} {G : List Knd} {ρ : List D} {σ : L2.St} {H : Hp} {α β : Type}
theorem Post.mono {r : R α} {Q Q' : α → Own → List D → Hp → Prop} (h : Post F w ow E G σ H r Q) (k : ∀ a ow' ρ' H', r = .ok a ρ' → Gd F w ow' G ρ' σ H' → Ext (Av w ow) (Av w ow') H H' → Q a ow' ρ' H' → Q' a ow' ρ' H') : Post F w ow E G σ H r Q' := by
  cases r with
  | ok a ρ' => exact fun H' ow' g x => k a ow' ρ' H' rfl g x (h H' ow' g x)
  | ex e ρ' => exact h
  | bad => exact h
/-- two in a row -/
theorem Post.split {r : R α} {k : α → List D → R β} {Q : β → Own → List D → Hp → Prop} (h : Post F w ow E G σ H (r.bind k) Q) :
    Post F w ow E G σ H r (fun a ow1 ρ1 H1 => Gd F w ow1 G ρ1 σ H1 ∧ Ext (Av w ow) (Av w ow1) H H1 ∧ Post F w ow1 E G σ H1 (k a ρ1) Q) := by
  cases r with
  | ok a ρ1 =>
    intro H1 ow1 g1 x1
    refine ⟨g1, x1, ?_⟩
    have h' : Post F w ow E G σ H (k a ρ1) Q := h
    cases e : k a ρ1 with
    | ok b ρ2 =>
      rw [e] at h'
      exact fun H2 ow2 g2 x2 => h' H2 ow2 g2 (x1.trans x2)
    | ex e2 ρ2 =>
      rw [e] at h'
      exact fun H2 ow2 C dx g2 x2 q => h' H2 ow2 C dx g2 (x1.trans x2) q
    | bad =>
      rw [e] at h'
      exact h'
  | ex e ρ' => exact h
  | bad => exact h
theorem Gd.grow {H' : Hp} (g : Gd F w ow G ρ σ H) (k : Grow H H') : Gd F w ow G ρ σ H' where
  len := g.len
  same := fun b o q n z => k b o (g.same b o q n z)
  dom := fun b e => g.dom b (by
    cases h : H b with
    | none => rfl
    | some o => rw [k b o h] at e; cases e)
  trk := fun b q e => by
    cases h : H b with
    | none => exact g.trk b q h
    | some o => rw [k b o h] at e; cases e
  wr := g.wr
  tabs := g.tabs.ext k
  io := g.io
  slot := fun i kd q => by
    have h := g.slot i kd q
    cases kd with
    | un => trivial
    | va =>
      obtain ⟨v, e, r⟩ := h
      exact ⟨v, e, r.grow k⟩
    | ow =>
      obtain ⟨a, e, o, r⟩ := h
      have ha : H a ≠ none := g.trk a (.inr ⟨i, o⟩)
      refine ⟨a, e, o, r.ext k.ext ?_⟩
      cases q : H a with
      | none => exact (ha q).elim
      | some u => exact k a u q
theorem OvOk.ext {av av' : Addr → Prop} {H' : Hp} (x : Ext av av' H H') : ∀ {o : OV} {v : V}, OvOk F H av G σ o v → OvOk F H' av' G σ o v
  | .v d, v, h => Rp.ext x d v h
  | .s i, v, h => h
theorem OvsOk.ext {av av' : Addr → Prop} {H' : Hp} (x : Ext av av' H H') : ∀ {o : List OV} {v : List V}, OvsOk F H av G σ o v → OvsOk F H' av' G σ o v
  | [], v, h => h
  | o :: os, v, ⟨u, r, e, h1, h2⟩ => ⟨u, r, e, OvOk.ext x h1, OvsOk.ext x h2⟩
theorem OvOk.prp (g : Gd F w ow G ρ σ H) : ∀ {o : OV} {v : V}, OvOk F H (Av w ow) G σ o v → PRp F H (Av w ow) (o.get ρ) v
  | .v d, v, h => .inl h
  | .s i, v, ⟨h1, h2⟩ => by
    obtain ⟨a, e, _, r⟩ := g.slot i _ h1
    rw [h2] at e
    cases e
    exact .inr ⟨a, rfl, r⟩
theorem OvsOk.prp (g : Gd F w ow G ρ σ H) : ∀ {o : List OV} {v : List V}, OvsOk F H (Av w ow) G σ o v → PRpL F H (Av w ow) (o.map (OV.get ρ)) v
  | [], v, h => h
  | o :: os, v, ⟨u, r, e, h1, h2⟩ => ⟨u, r, e, h1.prp g, OvsOk.prp g h2⟩
/-- what is handed on behind a value that a new object may bear -/
theorem Post.fin {d : D} {Q : V → Hp → Prop} (g : Gd F w ow G ρ σ H) (h : Post F w ow E G σ H (.ok d ρ) (fun d ow' _ H' => ∀ v, Rp F H' (Av w ow') d v → Q v H')) : ∀ z H', Grow H H' → Rp F H' (Av w ow) d z → Q z H' :=
  fun z H' k r => h H' ow (g.grow k) k.ext z r

def mVar (i : Nat) : M D := fun ρ => .ok (ρ.getD i .non) ρ
def mC (d : D) : M D := fun ρ => .ok d ρ
def oV (m : M D) : M OV := fun ρ => (m ρ).bind fun d ρ => .ok (.v d) ρ
def oS (i : Nat) : M OV := fun ρ => .ok (.s i) ρ
theorem ev_var (i : Nat) {x : Str} {pos : Pos} (hk : G[i]? = some .va) (hN : X.N[i]? = some x := by rfl) (hv : Vis X.env.scope x := by first | exact Or.inl rfl | exact Or.inr (Or.inl rfl) | exact Or.inr (Or.inr rfl)) (hd : (x == ("__debug__" : Str)) = false := by decide)
    (hcd : (x == ("__classdict__" : Str)) = false := by decide) : EvE F X E G (.Name x pos) (mVar i) := fun hX =>
  ⟨tVar i, pe_var hN hv hd hcd, fun w ow ρ σ H Q g h => by
    obtain ⟨v, e, r⟩ := g.slot i .va hk
    exact ⟨v, e, h H ow g Ext.refl v r⟩⟩
theorem eo_own (i : Nat) {x : Str} {pos : Pos} (hk : G[i]? = some .ow) (hN : X.N[i]? = some x := by rfl) (hv : Vis X.env.scope x := by first | exact Or.inl rfl | exact Or.inr (Or.inl rfl) | exact Or.inr (Or.inr rfl)) (hd : (x == ("__debug__" : Str)) = false := by decide)
    (hcd : (x == ("__classdict__" : Str)) = false := by decide) : EvO F X E G (.Name x pos) (oS i) := fun hX =>
  ⟨tVar i, pe_var hN hv hd hcd, fun w ow ρ σ H Q g h => by
    obtain ⟨a, e, o, r⟩ := g.slot i .ow hk
    exact ⟨.ref a, e, h H ow g Ext.refl (.ref a) ⟨hk, e⟩⟩⟩
theorem eo_val {e : Expr} {m : M D} (h : EvE F X E G e m) : EvO F X E G e (oV m) := fun hX => by
  obtain ⟨t, p, k⟩ := h hX
  exact ⟨t, p, fun w ow ρ σ H Q g q => k w ow ρ σ H Q g (Post.mono (Post.split q) fun d ow' ρ' H' _ g' x ⟨_, _, q'⟩ v r => q' H' ow' g' Ext.refl v r)⟩
theorem ev_int {i j pos} : EvE F X E G (.Constant (.int i) j pos) (mC (.int i)) := fun hX => ⟨_, pe_int, fun w ow ρ σ H Q g h => h H ow g Ext.refl (.int i) (by rw [Rp])⟩
theorem ev_bl {i j pos} : EvE F X E G (.Constant (.bool i) j pos) (mC (.bl i)) := fun hX => ⟨_, pe_bl, fun w ow ρ σ H Q g h => h H ow g Ext.refl (.bl i) (by rw [Rp])⟩
theorem ev_str {i j pos} : EvE F X E G (.Constant (.str i) j pos) (mC (.str i)) := fun hX => ⟨_, pe_str, fun w ow ρ σ H Q g h => h H ow g Ext.refl (.str i) (by rw [Rp])⟩
theorem ev_non {j pos} : EvE F X E G (.Constant .none j pos) (mC .non) := fun hX => ⟨_, pe_non, fun w ow ρ σ H Q g h => h H ow g Ext.refl .non (by rw [Rp])⟩
/-- a module's int or text -/
theorem ev_glob {x : Str} {d : D} {v : V} {u : Value} {pos : Pos} (hg : Gl X x) (hm : F.mg x = some u) (r : RelV v u) (hd : ∀ H av, Rp F H av d v) (hdb : (x == ("__debug__" : Str)) = false := by decide) : EvE F X E G (.Name x pos) (mC d) := fun hX =>
  ⟨_, pe_glob hg (by rw [hX.m]; exact hm) r hdb, fun w ow ρ σ H Q g h => h H ow g Ext.refl v (hd _ _)⟩

def rD2 (F : Fx) (f : D → D → Option D) : R2 := fun x y H Q => ∃ av dx dy d, (∀ b, av b → H b ≠ none) ∧ PRp F H av dx x ∧ PRp F H av dy y ∧ f dx dy = some d ∧ ∀ z H', Grow H H' → Rp F H' av d z → Q z H'
def rD1 (F : Fx) (f : D → Option D) : V → Hp → VK → Prop := fun x H Q => ∃ av dx d, (∀ b, av b → H b ≠ none) ∧ PRp F H av dx x ∧ f dx = some d ∧ ∀ z H', Grow H H' → Rp F H' av d z → Q z H'
def rDL (F : Fx) (f : List D → Option D) : List V → Hp → VK → Prop := fun xs H Q => ∃ av dx d, (∀ b, av b → H b ≠ none) ∧ PRpL F H av dx xs ∧ f dx = some d ∧ ∀ z H', Grow H H' → Rp F H' av d z → Q z H'
def mOp2 (f : D → D → Option D) (a b : M OV) : M D := a.bind fun x => b.bind fun y => fun ρ => M.opt (f (x.get ρ) (y.get ρ)) ρ
def mOp1 (f : D → Option D) (a : M OV) : M D := a.bind fun x => fun ρ => M.opt (f (x.get ρ)) ρ
def mOpL (f : List D → Option D) (a : M (List OV)) : M D := a.bind fun x => fun ρ => M.opt (f (x.map (OV.get ρ))) ρ
def aNil : M (List OV) := fun ρ => .ok [] ρ
def aCons (a : M OV) (r : M (List OV)) : M (List OV) := a.bind fun x => r.bind fun xs => M.ret (x :: xs)
theorem post_opt {o : Option D} {Q : V → Hp → Prop} (g : Gd F w ow G ρ σ H) (h : Post F w ow E G σ H (M.opt o ρ) (fun d ow' _ H' => ∀ v, Rp F H' (Av w ow') d v → Q v H')) : ∃ d, o = some d ∧ ∀ z H', Grow H H' → Rp F H' (Av w ow) d z → Q z H' := by
  cases o with
  | none => exact h.elim
  | some d => exact ⟨d, rfl, Post.fin g h⟩
theorem ev_op2 {a b e : Expr} {ma mb : M OV} {f : D → D → Option D} (ha : EvO F X E G a ma) (hb : EvO F X E G b mb) (ho : ∀ ta tb, Fits F X → PE X a ta → PE X b tb → PE X e (tOp (rD2 F f) ta tb)) : EvE F X E G e (mOp2 f ma mb) := fun hX => by
  obtain ⟨ta, pa, ka⟩ := ha hX
  obtain ⟨tb, pb, kb⟩ := hb hX
  refine ⟨_, ho _ _ hX pa pb, fun w ow ρ σ H Q g h => ?_⟩
  refine ka w ow ρ σ H _ g (Post.mono (Post.split h) fun x ow1 ρ1 H1 _ _ _ ⟨g1, x1, h1⟩ v rv => ?_)
  refine kb w ow1 ρ1 σ H1 _ g1 (Post.mono (Post.split h1) fun y ow2 ρ2 H2 _ _ _ ⟨g2, x2, h2⟩ u ru => ?_)
  obtain ⟨d, ed, q⟩ := post_opt g2 h2
  exact ⟨Av w ow2, _, _, d, g2.trk, (rv.ext x2).prp g2, ru.prp g2, ed, q⟩
theorem ev_bin {a b : Expr} {ma mb : M OV} {f : D → D → Option D} {op : Operator} {pos : Pos} (ho : Fits F X → OpR X (binaryOp op) (rD2 F f)) (ha : EvO F X E G a ma) (hb : EvO F X E G b mb) : EvE F X E G (.BinOp a op b pos) (mOp2 f ma mb) :=
  ev_op2 ha hb fun _ _ hX pa pb => pe_op (ho hX) pa pb
theorem ev_cmp {a b : Expr} {ma mb : M OV} {f : D → D → Option D} {op : CmpOp} {pos : Pos} (ho : Fits F X → OpR X (compareOp op) (rD2 F f)) (ha : EvO F X E G a ma) (hb : EvO F X E G b mb) (hm : behindInMarks op b = false := by first | rfl | exact nomark _) : EvE F X E G (.Compare a [op] [b] pos) (mOp2 f ma mb) :=
  ev_op2 ha hb fun _ _ hX pa pb => pe_cmpR (ho hX) pa pb hm
theorem ev_ix {a b : Expr} {ma mb : M OV} {f : D → D → Option D} {pos : Pos} (ho : Fits F X → IxR X (rD2 F f)) (ha : EvO F X E G a ma) (hb : EvO F X E G b mb) (hs : PlainIx b := by intro _ _; rfl) : EvE F X E G (.Subscript a b pos) (mOp2 f ma mb) :=
  ev_op2 ha hb fun _ _ hX pa pb => pe_ix (ho hX) pa pb hs
theorem ev_un {a : Expr} {ma : M OV} {f : D → Option D} {op : UnaryOp} {pos : Pos} (ho : Fits F X → UnR X (unaryOp op) (rD1 F f)) (ha : EvO F X E G a ma) : EvE F X E G (.UnaryOp op a pos) (mOp1 f ma) := fun hX => by
  obtain ⟨ta, pa, ka⟩ := ha hX
  refine ⟨_, pe_un (ho hX) pa, fun w ow ρ σ H Q g h => ?_⟩
  refine ka w ow ρ σ H _ g (Post.mono (Post.split h) fun x ow1 ρ1 H1 _ _ _ ⟨g1, x1, h1⟩ v rv => ?_)
  obtain ⟨d, ed, q⟩ := post_opt g1 h1
  exact ⟨Av w ow1, _, d, g1.trk, rv.prp g1, ed, q⟩
theorem ea_nil : EvA F X E G [] aNil := fun hX => ⟨_, pa_nil, fun w ow ρ σ H Q g h => h H ow g Ext.refl [] rfl⟩
theorem ea_cons {e : Expr} {es : List Expr} {m : M OV} {ms : M (List OV)} (h : EvO F X E G e m) (t : EvA F X E G es ms) (hs : starEach (e :: es) X.env = (false, eval e X.env) :: starEach es X.env := by rfl) : EvA F X E G (e :: es) (aCons m ms) := fun hX => by
  obtain ⟨ta, pa, ka⟩ := h hX
  obtain ⟨tb, pb, kb⟩ := t hX
  refine ⟨_, pa_cons pa pb hs, fun w ow ρ σ H Q g h => ?_⟩
  refine ka w ow ρ σ H _ g (Post.mono (Post.split h) fun x ow1 ρ1 H1 _ _ _ ⟨g1, x1, h1⟩ v rv => ?_)
  refine kb w ow1 ρ1 σ H1 _ g1 (Post.mono (Post.split h1) fun y ow2 ρ2 H2 _ _ _ ⟨g2, x2, h2⟩ u ru => ?_)
  exact h2 H2 ow2 g2 Ext.refl (v :: u) ⟨v, u, rfl, rv.ext x2, ru⟩
theorem ev_bi {x : Str} {e : Expr} {es : List Expr} {ms : M (List OV)} {f : List D → Option D} {id : String} {p pos : Pos} (hc : Fits F X → CallR X (.builtin id) (rDL F f)) (hg : Gl X x) (hm : F.mg x = none) (hv : bootBuiltins x = some (.builtin id)) (ha : EvA F X E G (e :: es) ms) (hn : x ≠ "__name__" := by decide) (hdb : (x == ("__debug__" : Str)) = false := by decide)
    (he : starEach (e :: es) X.env = (false, eval e X.env) :: starEach es X.env := by rfl) (hpl : (backTo pos (starEach es X.env)).any (·.1) = false := by rfl) :
    EvE F X E G (.Call (.Name x p) (e :: es) [] pos) (mOpL f ms) := fun hX => by
  obtain ⟨ta, pa, ka⟩ := ha hX
  refine ⟨_, pe_callB (hc hX) hg (by rw [hX.m]; exact hm) hv pa hn hdb he hpl, fun w ow ρ σ H Q g h => ?_⟩
  refine ka w ow ρ σ H _ g (Post.mono (Post.split h) fun x ow1 ρ1 H1 _ _ _ ⟨g1, x1, h1⟩ v rv => ?_)
  obtain ⟨d, ed, q⟩ := post_opt g1 h1
  exact ⟨Av w ow1, _, d, g1.trk, rv.prp g1, ed, q⟩
theorem ev_ty {x : Str} {e : Expr} {es : List Expr} {ms : M (List OV)} {f : List D → Option D} {id : String} {p pos : Pos} (hc : Fits F X → CallR X (.type id) (rDL F f)) (hg : Gl X x) (hm : F.mg x = none) (hv : bootBuiltins x = some (.type id)) (ha : EvA F X E G (e :: es) ms) (hn : x ≠ "__name__" := by decide) (hdb : (x == ("__debug__" : Str)) = false := by decide)
    (he : starEach (e :: es) X.env = (false, eval e X.env) :: starEach es X.env := by rfl) (hpl : (backTo pos (starEach es X.env)).any (·.1) = false := by rfl) :
    EvE F X E G (.Call (.Name x p) (e :: es) [] pos) (mOpL f ms) := fun hX => by
  obtain ⟨ta, pa, ka⟩ := ha hX
  refine ⟨_, pe_callTy (hc hX) hg (by rw [hX.m]; exact hm) hv pa hn hdb he hpl, fun w ow ρ σ H Q g h => ?_⟩
  refine ka w ow ρ σ H _ g (Post.mono (Post.split h) fun x ow1 ρ1 H1 _ _ _ ⟨g1, x1, h1⟩ v rv => ?_)
  obtain ⟨d, ed, q⟩ := post_opt g1 h1
  exact ⟨Av w ow1, _, d, g1.trk, rv.prp g1, ed, q⟩
end
end Hs

namespace Hs
open PySem PySem.Spec PyProof.Rows L2

abbrev SZ : Nat := 16777216
theorem SZ_eq : SZ = sizeLine := by rw [sizeLine_eq]
section
variable {F : Fx} {H : Hp} {av : Addr → Prop} {v : V}
theorem Rp.ref_av {d : D} {a : Addr} (h : Rp F H av d (.ref a)) (hs : ∀ ns, d ≠ .scr ns) : ¬ av a := by
  cases d with
  | scr ns => exact (hs ns rfl).elim
  | lst ds => rw [Rp] at h; obtain ⟨b, vs, e, _, n, _⟩ := h; cases e; exact n
  | tup ds => rw [Rp] at h; obtain ⟨b, vs, e, _, n, _⟩ := h; cases e; exact n
  | dct k ds => rw [Rp] at h; obtain ⟨b, vs, e, _, n, _⟩ := h; cases e; exact n
  | _ => rw [Rp] at h; first | exact h.elim | cases h
theorem PRp.non (h : PRp F H av .non v) : v = .non := by
  rcases h with h | ⟨a, _, h⟩
  · rw [Rp] at h; exact h
  · exact h.elim
theorem PRp.bl {b : Bool} (h : PRp F H av (.bl b) v) : v = .bl b := by
  rcases h with h | ⟨a, _, h⟩
  · rw [Rp] at h; exact h
  · exact h.elim
theorem PRp.int {b : Int} (h : PRp F H av (.int b) v) : v = .int b := by
  rcases h with h | ⟨a, _, h⟩
  · rw [Rp] at h; exact h
  · exact h.elim
theorem PRp.str {b : Str} (h : PRp F H av (.str b) v) : v = .str b := by
  rcases h with h | ⟨a, _, h⟩
  · rw [Rp] at h; exact h
  · exact h.elim
theorem PRp.scr {ns : List Int} (h : PRp F H av (.scr ns) v) : ∃ a, v = .ref a ∧ SqL F.K H a (ns.map V.int) := by
  rcases h with h | ⟨a, _, h⟩
  · rw [Rp] at h
    obtain ⟨a, e, q⟩ := h
    exact ⟨a, e, q.elim (fun q => .inl q.1) .inr⟩
  · exact h.elim
theorem PRp.lst {ds : List D} (h : PRp F H av (.lst ds) v) : ∃ a vs, v = .ref a ∧ H a = some (.lst vs) ∧ RpL F H av ds vs := by
  rcases h with h | ⟨a, e, vs, q, r⟩
  · rw [Rp] at h
    obtain ⟨a, vs, e, q, _, r⟩ := h
    exact ⟨a, vs, e, q, r⟩
  · exact ⟨a, vs, e, q, r⟩
theorem PRp.tup {ds : List D} (h : PRp F H av (.tup ds) v) : ∃ a vs, v = .ref a ∧ H a = some (.tup vs) ∧ ¬ av a ∧ RpL F H av ds vs := by
  rcases h with h | ⟨a, e, r⟩
  · rw [Rp] at h; exact h
  · exact r.elim
theorem PRp.exc {c : Str} {d : D} (h : PRp F H av (.exc c d) v) : False := by
  rcases h with h | ⟨a, e, r⟩
  · rw [Rp] at h; exact h
  · exact r
theorem PRp.ins {d : List D} (h : PRp F H av (.ins d) v) : False := by
  rcases h with h | ⟨a, e, r⟩
  · rw [Rp] at h; exact h
  · exact r
/-- a list or a tuple, either way -/
theorem PRpL.one {d : D} {vs : List V} (h : PRpL F H av [d] vs) : ∃ v, vs = [v] ∧ PRp F H av d v := by
  obtain ⟨v, r, rfl, h1, h2⟩ := h
  obtain rfl : r = [] := h2
  exact ⟨v, rfl, h1⟩
theorem PRpL.two {d e : D} {vs : List V} (h : PRpL F H av [d, e] vs) : ∃ v u, vs = [v, u] ∧ PRp F H av d v ∧ PRp F H av e u := by
  obtain ⟨v, r, rfl, h1, h2⟩ := h
  obtain ⟨u, rfl, h3⟩ := PRpL.one h2
  exact ⟨v, u, rfl, h1, h3⟩
/-- a new list, a new tuple -/
theorem Rp.newL {ds : List D} {vs : List V} {p : Addr} (tr : ∀ b, av b → H b ≠ none) (hp : H p = none) (r : RpL F H av ds vs) : Rp F (upd H p (.lst vs)) av (.lst ds) (.ref p) := by
  rw [Rp]
  exact ⟨p, vs, rfl, upd_same, fun z => tr p z hp, r.grow (Grow.upd hp)⟩
theorem Rp.newT {ds : List D} {vs : List V} {p : Addr} (tr : ∀ b, av b → H b ≠ none) (hp : H p = none) (r : RpL F H av ds vs) : Rp F (upd H p (.tup vs)) av (.tup ds) (.ref p) := by
  rw [Rp]
  exact ⟨p, vs, rfl, upd_same, fun z => tr p z hp, r.grow (Grow.upd hp)⟩
theorem Rp.mkint {i : Int} : Rp F H av (.int i) (.int i) := by rw [Rp]
theorem Rp.mkbl {i : Bool} : Rp F H av (.bl i) (.bl i) := by rw [Rp]
theorem Rp.mkstr {i : Str} : Rp F H av (.str i) (.str i) := by rw [Rp]
theorem Rp.mknon : Rp F H av .non .non := by rw [Rp]
end

def smallB (i : Int) : Bool := decide (-(2 ^ 64) < i) && decide (i < 2 ^ 64)
def dAdd : D → D → Option D
  | .int i, .int j => some (.int (i + j))
  | .str a, .str b => if a.length + b.length ≤ SZ then some (.str (a ++ b)) else none
  | .tup a, .tup b => if a.length + b.length ≤ SZ then some (.tup (a ++ b)) else none
  | .lst a, .lst b => if a.length + b.length ≤ SZ then some (.lst (a ++ b)) else none
  | _, _ => none
def dSub : D → D → Option D
  | .int i, .int j => some (.int (i - j))
  | _, _ => none
def mulOk (i j : Int) : Bool := smallB i || (smallB j || decide (i.natAbs.log2 + j.natAbs.log2 < 1000000))
def dMul : D → D → Option D
  | .int i, .int j => if mulOk i j then some (.int (i * j)) else none
  | .lst xs, .int k => if -(2 ^ 63) ≤ k ∧ k < 2 ^ 63 ∧ xs.length * k.toNat ≤ SZ then some (.lst (List.replicate k.toNat xs).flatten) else none
  | .tup xs, .int k => if xs ≠ [] ∧ 1 ≤ k ∧ k ≤ 1000 ∧ xs.length ≤ 1000 then some (.tup (List.replicate k.toNat xs).flatten) else none
  | _, _ => none
def dDiv : D → D → Option D
  | .int i, .int j => if 0 < j ∧ (j < 1073741824 ∨ j.natAbs.log2 < 9000) then some (.int (i / j)) else none
  | _, _ => none
def dMod : D → D → Option D
  | .int i, .int j => if 0 < j then some (.int (i % j)) else none
  | _, _ => none
def dPow : D → D → Option D
  | .int i, .int j => if 0 ≤ j ∧ j ≤ 1000000 ∧ i.natAbs < 2 ^ 64 then some (.int (i ^ j.toNat)) else none
  | _, _ => none
def dNeg : D → Option D
  | .int i => some (.int (-i))
  | _ => none
section
variable {F : Fx} {X : Cx}
theorem o_add (hX : Fits F X) : OpR X (binaryOp .Add) (rD2 F dAdd) := by
  intro pins s σ H x y v u Q I rx ry h
  obtain ⟨av, dx, dy, d, tr, px, py, e, q⟩ := h
  unfold dAdd at e
  split at e
  · cases e
    exact op_add pins s σ H x y v u Q I rx ry ⟨_, _, px.int, py.int, q _ H Grow.refl Rp.mkint⟩
  · split at e
    · rename_i hz
      cases e
      exact op_add_str pins s σ H x y v u Q I rx ry ⟨_, _, px.str, py.str, by rw [← SZ_eq]; exact hz, q _ H Grow.refl Rp.mkstr⟩
    · cases e
  · split at e
    · rename_i ds es hz
      cases e
      obtain ⟨a, vs, rfl, ha, na, ra⟩ := px.tup
      obtain ⟨b, us, rfl, hb, nb, rb⟩ := py.tup
      refine op_catA pins s σ H _ _ v u Q I rx ry ⟨a, b, vs, us, rfl, rfl, SqT.of ha, SqT.of hb, by rw [← ra.length, ← rb.length, ← SZ_eq]; exact hz, fun z => ?_, fun _ z => ?_, fun _ _ p hp => ?_⟩
      · subst z
        have : ds = [] := List.eq_nil_of_length_eq_zero ra.length
        subst this
        exact q _ H Grow.refl (by rw [Rp]; exact ⟨b, us, rfl, hb, nb, rb⟩)
      · subst z
        have : es = [] := List.eq_nil_of_length_eq_zero rb.length
        subst this
        exact q _ H Grow.refl (by rw [Rp, List.append_nil]; exact ⟨a, vs, rfl, ha, na, ra⟩)
      · exact q _ _ (Grow.upd hp) (Rp.newT tr hp (ra.append rb))
    · cases e
  · split at e
    · rename_i ds es hz
      cases e
      obtain ⟨a, vs, rfl, ha, ra⟩ := px.lst
      obtain ⟨b, us, rfl, hb, rb⟩ := py.lst
      exact op_cat pins s σ H _ _ v u Q I rx ry ⟨a, b, vs, us, rfl, rfl, ha, hb, by rw [← ra.length, ← rb.length, ← SZ_eq]; exact hz, fun p hp => q _ _ (Grow.upd hp) (Rp.newL tr hp (ra.append rb))⟩
    · cases e
  · cases e
theorem o_sub (hX : Fits F X) : OpR X (binaryOp .Sub) (rD2 F dSub) := by
  intro pins s σ H x y v u Q I rx ry h
  obtain ⟨av, dx, dy, d, tr, px, py, e, q⟩ := h
  unfold dSub at e
  split at e
  · cases e
    exact op_sub pins s σ H x y v u Q I rx ry ⟨_, _, px.int, py.int, q _ H Grow.refl Rp.mkint⟩
  · cases e
theorem smallB_iff {i : Int} : smallB i = true ↔ (-(2 ^ 64) < i ∧ i < 2 ^ 64) := by simp [smallB]
theorem o_div (hX : Fits F X) : OpR X (binaryOp .FloorDiv) (rD2 F dDiv) := by
  intro pins s σ H x y v u Q I rx ry h
  obtain ⟨av, dx, dy, d, tr, px, py, e, q⟩ := h
  unfold dDiv at e
  split at e
  · split at e
    · rename_i hz
      cases e
      rcases hz.2 with z | z
      · exact op_fdiv pins s σ H x y v u Q I rx ry ⟨_, _, px.int, py.int, ⟨hz.1, z⟩, q _ H Grow.refl Rp.mkint⟩
      · exact op_fdivW pins s σ H x y v u Q I rx ry ⟨_, _, px.int, py.int, ⟨hz.1, z⟩, q _ H Grow.refl Rp.mkint⟩
    · cases e
  · cases e
theorem o_mod (hX : Fits F X) : OpR X (binaryOp .Mod) (rD2 F dMod) := by
  intro pins s σ H x y v u Q I rx ry h
  obtain ⟨av, dx, dy, d, tr, px, py, e, q⟩ := h
  unfold dMod at e
  split at e
  · split at e
    · rename_i hz
      cases e
      exact op_mod pins s σ H x y v u Q I rx ry ⟨_, _, px.int, py.int, hz, q _ H Grow.refl Rp.mkint⟩
    · cases e
  · cases e
theorem o_pow (hX : Fits F X) : OpR X (binaryOp .Pow) (rD2 F dPow) := by
  intro pins s σ H x y v u Q I rx ry h
  obtain ⟨av, dx, dy, d, tr, px, py, e, q⟩ := h
  unfold dPow at e
  split at e
  · split at e
    · rename_i hz
      cases e
      exact op_pow pins s σ H x y v u Q I rx ry ⟨_, _, px.int, py.int, hz, q _ H Grow.refl Rp.mkint⟩
    · cases e
  · cases e
theorem o_neg (hX : Fits F X) : UnR X (unaryOp .USub) (rD1 F dNeg) := by
  intro pins s σ H x v Q I rx h
  obtain ⟨av, dx, d, tr, px, e, q⟩ := h
  unfold dNeg at e
  split at e
  · cases e
    exact un_neg pins s σ H x v Q I rx ⟨_, px.int, q _ H Grow.refl Rp.mkint⟩
  · cases e
end
end Hs

namespace Hs
open PySem PySem.Spec PyProof.Rows L2
theorem tup_times1 (l : Addr) (items : Array Value) (n : Nat) (dd : Option Addr) (sl : Array (Option Value)) (u : Tok) :
    Meets (Builtin.«tuple.__mul__» ⟨[.ref l, .int 1 u], []⟩) (fun _ R s => s.heap.get? l = some { cls := .type "tuple", dict := dd, data := .seq items n, slots := sl } ∧ R (.ok (.ret (Value.ref l))) s) :=
  .of_wp fun prog w A R s h => by
    obtain ⟨hp, g, d, tk, os⟩ := s
    obtain ⟨hl, h⟩ := h
    have f1 := AutoSeq1.idx_int
    wp_walk using wpAny_loadPart' hl
    exact ⟨_, rfl, h⟩
section
variable {F : Fx} {X : Cx}
theorem o_times1 {pins : List (Addr × Obj)} {s : Shared} {σ : L2.St} {H : Hp} {l : Addr} {xs : List V} {t : Tok} {Q : VK} (I : Inv X pins σ H s) (hT : SqT X.K H l xs) (q : Q (.ref l) H) :
    wpAny (model X.prog X.w) X.A (binaryOp .Mult (.ref l) (.int 1 t)) (EP X pins σ Q) X.xe s := by
  obtain ⟨its, r, ⟨⟨cls, dd, data, sl⟩, ho, hc, n, hd⟩, hs⟩ := I.tuple hT
  simp only at hc hd
  subst hc
  subst hd
  exact wpAny_binaryOp_repeat_ref (T := "tuple") (U := "int") (by decide) ⟨_, ho, rfl⟩ (fun s' => typeIs_int s' 1 t) noFill_tuple_mul F.fills_int_mul F.slot_int_rmul repeat_tuple F.slot_int_index.lookup
    (call_meets F.slot_int_rmul (typeIs_int s 1 t) F.entry_int_rmul (F.args_int_rmul_2 _ _) (int_rmul_tuple 1 t l its.toArray n dd sl)
      ⟨ho, rfl, ⟨_, ho, rfl⟩, call_meets F.slot_tuple_mul ⟨_, ho, rfl⟩ F.entry_tuple_mul (F.args_tuple_mul_2 _ _) (tup_times1 l its.toArray n dd sl t) ⟨ho, .ref l, H, I, rfl, q⟩⟩)
theorem RpL.flat {F : Fx} {H : Hp} {av : Addr → Prop} {ds : List D} {vs : List V} (h : RpL F H av ds vs) : ∀ n : Nat, RpL F H av (List.replicate n ds).flatten (List.replicate n vs).flatten
  | 0 => by simp [RpL]
  | n + 1 => by
    rw [List.replicate_succ, List.replicate_succ, List.flatten_cons, List.flatten_cons]
    exact h.append (h.flat n)
theorem o_mul (hX : Fits F X) : OpR X (binaryOp .Mult) (rD2 F dMul) := by
  intro pins s σ H x y v u Q I rx ry h
  obtain ⟨av, dx, dy, d, tr, px, py, e, q⟩ := h
  unfold dMul at e
  split at e
  · split at e
    · rename_i i j hz
      cases e
      unfold mulOk at hz
      rw [Bool.or_eq_true, Bool.or_eq_true, smallB_iff, smallB_iff, decide_eq_true_iff] at hz
      rcases hz with z | z | z
      · exact op_mul pins s σ H x y v u Q I rx ry ⟨_, _, px.int, py.int, .inl z, q _ H Grow.refl Rp.mkint⟩
      · exact op_mul pins s σ H x y v u Q I rx ry ⟨_, _, px.int, py.int, .inr z, q _ H Grow.refl Rp.mkint⟩
      · exact op_mulW pins s σ H x y v u Q I rx ry ⟨_, _, px.int, py.int, z, q _ H Grow.refl Rp.mkint⟩
    · cases e
  · split at e
    · rename_i ds k hz
      cases e
      obtain ⟨a, vs, rfl, ha, ra⟩ := px.lst
      exact op_rep pins s σ H _ y v u Q I rx ry ⟨a, k, vs, rfl, py.int, ha, hz.1, hz.2.1, by rw [← ra.length, ← SZ_eq]; exact hz.2.2, fun p hp => q _ _ (Grow.upd hp) (Rp.newL tr hp (ra.flat _))⟩
    · cases e
  · split at e
    · rename_i ds k hz
      cases e
      obtain ⟨a, vs, rfl, ha, na, ra⟩ := px.tup
      have ey := py.int
      by_cases h1 : k = 1
      · subst h1
        subst ey
        obtain ⟨t, rfl⟩ := ry
        cases rx
        refine o_times1 I (SqT.of ha) (q _ H Grow.refl ?_)
        rw [show (List.replicate (1 : Int).toNat ds).flatten = ds by simp, Rp]
        exact ⟨a, vs, rfl, ha, na, ra⟩
      · have hne : vs ≠ [] := fun z => hz.1 (List.eq_nil_of_length_eq_zero (by rw [ra.length, z]; rfl))
        exact op_repT pins s σ H _ y v u Q I rx ry ⟨a, k, vs, rfl, ey, SqT.of ha, hne, by omega, by omega, by rw [← ra.length]; exact hz.2.2.2, fun p hp => q _ _ (Grow.upd hp) (Rp.newT tr hp (ra.flat _))⟩
    · cases e
  · cases e
end
def D.depth : D → Nat := fun d => d.py.depth
mutual
def D.plain : D → Bool
  | .dct _ _ => false
  | .exc _ _ => false
  | .ins _ => false
  | .lst xs => D.plainL xs
  | .tup xs => D.plainL xs
  | .non => true
  | .bl _ => true
  | .int _ => true
  | .str _ => true
  | .scr _ => true
def D.plainL : List D → Bool
  | [] => true
  | d :: ds => d.plain && D.plainL ds
end
mutual
theorem plain_of_lay : ∀ d : D, d.py.canLay0 = true → d.plain = true
  | .dct _ _, h => by simp [D.py, PyData.canLay0] at h
  | .exc _ _, h => by simp [D.py, PyData.canLay0] at h
  | .ins _, h => by simp [D.py, PyData.canLay0] at h
  | .lst xs, h => by rw [D.plain]; exact plain_of_layL xs (by simpa [D.py, PyData.canLay0] using h)
  | .tup xs, h => by rw [D.plain]; exact plain_of_layL xs (by simpa [D.py, PyData.canLay0] using h)
  | .non, _ => rfl
  | .bl _, _ => rfl
  | .int _, _ => rfl
  | .str _, _ => rfl
  | .scr _, _ => rfl
theorem plain_of_layL : ∀ ds : List D, PyData.canLayAll0 (D.pyL ds) = true → D.plainL ds = true
  | [], _ => rfl
  | d :: ds, h => by
    rw [D.pyL, PyData.canLayAll0, Bool.and_eq_true] at h
    rw [D.plainL, plain_of_lay d h.1, plain_of_layL ds h.2]
    rfl
end
/-- fit for == -/
def D.sh (d : D) : Bool := SeqAt.shaped d.py
theorem plain_of_sh {d : D} (h : d.sh = true) : d.plain = true := plain_of_lay d (SeqAt.canLay_of_shaped h)
def D.eqv (d e : D) : Bool := PyData.eqv d.py e.py
def dEq (d e : D) : Option D := if d.sh && e.sh then some (.bl (d.eqv e)) else none
def dNe (d e : D) : Option D := if d.sh && e.sh then some (.bl (!d.eqv e)) else none
def dLt : D → D → Option D
  | .int i, .int j => some (.bl (decide (i < j)))
  | .str a, .str b => some (.bl (decide (a.cps.toList < b.cps.toList)))
  | _, _ => none
def dLe : D → D → Option D
  | .int i, .int j => some (.bl (decide (i ≤ j)))
  | .str a, .str b => some (.bl (!decide (b.cps.toList < a.cps.toList)))
  | _, _ => none
def dGt : D → D → Option D
  | .int i, .int j => some (.bl (decide (j < i)))
  | .str a, .str b => some (.bl (decide (b.cps.toList < a.cps.toList)))
  | _, _ => none
def dGe : D → D → Option D
  | .int i, .int j => some (.bl (decide (j ≤ i)))
  | .str a, .str b => some (.bl (!decide (a.cps.toList < b.cps.toList)))
  | _, _ => none
def isNonD : D → Bool
  | .non => true
  | _ => false
def dIsN (d : D) (e : D) : Option D := match e with
  | .non => some (.bl (isNonD d))
  | .bl b => match d with
    | .bl a => some (.bl (a == b))
    | _ => none
  | _ => none
def dNotN (d : D) (e : D) : Option D := match e with
  | .non => some (.bl (!isNonD d))
  | .bl b => match d with
    | .bl a => some (.bl (!(a == b)))
    | _ => none
  | _ => none
theorem py_ints (ns : List Int) : ns.map PyData.int = D.pyL (ns.map D.int) := by
  rw [D.pyL_eq, List.map_map]
  rfl
section
variable {F : Fx} {X : Cx} {H : Hp} {av : Addr → Prop}
theorem dpAll_ints : ∀ ns : List Int, DpAll F.K H (ns.map V.int) (ns.map PyData.int)
  | [] => .nil
  | n :: ns => .cons (.int n) (dpAll_ints ns)
mutual
theorem Rp.dp : ∀ (d : D) (v : V), d.plain = true → Rp F H av d v → Dp F.K H v d.py
  | .non, v, _, h => by rw [Rp] at h; subst h; exact .non
  | .bl b, v, _, h => by rw [Rp] at h; subst h; exact .bl b
  | .int b, v, _, h => by rw [Rp] at h; subst h; exact .int b
  | .str b, v, _, h => by rw [Rp] at h; subst h; exact .str b
  | .scr ns, v, _, h => by
    obtain ⟨a, rfl, q⟩ := PRp.scr (.inl h)
    exact .lst q (dpAll_ints ns)
  | .lst ds, v, c, h => by
    rw [Rp] at h
    obtain ⟨a, vs, rfl, q, _, r⟩ := h
    rw [D.py]
    exact .lst (SqL.of q) (RpL.dp ds vs (by simpa [D.plain] using c) r)
  | .tup ds, v, c, h => by
    rw [Rp] at h
    obtain ⟨a, vs, rfl, q, _, r⟩ := h
    rw [D.py]
    exact .tup (SqT.of q) (RpL.dp ds vs (by simpa [D.plain] using c) r)
  | .dct _ _, v, c, h => by simp [D.plain] at c
  | .exc _ _, v, c, h => by simp [D.plain] at c
  | .ins _, v, c, h => by simp [D.plain] at c
theorem RpL.dp : ∀ (ds : List D) (vs : List V), D.plainL ds = true → RpL F H av ds vs → DpAll F.K H vs (D.pyL ds)
  | [], vs, _, h => by rw [RpL] at h; subst h; rw [D.pyL]; exact .nil
  | d :: ds, vs, c, h => by
    rw [RpL] at h
    obtain ⟨v, r, rfl, h1, h2⟩ := h
    rw [D.plainL, Bool.and_eq_true] at c
    rw [D.pyL]
    exact .cons (Rp.dp d v c.1 h1) (RpL.dp ds r c.2 h2)
end
theorem PRp.dp {d : D} {v : V} (c : d.plain = true) (h : PRp F H av d v) : Dp F.K H v d.py := by
  rcases h with h | ⟨a, rfl, h⟩
  · exact Rp.dp d v c h
  · cases d with
    | lst ds =>
      obtain ⟨vs, q, r⟩ := h
      rw [D.py]
      exact .lst (SqL.of q) (RpL.dp ds vs (by simpa [D.plain] using c) r)
    | dct _ _ => simp [D.plain] at c
    | _ => exact h.elim
theorem o_eq {n : Nat} (hX : Fits F X) (hr : Room n X.A) : OpR X (compareOp .Eq) (rD2 F dEq) := by
  intro pins s σ H x y v u Q I rx ry h
  obtain ⟨av, dx, dy, d, tr, px, py, e, q⟩ := h
  unfold dEq at e
  split at e
  · rename_i hz
    cases e
    rw [Bool.and_eq_true] at hz
    exact op_eqD hr.units pins s σ H x y v u Q I rx ry ⟨dx.py, dy.py, by rw [hX.k]; exact px.dp (plain_of_sh hz.1), by rw [hX.k]; exact py.dp (plain_of_sh hz.2), hz.1, hz.2, q _ H Grow.refl Rp.mkbl⟩
  · cases e
theorem o_ne {n : Nat} (hX : Fits F X) (hr : Room n X.A) : OpR X (compareOp .NotEq) (rD2 F dNe) := by
  intro pins s σ H x y v u Q I rx ry h
  obtain ⟨av, dx, dy, d, tr, px, py, e, q⟩ := h
  unfold dNe at e
  split at e
  · rename_i hz
    cases e
    rw [Bool.and_eq_true] at hz
    exact op_neD hr.units pins s σ H x y v u Q I rx ry ⟨dx.py, dy.py, by rw [hX.k]; exact px.dp (plain_of_sh hz.1), by rw [hX.k]; exact py.dp (plain_of_sh hz.2), hz.1, hz.2, q _ H Grow.refl Rp.mkbl⟩
  · cases e
theorem o_lt (hX : Fits F X) : OpR X (compareOp .Lt) (rD2 F dLt) := by
  intro pins s σ H x y v u Q I rx ry h
  obtain ⟨av, dx, dy, d, tr, px, py, e, q⟩ := h
  unfold dLt at e
  split at e
  · cases e; exact op_lt pins s σ H x y v u Q I rx ry ⟨_, _, px.int, py.int, q _ H Grow.refl Rp.mkbl⟩
  · cases e; exact op_lt_str pins s σ H x y v u Q I rx ry ⟨_, _, px.str, py.str, q _ H Grow.refl Rp.mkbl⟩
  · cases e
theorem o_le (hX : Fits F X) : OpR X (compareOp .LtE) (rD2 F dLe) := by
  intro pins s σ H x y v u Q I rx ry h
  obtain ⟨av, dx, dy, d, tr, px, py, e, q⟩ := h
  unfold dLe at e
  split at e
  · cases e; exact op_le pins s σ H x y v u Q I rx ry ⟨_, _, px.int, py.int, q _ H Grow.refl Rp.mkbl⟩
  · cases e; exact op_le_str pins s σ H x y v u Q I rx ry ⟨_, _, px.str, py.str, q _ H Grow.refl Rp.mkbl⟩
  · cases e
theorem o_gt (hX : Fits F X) : OpR X (compareOp .Gt) (rD2 F dGt) := by
  intro pins s σ H x y v u Q I rx ry h
  obtain ⟨av, dx, dy, d, tr, px, py, e, q⟩ := h
  unfold dGt at e
  split at e
  · cases e; exact op_gt pins s σ H x y v u Q I rx ry ⟨_, _, px.int, py.int, q _ H Grow.refl Rp.mkbl⟩
  · cases e; exact op_gt_str pins s σ H x y v u Q I rx ry ⟨_, _, px.str, py.str, q _ H Grow.refl Rp.mkbl⟩
  · cases e
theorem o_ge (hX : Fits F X) : OpR X (compareOp .GtE) (rD2 F dGe) := by
  intro pins s σ H x y v u Q I rx ry h
  obtain ⟨av, dx, dy, d, tr, px, py, e, q⟩ := h
  unfold dGe at e
  split at e
  · cases e; exact op_ge pins s σ H x y v u Q I rx ry ⟨_, _, px.int, py.int, q _ H Grow.refl Rp.mkbl⟩
  · cases e; exact op_ge_str pins s σ H x y v u Q I rx ry ⟨_, _, px.str, py.str, q _ H Grow.refl Rp.mkbl⟩
  · cases e
theorem PRp.isN {d : D} {v : V} (h : PRp F H av d v) : decide (v = .non) = isNonD d := by
  cases d with
  | non => rw [h.non]; rfl
  | bl b => rw [h.bl]; rfl
  | int b => rw [h.int]; rfl
  | str b => rw [h.str]; rfl
  | scr b => obtain ⟨a, rfl, _⟩ := h.scr; rfl
  | lst b => obtain ⟨a, _, rfl, _⟩ := h.lst; rfl
  | tup b => obtain ⟨a, _, rfl, _⟩ := h.tup; rfl
  | dct k b =>
    rcases h with h | ⟨a, rfl, _⟩
    · rw [Rp] at h; obtain ⟨a, _, rfl, _⟩ := h; rfl
    · rfl
  | exc _ _ => exact h.exc.elim
  | ins _ => exact h.ins.elim
theorem o_is (hX : Fits F X) : OpR X (compareOp .Is) (rD2 F dIsN) := by
  intro pins s σ H x y v u Q I rx ry h
  obtain ⟨av, dx, dy, d, tr, px, py, e, q⟩ := h
  unfold dIsN at e
  split at e
  · cases e
    exact op_isN pins s σ H x y v u Q I rx ry ⟨py.non, by rw [px.isN]; exact q _ H Grow.refl Rp.mkbl⟩
  · split at e
    · cases e
      exact op_isBl pins s σ H x y v u Q I rx ry ⟨_, _, px.bl, py.bl, by rw [← Bool.beq_eq_decide_eq]; exact q _ H Grow.refl Rp.mkbl⟩
    · cases e
  · cases e
theorem o_isnot (hX : Fits F X) : OpR X (compareOp .IsNot) (rD2 F dNotN) := by
  intro pins s σ H x y v u Q I rx ry h
  obtain ⟨av, dx, dy, d, tr, px, py, e, q⟩ := h
  unfold dNotN at e
  split at e
  · cases e
    exact op_notN pins s σ H x y v u Q I rx ry ⟨py.non, by rw [px.isN]; exact q _ H Grow.refl Rp.mkbl⟩
  · split at e
    · cases e
      exact op_notBl pins s σ H x y v u Q I rx ry ⟨_, _, px.bl, py.bl, by rw [← Bool.beq_eq_decide_eq]; exact q _ H Grow.refl Rp.mkbl⟩
    · cases e
  · cases e
end
end Hs

namespace Hs
open PySem PySem.Spec PyProof.Rows L2

def D.alike (d e : D) : Bool := PySem.W.alike d.py e.py
def D.lt (d e : D) : Bool := PySem.W.dataLt d.py e.py
def D.items : D → Option (List D)
  | .lst xs => some xs
  | .tup xs => some xs
  | .scr ns => some (ns.map .int)
  | _ => none
/-- x in y -/
def dIn (x y : D) : Option D := match y with
  | .lst xs => if x.sh && y.sh then some (.bl (xs.any fun z => z.eqv x)) else none
  | .tup xs => if x.sh && y.sh then some (.bl (xs.any fun z => z.eqv x)) else none
  | .str z => match x with
    | .str w => if w.cps.size = 1 then some (.bl (decide (w.cps.getD 0 0 ∈ z.cps.toList))) else none
    | _ => none
  | _ => none
def dNotIn (x y : D) : Option D := match y with
  | .lst xs => if x.sh && y.sh then some (.bl (!xs.any fun z => z.eqv x)) else none
  | .tup xs => if x.sh && y.sh then some (.bl (!xs.any fun z => z.eqv x)) else none
  | .str z => match x with
    | .str w => if w.cps.size = 1 then some (.bl (!decide (w.cps.getD 0 0 ∈ z.cps.toList))) else none
    | _ => none
  | _ => none
/-- < of tuples of one shape too -/
def dLtX (x y : D) : Option D := match x, y with
  | .int i, .int j => some (.bl (decide (i < j)))
  | .str a, .str b => some (.bl (decide (a.cps.toList < b.cps.toList)))
  | .tup _, .tup _ => if x.plain && y.plain && x.alike y && decide (x.depth ≤ 64) then some (.bl (x.lt y)) else none
  | _, _ => none
/-- x[i] -/
def dIx : D → D → Option D
  | .lst xs, .int i => atI xs i
  | .tup xs, .int i => atI xs i
  | .scr ns, .int i => (atI ns i).map .int
  | .str z, .int i => if z.length ≤ SZ then (atI z.cps.toList i).map fun c => .str ⟨#[c]⟩ else none
  | _, _ => none
def cutD {α : Type} (xs : List α) (lo hi : Option Int) : List α := (xs.drop (HT.sIx xs.length 0 lo)).take (HT.sIx xs.length xs.length hi - HT.sIx xs.length 0 lo)
/-- x[lo:hi] -/
def dSl (x : D) (lo hi : Option Int) : Option D := match x with
  | .lst xs => some (.lst (cutD xs lo hi))
  | .tup xs => some (.tup (cutD xs lo hi))
  | .str z => if z.length ≤ SZ then some (.str (cutS z lo hi)) else none
  | _ => none
section
variable {F : Fx} {X : Cx} {H : Hp} {av : Addr → Prop}
theorem py_lst (xs : List D) : (D.lst xs).py = .list (xs.map D.py) := by rw [D.py, D.pyL_eq]
theorem py_tup (xs : List D) : (D.tup xs).py = .tuple (xs.map D.py) := by rw [D.py, D.pyL_eq]
theorem any_py (xs : List D) (x : D) : ((xs.map D.py).any fun z => PyData.eqv z x.py) = xs.any fun z => z.eqv x := by
  rw [List.any_map]
  rfl
theorem sign_of {w : Str} (h : w.cps.size = 1) : w = ⟨#[w.cps.getD 0 0]⟩ := by
  obtain ⟨c⟩ := w
  have h' : c.size = 1 := h
  congr 1
  apply Array.ext
  · simp [h']
  · intro i h1 h2
    have : i = 0 := by omega
    subst this
    simp [Array.getD, h']
theorem o_in {n : Nat} (hX : Fits F X) (hr : Room n X.A) : OpR X (compareOp .In) (rD2 F dIn) := by
  intro pins s σ H x y v u Q I rx ry h
  obtain ⟨av, dx, dy, d, tr, px, py, e, q⟩ := h
  have hu : X.A.units + 65 < cLine := by have := hr.un; omega
  unfold dIn at e
  split at e
  · split at e
    · rename_i xs hz
      cases e
      rw [Bool.and_eq_true] at hz
      have h1 := px.dp (plain_of_sh hz.1)
      have h2 := py.dp (plain_of_sh hz.2)
      obtain ⟨as, r1⟩ := Dp.reads I _ x v (by rw [hX.k]; exact h1) rx
      obtain ⟨bs, r2⟩ := Dp.reads I _ y u (by rw [hX.k]; exact h2) ry
      rw [py_lst] at r2
      have s2 : SeqAt.shaped (.list (xs.map D.py)) = true := by rw [← py_lst]; exact hz.2
      exact SeqAt.in_list_reads r2 r1 (SeqAt.canLay_of_shaped s2) (SeqAt.canLay_of_shaped hz.1) (PyProof.Rows.room_in_shaped hz.1 hu) ⟨.bl _, H, I, rfl, by rw [any_py]; exact q _ H Grow.refl Rp.mkbl⟩
    · cases e
  · split at e
    · rename_i xs hz
      cases e
      rw [Bool.and_eq_true] at hz
      have h1 := px.dp (plain_of_sh hz.1)
      have h2 := py.dp (plain_of_sh hz.2)
      obtain ⟨as, r1⟩ := Dp.reads I _ x v (by rw [hX.k]; exact h1) rx
      obtain ⟨bs, r2⟩ := Dp.reads I _ y u (by rw [hX.k]; exact h2) ry
      rw [py_tup] at r2
      have s2 : SeqAt.shaped (.tuple (xs.map D.py)) = true := by rw [← py_tup]; exact hz.2
      exact SeqAt.in_tuple_reads r2 r1 (SeqAt.canLay_of_shaped s2) (SeqAt.canLay_of_shaped hz.1) (PyProof.Rows.room_in_shaped hz.1 hu) ⟨.bl _, H, I, rfl, by rw [any_py]; exact q _ H Grow.refl Rp.mkbl⟩
    · cases e
  · split at e
    · rename_i z w
      split at e
      · rename_i h1
        cases e
        have ew := sign_of h1
        exact op_in_sign pins s σ H x y v u Q I rx ry ⟨w.cps.getD 0 0, _, by rw [px.str]; exact congrArg V.str ew, py.str, q _ H Grow.refl Rp.mkbl⟩
      · cases e
    · cases e
  · cases e
theorem o_notin {n : Nat} (hX : Fits F X) (hr : Room n X.A) : OpR X (compareOp .NotIn) (rD2 F dNotIn) := by
  intro pins s σ H x y v u Q I rx ry h
  obtain ⟨av, dx, dy, d, tr, px, py, e, q⟩ := h
  have hu : X.A.units + 65 < cLine := by have := hr.un; omega
  unfold dNotIn at e
  split at e
  · split at e
    · rename_i xs hz
      cases e
      rw [Bool.and_eq_true] at hz
      have h1 := px.dp (plain_of_sh hz.1)
      have h2 := py.dp (plain_of_sh hz.2)
      obtain ⟨as, r1⟩ := Dp.reads I _ x v (by rw [hX.k]; exact h1) rx
      obtain ⟨bs, r2⟩ := Dp.reads I _ y u (by rw [hX.k]; exact h2) ry
      rw [py_lst] at r2
      have s2 : SeqAt.shaped (.list (xs.map D.py)) = true := by rw [← py_lst]; exact hz.2
      exact SeqAt.notIn_list_reads r2 r1 (SeqAt.canLay_of_shaped s2) (SeqAt.canLay_of_shaped hz.1) (PyProof.Rows.room_in_shaped hz.1 hu) ⟨.bl _, H, I, rfl, by rw [any_py]; exact q _ H Grow.refl Rp.mkbl⟩
    · cases e
  · split at e
    · rename_i xs hz
      cases e
      rw [Bool.and_eq_true] at hz
      have h1 := px.dp (plain_of_sh hz.1)
      have h2 := py.dp (plain_of_sh hz.2)
      obtain ⟨as, r1⟩ := Dp.reads I _ x v (by rw [hX.k]; exact h1) rx
      obtain ⟨bs, r2⟩ := Dp.reads I _ y u (by rw [hX.k]; exact h2) ry
      rw [py_tup] at r2
      have s2 : SeqAt.shaped (.tuple (xs.map D.py)) = true := by rw [← py_tup]; exact hz.2
      exact SeqAt.notIn_tuple_reads r2 r1 (SeqAt.canLay_of_shaped s2) (SeqAt.canLay_of_shaped hz.1) (PyProof.Rows.room_in_shaped hz.1 hu) ⟨.bl _, H, I, rfl, by rw [any_py]; exact q _ H Grow.refl Rp.mkbl⟩
    · cases e
  · split at e
    · rename_i z w
      split at e
      · rename_i h1
        cases e
        have ew := sign_of h1
        exact op_notIn_sign pins s σ H x y v u Q I rx ry ⟨w.cps.getD 0 0, _, by rw [px.str]; exact congrArg V.str ew, py.str, q _ H Grow.refl Rp.mkbl⟩
      · cases e
    · cases e
  · cases e
theorem o_ltX {n : Nat} (hX : Fits F X) (hr : Room n X.A) : OpR X (compareOp .Lt) (rD2 F dLtX) := by
  intro pins s σ H x y v u Q I rx ry h
  obtain ⟨av, dx, dy, d, tr, px, py, e, q⟩ := h
  unfold dLtX at e
  split at e
  · cases e; exact op_lt pins s σ H x y v u Q I rx ry ⟨_, _, px.int, py.int, q _ H Grow.refl Rp.mkbl⟩
  · cases e; exact op_lt_str pins s σ H x y v u Q I rx ry ⟨_, _, px.str, py.str, q _ H Grow.refl Rp.mkbl⟩
  · split at e
    · rename_i xs ys hz
      cases e
      simp only [Bool.and_eq_true, decide_eq_true_eq] at hz
      obtain ⟨⟨⟨z1, z2⟩, z3⟩, z4⟩ := hz
      obtain ⟨as, r1⟩ := Dp.reads I _ x v (by rw [hX.k]; exact px.dp z1) rx
      obtain ⟨bs, r2⟩ := Dp.reads I _ y u (by rw [hX.k]; exact py.dp z2) ry
      have hu := hr.un
      exact PySem.W.rcLt_alike _ _ X.A s v u as bs r1 r2 z3 (by rw [py_tup]; intro z; cases z) (by have := Nat.min_le_left (D.tup xs).py.depth (D.tup ys).py.depth; have : (D.tup xs).py.depth ≤ 64 := z4; omega) _ _ _ _ ⟨.bl _, H, I, rfl, q _ H Grow.refl Rp.mkbl⟩
    · cases e
  · cases e
theorem atI_rp {ds : List D} {vs : List V} {i : Int} {d : D} (r : RpL F H av ds vs) (e : atI ds i = some d) : ∃ v, atI vs i = some v ∧ Rp F H av d v := by
  unfold atI at e ⊢
  rw [← r.length]
  obtain ⟨j, h1, h2⟩ := Option.bind_eq_some_iff.mp e
  obtain ⟨v, h3, h4⟩ := r.get h2
  exact ⟨v, by rw [h1]; exact h3, h4⟩
theorem atI_map {α β : Type} (f : α → β) {xs : List α} {i : Int} {x : α} (h : atI xs i = some x) : atI (xs.map f) i = some (f x) := by
  unfold atI at h ⊢
  rw [List.length_map]
  obtain ⟨j, h1, h2⟩ := Option.bind_eq_some_iff.mp h
  rw [h1]
  show (xs.map f)[j]? = _
  rw [List.getElem?_map, h2]
  rfl
theorem o_ix (hX : Fits F X) : IxR X (rD2 F dIx) := by
  intro value slice pins s σ H x y v u Q I rx ry h hs
  obtain ⟨av, dx, dy, d, tr, px, py, e, q⟩ := h
  unfold dIx at e
  split at e
  · obtain ⟨a, vs, rfl, ha, ra⟩ := px.lst
    obtain ⟨z, hz, rz⟩ := atI_rp ra e
    exact ix_list value slice pins s σ H _ y v u Q I rx ry ⟨a, vs, _, z, rfl, py.int, SqL.of ha, hz, q _ H Grow.refl rz⟩ hs
  · obtain ⟨a, vs, rfl, ha, na, ra⟩ := px.tup
    obtain ⟨z, hz, rz⟩ := atI_rp ra e
    exact ix_tup value slice pins s σ H _ y v u Q I rx ry ⟨a, vs, _, z, rfl, py.int, SqT.of ha, hz, q _ H Grow.refl rz⟩ hs
  · obtain ⟨a, rfl, ha⟩ := px.scr
    obtain ⟨k, hk, rfl⟩ := Option.map_eq_some_iff.mp e
    exact ix_list value slice pins s σ H _ y v u Q I rx ry ⟨a, _, _, V.int k, rfl, py.int, by rw [hX.k]; exact ha, atI_map V.int hk, q _ H Grow.refl Rp.mkint⟩ hs
  · split at e
    · rename_i hz
      obtain ⟨c, hk, rfl⟩ := Option.map_eq_some_iff.mp e
      exact ix_str value slice pins s σ H _ y v u Q I rx ry ⟨_, _, c, px.str, py.int, by rw [← SZ_eq]; exact hz, hk, q _ H Grow.refl Rp.mkstr⟩ hs
    · cases e
  · cases e
def rDS (F : Fx) (f : D → Option Int → Option Int → Option D) : V → Option Int → Option Int → Hp → VK → Prop := fun x lo hi H Q => ∃ av dx d, (∀ b, av b → H b ≠ none) ∧ PRp F H av dx x ∧ f dx lo hi = some d ∧ ∀ z H', Grow H H' → Rp F H' av d z → Q z H'
theorem cut_rp {ds : List D} {vs : List V} (r : RpL F H av ds vs) (lo hi : Option Int) : RpL F H av (cutD ds lo hi) (cutV vs lo hi) := by
  unfold cutD cutV
  rw [r.length]
  exact (r.drop _).take _
theorem o_sl (hX : Fits F X) : SlR X (rDS F dSl) := by
  intro pins s σ H x v vl vu lo hi sl Q I rx hs pl pu h
  obtain ⟨av, dx, d, tr, px, e, q⟩ := h
  unfold dSl at e
  split at e
  · cases e
    obtain ⟨a, vs, rfl, ha, ra⟩ := px.lst
    exact sl_list pins s σ H _ v vl vu lo hi sl Q I rx hs pl pu ⟨a, vs, rfl, SqL.of ha, fun p hp => q _ _ (Grow.upd hp) (Rp.newL tr hp (cut_rp ra lo hi))⟩
  · cases e
    obtain ⟨a, vs, rfl, ha, na, ra⟩ := px.tup
    refine sl_tupA pins s σ H _ v vl vu lo hi sl Q I rx hs pl pu ⟨a, vs, rfl, SqT.of ha, fun z => ?_, fun _ p hp => q _ _ (Grow.upd hp) (Rp.newT tr hp (cut_rp ra lo hi))⟩
    refine q _ H Grow.refl ?_
    have h1 := cut_rp ra lo hi
    have h2 : cutV vs lo hi = vs := by
      unfold cutV
      rw [z.1, z.2, List.drop_zero, Nat.sub_zero, List.take_length]
    rw [h2] at h1
    rw [Rp]
    exact ⟨a, vs, rfl, ha, na, h1⟩
  · split at e
    · rename_i hz
      cases e
      exact sl_str pins s σ H _ v vl vu lo hi sl Q I rx hs pl pu ⟨_, px.str, by rw [← SZ_eq]; exact hz, q _ H Grow.refl Rp.mkstr⟩
    · cases e
  · cases e
end
section
variable {F : Fx} {X : Cx} {E : XK} {w : Wd} {ow : Own} {G : List Knd} {ρ : List D} {σ : L2.St} {H : Hp}
def EvP (F : Fx) (X : Cx) (E : XK) (G : List Knd) (e : Option Expr) (m : M (Option Int)) : Prop :=
  Fits F X → ∃ t, PO X e t ∧ ∀ w ow ρ σ H Q, Gd F w ow G ρ σ H → Post F w ow E G σ H (m ρ) (fun o _ _ H' => Q o H') → t σ H Q
def intOf : D → Option Int
  | .int i => some i
  | _ => none
def sNo : M (Option Int) := M.ret none
def sAt (m : M D) : M (Option Int) := m.bind fun d => fun ρ => match intOf d with
  | some i => .ok (some i) ρ
  | none => .bad
theorem es_no : EvP F X E G none sNo := fun hX => ⟨_, po_none, fun w ow ρ σ H Q g h => h H ow g Ext.refl⟩
theorem es_at {e : Expr} {m : M D} (h : EvE F X E G e m) : EvP F X E G (some e) (sAt m) := fun hX => by
  obtain ⟨t, p, k⟩ := h hX
  refine ⟨_, po_some p, fun w ow ρ σ H Q g q => ?_⟩
  refine k w ow ρ σ H _ g (Post.mono (Post.split q) fun d ow1 ρ1 H1 _ _ _ ⟨g1, x1, h1⟩ v rv => ?_)
  cases d with
  | int i => exact ⟨i, PRp.int (.inl rv), h1 H1 ow1 g1 Ext.refl⟩
  | _ => exact h1.elim
def mSl (a : M OV) (lo hi : M (Option Int)) : M D := a.bind fun x => lo.bind fun l => hi.bind fun u => fun ρ => M.opt (dSl (x.get ρ) l u) ρ
theorem ev_sl {e : Expr} {lo hi : Option Expr} {me : M OV} {ml mh : M (Option Int)} {p2 pos : Pos} (he : EvO F X E G e me) (hl : EvP F X E G lo ml) (hh : EvP F X E G hi mh) : EvE F X E G (.Subscript e (.Slice lo hi none p2) pos) (mSl me ml mh) := fun hX => by
  obtain ⟨te, pe, ke⟩ := he hX
  obtain ⟨tl, pl, kl⟩ := hl hX
  obtain ⟨th, ph, kh⟩ := hh hX
  refine ⟨_, pe_slice (o_sl hX) pe pl ph, fun w ow ρ σ H Q g h => ?_⟩
  refine ke w ow ρ σ H _ g (Post.mono (Post.split h) fun x ow1 ρ1 H1 _ _ _ ⟨g1, x1, h1⟩ v rv => ?_)
  refine kl w ow1 ρ1 σ H1 _ g1 (Post.mono (Post.split h1) fun l ow2 ρ2 H2 _ _ _ ⟨g2, x2, h2⟩ => ?_)
  refine kh w ow2 ρ2 σ H2 _ g2 (Post.mono (Post.split h2) fun u ow3 ρ3 H3 _ _ _ ⟨g3, x3, h3⟩ => ?_)
  obtain ⟨d, ed, q⟩ := post_opt g3 h3
  exact ⟨Av w ow3, _, d, g3.trk, ((rv.ext x2).ext x3).prp g3, ed, q⟩
end
end Hs

namespace Hs
open PySem PySem.Spec PyProof.Rows L2

def one1 (f : D → Option D) : List D → Option D
  | [d] => f d
  | _ => none
def dLen : D → Option D
  | .lst xs => some (.int xs.length)
  | .tup xs => some (.int xs.length)
  | .scr ns => some (.int ns.length)
  | .str z => if z.length ≤ SZ then some (.int z.length) else none
  | _ => none
def bls : List D → Option (List Bool)
  | [] => some []
  | .bl b :: r => (bls r).map (b :: ·)
  | _ => none
def intsD : List D → Option (List Int)
  | [] => some []
  | .int b :: r => (intsD r).map (b :: ·)
  | _ => none
def strsD : List D → Option (List Str)
  | [] => some []
  | .str b :: r => (strsD r).map (b :: ·)
  | _ => none
def dAll : D → Option D
  | .lst xs => (bls xs).map fun bs => .bl (bs.all id)
  | _ => none
def dAny : D → Option D
  | .lst xs => (bls xs).map fun bs => .bl (bs.any id)
  | _ => none
def dSum : D → Option D
  | .lst xs => (intsD xs).map fun ns => .int ns.sum
  | _ => none
def maxOf : List Int → Option Int
  | [] => none
  | x :: xs => some (xs.foldl max x)
def minOf : List Int → Option Int
  | [] => none
  | x :: xs => some (xs.foldl min x)
def dMax : D → Option D
  | .lst xs => (intsD xs).bind fun ns => (maxOf ns).map .int
  | _ => none
def dMin : D → Option D
  | .lst xs => (intsD xs).bind fun ns => (minOf ns).map .int
  | _ => none
def dMax2 : List D → Option D
  | [.int i, .int j] => some (.int (if j > i then j else i))
  | _ => none
def dMin2 : List D → Option D
  | [.int i, .int j] => some (.int (if j < i then j else i))
  | _ => none
def dList : D → Option D
  | .lst xs => some (.lst xs)
  | .tup xs => some (.lst xs)
  | .scr ns => some (.lst (ns.map .int))
  | _ => none
def dTuple : D → Option D
  | .lst xs => some (.tup xs)
  | .tup xs => some (.tup xs)
  | .scr ns => some (.tup (ns.map .int))
  | _ => none
def dInt : D → Option D
  | .int i => some (.int i)
  | .bl b => some (.int (if b then 1 else 0))
  | .str a => if a.length ≤ 640 then (PySem.intText? a).map .int else none
  | _ => none
def D.kind : D → String
  | .non => "NoneType"
  | .bl _ => "bool"
  | .int _ => "int"
  | .str _ => "str"
  | .scr _ => "list"
  | .lst _ => "list"
  | .tup _ => "tuple"
  | .dct _ _ => "dict"
  | .exc _ _ => "?"
  | .ins _ => "?"
def dIsi (T : String) (d : D) : Option D := (kitB d.kind T).map .bl
section
variable {F : Fx} {X : Cx} {H : Hp} {av : Addr → Prop}
theorem o_len (hX : Fits F X) : CallR X (.builtin "len") (rDL F (one1 dLen)) := by
  intro pins s σ H xs us Q I r h
  obtain ⟨av, ds, d, tr, p, e, q⟩ := h
  match ds, e with
  | [d0], e =>
    obtain ⟨v, rfl, p1⟩ := p.one
    have e : dLen d0 = some d := e
    unfold dLen at e
    split at e
    · cases e
      obtain ⟨a, vs, rfl, ha, ra⟩ := p1.lst
      exact call_len pins s σ H _ us Q I r ⟨_, _, rfl, .inl ⟨_, SqL.of ha, rfl⟩, by rw [← ra.length]; exact q _ H Grow.refl Rp.mkint⟩
    · cases e
      obtain ⟨a, vs, rfl, ha, _, ra⟩ := p1.tup
      exact call_len pins s σ H _ us Q I r ⟨_, _, rfl, .inr ⟨_, SqT.of ha, rfl⟩, by rw [← ra.length]; exact q _ H Grow.refl Rp.mkint⟩
    · cases e
      obtain ⟨a, rfl, ha⟩ := p1.scr
      exact call_len pins s σ H _ us Q I r ⟨_, _, rfl, .inl ⟨_, by rw [hX.k]; exact ha, rfl⟩, by rw [List.length_map]; exact q _ H Grow.refl Rp.mkint⟩
    · split at e
      · rename_i hz
        cases e
        exact call_len pins s σ H _ us Q I r ⟨_, _, rfl, by rw [p1.str]; exact ⟨by rw [← SZ_eq]; exact hz, rfl⟩, q _ H Grow.refl Rp.mkint⟩
      · cases e
    · cases e
theorem bls_rp : ∀ {ds : List D} {vs : List V} {bs : List Bool}, RpL F H av ds vs → bls ds = some bs → vs = bs.map V.bl
  | [], vs, bs, r, e => by rw [RpL] at r; subst r; cases e; rfl
  | d :: ds, vs, bs, r, e => by
    rw [RpL] at r
    obtain ⟨v, r, rfl, h1, h2⟩ := r
    cases d with
    | bl b =>
      obtain ⟨cs, e1, rfl⟩ := Option.map_eq_some_iff.mp (show (bls ds).map (b :: ·) = some bs from e)
      rw [PRp.bl (.inl h1), bls_rp h2 e1]
      rfl
    | _ => cases e
theorem ints_rp : ∀ {ds : List D} {vs : List V} {bs : List Int}, RpL F H av ds vs → intsD ds = some bs → vs = bs.map V.int
  | [], vs, bs, r, e => by rw [RpL] at r; subst r; cases e; rfl
  | d :: ds, vs, bs, r, e => by
    rw [RpL] at r
    obtain ⟨v, r, rfl, h1, h2⟩ := r
    cases d with
    | int b =>
      obtain ⟨cs, e1, rfl⟩ := Option.map_eq_some_iff.mp (show (intsD ds).map (b :: ·) = some bs from e)
      rw [PRp.int (.inl h1), ints_rp h2 e1]
      rfl
    | _ => cases e
theorem strs_rp : ∀ {ds : List D} {vs : List V} {bs : List Str}, RpL F H av ds vs → strsD ds = some bs → vs = bs.map V.str
  | [], vs, bs, r, e => by rw [RpL] at r; subst r; cases e; rfl
  | d :: ds, vs, bs, r, e => by
    rw [RpL] at r
    obtain ⟨v, r, rfl, h1, h2⟩ := r
    cases d with
    | str b =>
      obtain ⟨cs, e1, rfl⟩ := Option.map_eq_some_iff.mp (show (strsD ds).map (b :: ·) = some bs from e)
      rw [PRp.str (.inl h1), strs_rp h2 e1]
      rfl
    | _ => cases e
theorem o_all (hX : Fits F X) (hc : X.calm = true) : CallR X (.builtin "all") (rDL F (one1 dAll)) := by
  intro pins s σ H xs us Q I r h
  obtain ⟨av, ds, d, tr, p, e, q⟩ := h
  match ds, e with
  | [d0], e =>
    obtain ⟨v, rfl, p1⟩ := p.one
    have e : dAll d0 = some d := e
    unfold dAll at e
    split at e
    · obtain ⟨bs, e1, rfl⟩ := Option.map_eq_some_iff.mp e
      obtain ⟨a, vs, rfl, ha, ra⟩ := p1.lst
      rw [bls_rp ra e1] at ha
      exact cr_all hc pins s σ H _ us Q I r ⟨a, bs, rfl, SqL.of ha, q _ H Grow.refl Rp.mkbl⟩
    · cases e
theorem o_any (hX : Fits F X) (hc : X.calm = true) : CallR X (.builtin "any") (rDL F (one1 dAny)) := by
  intro pins s σ H xs us Q I r h
  obtain ⟨av, ds, d, tr, p, e, q⟩ := h
  match ds, e with
  | [d0], e =>
    obtain ⟨v, rfl, p1⟩ := p.one
    have e : dAny d0 = some d := e
    unfold dAny at e
    split at e
    · obtain ⟨bs, e1, rfl⟩ := Option.map_eq_some_iff.mp e
      obtain ⟨a, vs, rfl, ha, ra⟩ := p1.lst
      rw [bls_rp ra e1] at ha
      exact cr_any hc pins s σ H _ us Q I r ⟨a, bs, rfl, SqL.of ha, q _ H Grow.refl Rp.mkbl⟩
    · cases e
theorem o_sum (hX : Fits F X) (hc : X.calm = true) : CallR X (.builtin "sum") (rDL F (one1 dSum)) := by
  intro pins s σ H xs us Q I r h
  obtain ⟨av, ds, d, tr, p, e, q⟩ := h
  match ds, e with
  | [d0], e =>
    obtain ⟨v, rfl, p1⟩ := p.one
    have e : dSum d0 = some d := e
    unfold dSum at e
    split at e
    · obtain ⟨bs, e1, rfl⟩ := Option.map_eq_some_iff.mp e
      obtain ⟨a, vs, rfl, ha, ra⟩ := p1.lst
      rw [ints_rp ra e1] at ha
      exact cr_sum hc pins s σ H _ us Q I r ⟨a, bs, rfl, SqL.of ha, q _ H Grow.refl Rp.mkint⟩
    · cases e
theorem foldl_max_ge : ∀ (xs : List Int) (x : Int), x ≤ xs.foldl max x ∧ (∀ y ∈ xs, y ≤ xs.foldl max x) ∧ (xs.foldl max x = x ∨ xs.foldl max x ∈ xs)
  | [], x => ⟨Int.le_refl _, fun _ h => by simp at h, .inl rfl⟩
  | a :: xs, x => by
    obtain ⟨h1, h2, h3⟩ := foldl_max_ge xs (max x a)
    refine ⟨by rw [List.foldl_cons]; omega, fun y hy => ?_, ?_⟩
    · rw [List.foldl_cons]
      rcases List.mem_cons.mp hy with rfl | hy
      · omega
      · exact h2 y hy
    · rw [List.foldl_cons]
      rcases h3 with h3 | h3
      · rw [h3]
        by_cases h : x ≤ a
        · right; rw [show max x a = a by omega]; exact List.mem_cons_self
        · left; omega
      · right; exact List.mem_cons_of_mem _ h3
theorem foldl_min_le : ∀ (xs : List Int) (x : Int), xs.foldl min x ≤ x ∧ (∀ y ∈ xs, xs.foldl min x ≤ y) ∧ (xs.foldl min x = x ∨ xs.foldl min x ∈ xs)
  | [], x => ⟨Int.le_refl _, fun _ h => by simp at h, .inl rfl⟩
  | a :: xs, x => by
    obtain ⟨h1, h2, h3⟩ := foldl_min_le xs (min x a)
    refine ⟨by rw [List.foldl_cons]; omega, fun y hy => ?_, ?_⟩
    · rw [List.foldl_cons]
      rcases List.mem_cons.mp hy with rfl | hy
      · omega
      · exact h2 y hy
    · rw [List.foldl_cons]
      rcases h3 with h3 | h3
      · rw [h3]
        by_cases h : x ≤ a
        · left; omega
        · right; rw [show min x a = a by omega]; exact List.mem_cons_self
      · right; exact List.mem_cons_of_mem _ h3
theorem o_max (hX : Fits F X) (hc : X.calm = true) : CallR X (.builtin "max") (rDL F (one1 dMax)) := by
  intro pins s σ H xs us Q I r h
  obtain ⟨av, ds, d, tr, p, e, q⟩ := h
  match ds, e with
  | [d0], e =>
    obtain ⟨v, rfl, p1⟩ := p.one
    have e : dMax d0 = some d := e
    unfold dMax at e
    split at e
    · obtain ⟨bs, e1, e2⟩ := Option.bind_eq_some_iff.mp e
      obtain ⟨m, e3, rfl⟩ := Option.map_eq_some_iff.mp e2
      obtain ⟨a, vs, rfl, ha, ra⟩ := p1.lst
      rw [ints_rp ra e1] at ha
      cases bs with
      | nil => cases e3
      | cons b bs =>
        have em : bs.foldl max b = m := Option.some.inj e3
        obtain ⟨f1, f2, f3⟩ := foldl_max_ge bs b
        refine cr_max hc pins s σ H _ us Q I r ⟨a, b :: bs, rfl, SqL.of ha, Nat.succ_pos _, fun k hk hge => ?_⟩
        have : k = m := by
          have g1 : m ≤ k := by
            rcases f3 with f3 | f3
            · rw [← em, f3]; exact hge b List.mem_cons_self
            · rw [← em]; exact hge _ (List.mem_cons_of_mem _ f3)
          have g2 : k ≤ m := by
            rw [← em]
            rcases List.mem_cons.mp hk with rfl | hk
            · exact f1
            · exact f2 k hk
          omega
        rw [this]
        exact q _ H Grow.refl Rp.mkint
    · cases e
theorem o_min (hX : Fits F X) (hc : X.calm = true) : CallR X (.builtin "min") (rDL F (one1 dMin)) := by
  intro pins s σ H xs us Q I r h
  obtain ⟨av, ds, d, tr, p, e, q⟩ := h
  match ds, e with
  | [d0], e =>
    obtain ⟨v, rfl, p1⟩ := p.one
    have e : dMin d0 = some d := e
    unfold dMin at e
    split at e
    · obtain ⟨bs, e1, e2⟩ := Option.bind_eq_some_iff.mp e
      obtain ⟨m, e3, rfl⟩ := Option.map_eq_some_iff.mp e2
      obtain ⟨a, vs, rfl, ha, ra⟩ := p1.lst
      rw [ints_rp ra e1] at ha
      cases bs with
      | nil => cases e3
      | cons b bs =>
        have em : bs.foldl min b = m := Option.some.inj e3
        obtain ⟨f1, f2, f3⟩ := foldl_min_le bs b
        refine cr_min hc pins s σ H _ us Q I r ⟨a, b :: bs, rfl, SqL.of ha, Nat.succ_pos _, fun k hk hge => ?_⟩
        have : k = m := by
          have g1 : k ≤ m := by
            rcases f3 with f3 | f3
            · rw [← em, f3]; exact hge b List.mem_cons_self
            · rw [← em]; exact hge _ (List.mem_cons_of_mem _ f3)
          have g2 : m ≤ k := by
            rw [← em]
            rcases List.mem_cons.mp hk with rfl | hk
            · exact f1
            · exact f2 k hk
          omega
        rw [this]
        exact q _ H Grow.refl Rp.mkint
    · cases e
theorem o_max2 (hX : Fits F X) (hc : X.calm = true) : CallR X (.builtin "max") (rDL F dMax2) := by
  intro pins s σ H xs us Q I r h
  obtain ⟨av, ds, d, tr, p, e, q⟩ := h
  unfold dMax2 at e
  split at e
  · cases e
    obtain ⟨v, u, rfl, p1, p2⟩ := p.two
    exact call_max2 hc pins s σ H _ us Q I r ⟨_, _, by rw [p1.int, p2.int], q _ H Grow.refl Rp.mkint⟩
  · cases e
theorem o_min2 (hX : Fits F X) (hc : X.calm = true) : CallR X (.builtin "min") (rDL F dMin2) := by
  intro pins s σ H xs us Q I r h
  obtain ⟨av, ds, d, tr, p, e, q⟩ := h
  unfold dMin2 at e
  split at e
  · cases e
    obtain ⟨v, u, rfl, p1, p2⟩ := p.two
    exact call_min2 hc pins s σ H _ us Q I r ⟨_, _, by rw [p1.int, p2.int], q _ H Grow.refl Rp.mkint⟩
  · cases e
theorem ints_rpl : ∀ ns : List Int, RpL F H av (ns.map D.int) (ns.map V.int)
  | [] => RpL.nil
  | n :: ns => RpL.cons Rp.mkint (ints_rpl ns)
theorem o_list (hX : Fits F X) : CallR X (.type "list") (rDL F (one1 dList)) := by
  intro pins s σ H xs us Q I r h
  obtain ⟨av, ds, d, tr, p, e, q⟩ := h
  match ds, e with
  | [d0], e =>
    obtain ⟨v, rfl, p1⟩ := p.one
    have e : dList d0 = some d := e
    unfold dList at e
    split at e
    · cases e
      obtain ⟨a, vs, rfl, ha, ra⟩ := p1.lst
      exact call_list_of pins s σ H _ us Q I r ⟨a, vs, rfl, .inl (SqL.of ha), fun l hl => q _ _ (Grow.upd hl) (Rp.newL tr hl ra)⟩
    · cases e
      obtain ⟨a, vs, rfl, ha, _, ra⟩ := p1.tup
      exact call_list_of pins s σ H _ us Q I r ⟨a, vs, rfl, .inr (SqT.of ha), fun l hl => q _ _ (Grow.upd hl) (Rp.newL tr hl ra)⟩
    · cases e
      obtain ⟨a, rfl, ha⟩ := p1.scr
      exact call_list_of pins s σ H _ us Q I r ⟨a, _, rfl, .inl (by rw [hX.k]; exact ha), fun l hl => q _ _ (Grow.upd hl) (Rp.newL tr hl (ints_rpl _))⟩
    · cases e
theorem o_tuple (hX : Fits F X) : CallR X (.type "tuple") (rDL F (one1 dTuple)) := by
  intro pins s σ H xs us Q I r h
  obtain ⟨av, ds, d, tr, p, e, q⟩ := h
  match ds, e with
  | [d0], e =>
    obtain ⟨v, rfl, p1⟩ := p.one
    have e : dTuple d0 = some d := e
    unfold dTuple at e
    split at e
    · cases e
      obtain ⟨a, vs, rfl, ha, ra⟩ := p1.lst
      exact call_tuple_of pins s σ H _ us Q I r ⟨a, vs, rfl, .inl ⟨SqL.of ha, fun l hl => q _ _ (Grow.upd hl) (Rp.newT tr hl ra)⟩⟩
    · cases e
      obtain ⟨a, vs, rfl, ha, na, ra⟩ := p1.tup
      exact call_tuple_of pins s σ H _ us Q I r ⟨a, vs, rfl, .inr ⟨SqT.of ha, q _ H Grow.refl (by rw [Rp]; exact ⟨a, vs, rfl, ha, na, ra⟩)⟩⟩
    · cases e
      obtain ⟨a, rfl, ha⟩ := p1.scr
      exact call_tuple_of pins s σ H _ us Q I r ⟨a, _, rfl, .inl ⟨by rw [hX.k]; exact ha, fun l hl => q _ _ (Grow.upd hl) (Rp.newT tr hl (ints_rpl _))⟩⟩
    · cases e
theorem o_int (hX : Fits F X) : CallR X (.type "int") (rDL F (one1 dInt)) := by
  intro pins s σ H xs us Q I r h
  obtain ⟨av, ds, d, tr, p, e, q⟩ := h
  match ds, e with
  | [d0], e =>
    obtain ⟨v, rfl, p1⟩ := p.one
    have e : dInt d0 = some d := e
    unfold dInt at e
    split at e
    · cases e
      exact call_int1 pins s σ H _ us Q I r (.inl ⟨_, by rw [p1.int], q _ H Grow.refl Rp.mkint⟩)
    · cases e
      exact call_int1 pins s σ H _ us Q I r (.inr ⟨_, by rw [p1.bl], q _ H Grow.refl Rp.mkint⟩)
    · split at e
      · rename_i hz
        obtain ⟨n, e1, rfl⟩ := Option.map_eq_some_iff.mp e
        exact call_int_str pins s σ H _ us Q I r ⟨_, n, by rw [p1.str], e1, hz, q _ H Grow.refl Rp.mkint⟩
      · cases e
    · cases e
/-- isinstance(x, T), T a built-in type -/
theorem isi_ok {pins : List (Addr × Obj)} {s : Shared} {σ : L2.St} {H : Hp} {av : Addr → Prop} {d : D} {v : V} {u : Value} {T : String} {b : Bool} {Q : Value → Shared → Prop} (hX : Fits F X) (I : Inv X pins σ H s) (p : PRp F H av d v) (r : RelV v u) (e : kitB d.kind T = some b) (h : ∀ tk, Q (.bool b) { s with toks := tk }) :
    wpAny (model X.prog X.w) X.A (call (.builtin "isinstance") [u, .type T]) Q X.xe s := by
  have viaTy : ∀ t, TyX X.K H v (.type t) → kitB t T = some b → wpAny (model X.prog X.w) X.A (call (.builtin "isinstance") [u, .type T]) Q X.xe s := fun t ty e => by
    obtain ⟨P, Z, pz, hx⟩ := kit_of I r ty
    exact PySem.W.kia_one Z I.kIn pz (kit_ty e) hx h
  have dctCase : ∀ a od, v = .ref a → H a = some (dO a od) → od.ExactDict → kitB "dict" T = some b → wpAny (model X.prog X.w) X.A (call (.builtin "isinstance") [u, .type T]) Q X.xe s := fun a od ev ha hd e => by
    subst ev
    obtain rfl : u = Value.ref a := r
    obtain ⟨ho, _, _⟩ := I.hok a _ ha
    exact PySem.W.kia_one PySem.W.kitx_dict I.kIn ⟨od, ho, hd.1⟩ (kit_ty e) (fun z => nomatch z) h
  cases d with
  | non => exact viaTy _ (by rw [p.non]; exact .base .non) e
  | bl x => exact viaTy _ (by rw [p.bl]; exact .base (.bl _)) e
  | int x => exact viaTy _ (by rw [p.int]; exact .base (.int _)) e
  | str x => exact viaTy _ (by rw [p.str]; exact .base (.str _)) e
  | scr ns =>
    obtain ⟨a, rfl, q⟩ := p.scr
    rcases q with (q | ⟨o, q⟩) | ⟨o, its, n, q, c, _⟩
    · exact viaTy _ (.base (.lst q)) e
    · exact viaTy _ (.base (.frz q)) e
    · exact viaTy _ (.kList (by rw [hX.k]; exact q) c) e
  | lst ds =>
    obtain ⟨a, vs, rfl, q, _⟩ := p.lst
    exact viaTy _ (.base (.lst q)) e
  | tup ds =>
    obtain ⟨a, vs, rfl, q, _⟩ := p.tup
    exact viaTy _ (.base (.tup q)) e
  | dct ks ds =>
    have g : ∃ a od, v = .ref a ∧ H a = some (dO a od) ∧ od.ExactDict := by
      have fin : ∀ a od, v = .ref a → H a = some (dO a od) → ((∃ kl, LeafD F a od kl ∧ ks = kl.map (fun p => keyD p.1) ∧ RpL F H av ds (kl.map (·.2))) ∨ ∃ xs, NestD F a od xs ∧ D.nkL ks = some (xs.map (·.1)) ∧ RpL F H av ks (xs.map fun x => V.ref x.2.1) ∧ RpL F H av ds (xs.map (·.2.2))) → ∃ a od, v = .ref a ∧ H a = some (dO a od) ∧ od.ExactDict := by
        rintro a od ev ha (⟨kl, ⟨_, _, vs, _, es, ep, z, _⟩, _⟩ | ⟨xs, ⟨_, _, _, ys, _, es, ep, z, _⟩, _⟩)
        · exact ⟨a, od, ev, ha, z⟩
        · exact ⟨a, od, ev, ha, z⟩
      rcases p with p | ⟨a, ev, od, ha, z⟩
      · rw [Rp] at p
        obtain ⟨a, od, ev, ha, _, z⟩ := p
        exact fin a od ev ha z
      · exact fin a od ev ha z
    obtain ⟨a, od, ev, ha, z⟩ := g
    exact dctCase a od ev ha z e
  | exc _ _ => exact p.exc.elim
  | ins _ => exact p.ins.elim
end
section
variable {F : Fx} {X : Cx} {E : XK} {w : Wd} {ow : Own} {G : List Knd} {ρ : List D} {σ : L2.St} {H : Hp}
theorem ev_isi {e : Expr} {m : M OV} {T : String} {Ts : Str} {p p2 pos : Pos} (he : EvO F X E G e m) (hg : Gl X "isinstance") (hm : F.mg "isinstance" = none) (hg2 : Gl X Ts) (hm2 : F.mg Ts = none) (hv2 : bootBuiltins Ts = some (.type T))
    (hn : Ts ≠ "__name__" := by decide) (hd : (Ts == ("__debug__" : Str)) = false := by decide) (hs : starEach [e, .Name Ts p2] X.env = (false, eval e X.env) :: starEach [.Name Ts p2] X.env := by rfl) (hs2 : (backTo pos (starEach [.Name Ts p2] X.env)).any (·.1) = false := by rfl) :
    EvE F X E G (.Call (.Name "isinstance" p) [e, .Name Ts p2] [] pos) (mOp1 (dIsi T) m) := fun hX => by
  obtain ⟨t, pe, k⟩ := he hX
  refine ⟨_, pe_callB (id := "isinstance") (r := fun xs H Q => ∃ v d av b, xs = [v, .ty T] ∧ PRp F H av d v ∧ kitB d.kind T = some b ∧ Q (.bl b) H) (fun pins s σ H xs us Q I r h => ?_) hg (by rw [hX.m]; exact hm) (by decide +kernel) (pa_cons pe (pa_cons (pe_bltn (v := .ty T) hg2 (by rw [hX.m]; exact hm2) hv2 rfl hn hd) pa_nil) hs) (he := hs) (hpl := hs2), fun w ow ρ σ H Q g h => ?_⟩
  · obtain ⟨v, d, av, b, rfl, pr, e1, q⟩ := h
    cases r with
    | cons r1 r2 =>
      cases r2 with
      | cons r2 r3 =>
        cases r3
        obtain rfl : _ = Value.type T := r2
        exact isi_ok hX I pr r1 e1 fun tk => ⟨.bl b, H, I.tok tk, rfl, q⟩
  · refine k w ow ρ σ H _ g (Post.mono (Post.split h) fun x ow1 ρ1 H1 _ _ _ ⟨g1, x1, h1⟩ v rv => ?_)
    obtain ⟨d, ed, q⟩ := post_opt g1 h1
    obtain ⟨b, eb, rfl⟩ := Option.map_eq_some_iff.mp (show (kitB (x.get ρ1).kind T).map D.bl = some d from ed)
    exact ⟨v, _, _, b, rfl, rv.prp g1, eb, q _ H1 Grow.refl Rp.mkbl⟩
end
end Hs

namespace Hs
open PySem PySem.Spec PyProof.Rows L2

section
variable {F : Fx} {X : Cx} {E : XK} {w : Wd} {ow : Own} {G : List Knd} {ρ : List D} {σ : L2.St} {H : Hp}
def blOf : D → Option Bool
  | .bl b => some b
  | _ => none
def tst (m : M D) : M Bool := m.bind fun d => M.opt (blOf d)
def tNotM (m : M Bool) : M Bool := m.bind fun b => M.ret (!b)
def tAndM (a b : M Bool) : M Bool := a.bind fun c => if c then b else M.ret false
def tOrM (a b : M Bool) : M Bool := a.bind fun c => if c then M.ret true else b
theorem post_bl {d : D} {Q : Bool → Hp → Prop} {v : V} {av : Addr → Prop} {H' : Hp} (r : Rp F H' av d v) (h : Post F w ow E G σ H' (M.opt (blOf d) ρ) (fun b _ _ H' => Q b H')) (g : Gd F w ow G ρ σ H') : ∃ k, v = .bl k ∧ Q k H' := by
  cases d with
  | bl b => exact ⟨b, PRp.bl (.inl r), h H' ow g Ext.refl⟩
  | _ => exact h.elim
/-- the reading of a test, from a value's -/
theorem spec_test {t : TE} {m : M D} (k : ∀ w ow ρ σ H Q, Gd F w ow G ρ σ H → Post F w ow E G σ H (m ρ) (fun d ow' _ H' => ∀ v, Rp F H' (Av w ow') d v → Q v H') → t σ H Q) :
    ∀ w ow ρ σ H (Q : Bool → Hp → Prop), Gd F w ow G ρ σ H → Post F w ow E G σ H (tst m ρ) (fun b _ _ H' => Q b H') → t σ H fun x H' => ∃ k, x = .bl k ∧ Q k H' :=
  fun w ow ρ σ H Q g h => k w ow ρ σ H _ g (Post.mono (Post.split h) fun d ow1 ρ1 H1 _ _ _ ⟨g1, x1, h1⟩ v rv => post_bl rv h1 g1)
theorem et_val {e : Expr} {m : M D} (h : EvE F X E G e m) (he : ∀ whole, isTrue e X.env whole = (do let v ← whole; standAt e.pos; holding [v] (truthy v)) := by intro _; rfl) : EvT F X E G e (tst m) := fun hX => by
  obtain ⟨t, p, k⟩ := h hX
  exact ⟨_, pt_val p he, spec_test k⟩
theorem et_cmp {a b : Expr} {ma mb : M OV} {f : D → D → Option D} {op : CmpOp} {pos : Pos} (ho : Fits F X → OpR X (compareOp op) (rD2 F f)) (ha : EvO F X E G a ma) (hb : EvO F X E G b mb) (hm : behindInMarks op b = false := by first | rfl | exact nomark _) : EvT F X E G (.Compare a [op] [b] pos) (tst (mOp2 f ma mb)) := fun hX => by
  obtain ⟨ta, pa, ka⟩ := ha hX
  obtain ⟨tb, pb, kb⟩ := hb hX
  refine ⟨_, pt_cmpR (ho hX) pa pb hm, spec_test (t := tOp (rD2 F f) ta tb) fun w ow ρ σ H Q g h => ?_⟩
  refine ka w ow ρ σ H _ g (Post.mono (Post.split h) fun x ow1 ρ1 H1 _ _ _ ⟨g1, x1, h1⟩ v rv => ?_)
  refine kb w ow1 ρ1 σ H1 _ g1 (Post.mono (Post.split h1) fun y ow2 ρ2 H2 _ _ _ ⟨g2, x2, h2⟩ u ru => ?_)
  obtain ⟨d, ed, q⟩ := post_opt g2 h2
  exact ⟨Av w ow2, _, _, d, g2.trk, (rv.ext x2).prp g2, ru.prp g2, ed, q⟩
theorem et_not {a : Expr} {m : M Bool} {pos : Pos} (h : EvT F X E G a m) : EvT F X E G (.UnaryOp .Not a pos) (tNotM m) := fun hX => by
  obtain ⟨t, p, k⟩ := h hX
  exact ⟨_, pt_not p, fun w ow ρ σ H Q g h => k w ow ρ σ H _ g (Post.mono (Post.split h) fun b ow1 ρ1 H1 _ _ _ ⟨g1, x1, h1⟩ => h1 H1 ow1 g1 Ext.refl)⟩
/-- and, or: tests whatever their whole is -/
def EvW (F : Fx) (X : Cx) (E : XK) (G : List Knd) (e : Expr) (m : M Bool) : Prop :=
  Fits F X → ∃ t, PW X e t ∧ ∀ w ow ρ σ H Q, Gd F w ow G ρ σ H → Post F w ow E G σ H (m ρ) (fun b _ _ H' => Q b H') → t σ H Q
theorem EvW.t {e : Expr} {m : M Bool} (h : EvW F X E G e m) : EvT F X E G e m := fun hX => let ⟨t, p, k⟩ := h hX; ⟨t, p.pt, k⟩
theorem ew_and1 {a : Expr} {m : M Bool} {pos : Pos} (h : EvT F X E G a m) : EvW F X E G (.BoolOp .And [a] pos) m := fun hX => let ⟨t, p, k⟩ := h hX; ⟨t, pw_and1 p, k⟩
theorem ew_or1 {a : Expr} {m : M Bool} {pos : Pos} (h : EvT F X E G a m) : EvW F X E G (.BoolOp .Or [a] pos) m := fun hX => let ⟨t, p, k⟩ := h hX; ⟨t, pw_or1 p, k⟩
theorem ew_and {a b : Expr} {r : List Expr} {ma mb : M Bool} {pos : Pos} (ha : EvT F X E G a ma) (hb : EvW F X E G (.BoolOp .And (b :: r) pos) mb) : EvW F X E G (.BoolOp .And (a :: b :: r) pos) (tAndM ma mb) := fun hX => by
  obtain ⟨ta, pa, ka⟩ := ha hX
  obtain ⟨tb, pb, kb⟩ := hb hX
  refine ⟨_, pw_and pa pb, fun w ow ρ σ H Q g h => ka w ow ρ σ H _ g (Post.mono (Post.split h) fun c ow1 ρ1 H1 _ _ _ ⟨g1, x1, h1⟩ => ?_)⟩
  cases c with
  | true => exact iteT (kb w ow1 ρ1 σ H1 Q g1 h1)
  | false => exact iteF (h1 H1 ow1 g1 Ext.refl)
theorem ew_or {a b : Expr} {r : List Expr} {ma mb : M Bool} {pos : Pos} (ha : EvT F X E G a ma) (hb : EvW F X E G (.BoolOp .Or (b :: r) pos) mb) : EvW F X E G (.BoolOp .Or (a :: b :: r) pos) (tOrM ma mb) := fun hX => by
  obtain ⟨ta, pa, ka⟩ := ha hX
  obtain ⟨tb, pb, kb⟩ := hb hX
  refine ⟨_, pw_or pa pb, fun w ow ρ σ H Q g h => ka w ow ρ σ H _ g (Post.mono (Post.split h) fun c ow1 ρ1 H1 _ _ _ ⟨g1, x1, h1⟩ => ?_)⟩
  cases c with
  | true => exact iteT (h1 H1 ow1 g1 Ext.refl)
  | false => exact iteF (kb w ow1 ρ1 σ H1 Q g1 h1)
def mAnd (a b : M D) : M D := a.bind fun d => match blOf d with
  | some true => b
  | some false => mC (.bl false)
  | none => fun _ => .bad
def mOr (a b : M D) : M D := a.bind fun d => match blOf d with
  | some true => mC (.bl true)
  | some false => b
  | none => fun _ => .bad
def mNot (a : M D) : M D := a.bind fun d => match blOf d with
  | some b => mC (.bl (!b))
  | none => fun _ => .bad
theorem ev_one {op} {a : Expr} {m : M D} {pos : Pos} (h : EvE F X E G a m) : EvE F X E G (.BoolOp op [a] pos) m := fun hX => let ⟨t, p, k⟩ := h hX; ⟨t, pe_one p, k⟩
theorem ev_and {a b : Expr} {r : List Expr} {ma mb : M D} {pos : Pos} (ha : EvE F X E G a ma) (hb : EvE F X E G (.BoolOp .And (b :: r) pos) mb) : EvE F X E G (.BoolOp .And (a :: b :: r) pos) (mAnd ma mb) := fun hX => by
  obtain ⟨ta, pa, ka⟩ := ha hX
  obtain ⟨tb, pb, kb⟩ := hb hX
  refine ⟨_, pe_and pa pb, fun w ow ρ σ H Q g h => ka w ow ρ σ H _ g (Post.mono (Post.split h) fun d ow1 ρ1 H1 _ _ _ ⟨g1, x1, h1⟩ v rv => ?_)⟩
  cases d with
  | bl c =>
    refine ⟨c, PRp.bl (.inl rv), ?_⟩
    cases c with
    | true => exact iteT (kb w ow1 ρ1 σ H1 Q g1 h1)
    | false => exact iteF (h1 H1 ow1 g1 Ext.refl _ Rp.mkbl)
  | _ => exact h1.elim
theorem ev_or {a b : Expr} {r : List Expr} {ma mb : M D} {pos : Pos} (ha : EvE F X E G a ma) (hb : EvE F X E G (.BoolOp .Or (b :: r) pos) mb) : EvE F X E G (.BoolOp .Or (a :: b :: r) pos) (mOr ma mb) := fun hX => by
  obtain ⟨ta, pa, ka⟩ := ha hX
  obtain ⟨tb, pb, kb⟩ := hb hX
  refine ⟨_, pe_or pa pb, fun w ow ρ σ H Q g h => ka w ow ρ σ H _ g (Post.mono (Post.split h) fun d ow1 ρ1 H1 _ _ _ ⟨g1, x1, h1⟩ v rv => ?_)⟩
  cases d with
  | bl c =>
    refine ⟨c, PRp.bl (.inl rv), ?_⟩
    cases c with
    | true => exact iteT (h1 H1 ow1 g1 Ext.refl _ Rp.mkbl)
    | false => exact iteF (kb w ow1 ρ1 σ H1 Q g1 h1)
  | _ => exact h1.elim
theorem ev_not {a : Expr} {m : M D} {pos : Pos} (h : EvE F X E G a m) : EvE F X E G (.UnaryOp .Not a pos) (mNot m) := fun hX => by
  obtain ⟨t, p, k⟩ := h hX
  refine ⟨_, pe_not p, fun w ow ρ σ H Q g h => k w ow ρ σ H _ g (Post.mono (Post.split h) fun d ow1 ρ1 H1 _ _ _ ⟨g1, x1, h1⟩ v rv => ?_)⟩
  cases d with
  | bl c => exact ⟨c, PRp.bl (.inl rv), h1 H1 ow1 g1 Ext.refl _ Rp.mkbl⟩
  | _ => exact h1.elim
def mIf (c : M Bool) (a b : M D) : M D := c.bind fun c => if c then a else b
theorem ev_if {c a b : Expr} {mc : M Bool} {ma mb : M D} {pos : Pos} (hc : EvT F X E G c mc) (ha : EvE F X E G a ma) (hb : EvE F X E G b mb) : EvE F X E G (.IfExp c a b pos) (mIf mc ma mb) := fun hX => by
  obtain ⟨tc, pc, kc⟩ := hc hX
  obtain ⟨ta, pa, ka⟩ := ha hX
  obtain ⟨tb, pb, kb⟩ := hb hX
  refine ⟨_, pe_ifExp pc pa pb, fun w ow ρ σ H Q g h => kc w ow ρ σ H _ g (Post.mono (Post.split h) fun c ow1 ρ1 H1 _ _ _ ⟨g1, x1, h1⟩ => ?_)⟩
  cases c with
  | true => exact iteT (ka w ow1 ρ1 σ H1 Q g1 h1)
  | false => exact iteF (kb w ow1 ρ1 σ H1 Q g1 h1)
/-- a op b op c -/
def mChain (f g : D → D → Option D) (a b c : M OV) : M D := a.bind fun x => b.bind fun y => fun ρ => match (f (x.get ρ) (y.get ρ)).bind blOf with
  | some true => (c.bind fun z => fun ρ => M.opt (g (y.get ρ) (z.get ρ)) ρ) ρ
  | some false => .ok (.bl false) ρ
  | none => .bad
theorem spec_chain {a b c : Expr} {ma mb mc : M OV} {f f' : D → D → Option D} {ta tb tc : TE}
    (ka : ∀ w ow ρ σ H Q, Gd F w ow G ρ σ H → Post F w ow E G σ H (ma ρ) (fun o ow' _ H' => ∀ v, OvOk F H' (Av w ow') G σ o v → Q v H') → ta σ H Q)
    (kb : ∀ w ow ρ σ H Q, Gd F w ow G ρ σ H → Post F w ow E G σ H (mb ρ) (fun o ow' _ H' => ∀ v, OvOk F H' (Av w ow') G σ o v → Q v H') → tb σ H Q)
    (kc : ∀ w ow ρ σ H Q, Gd F w ow G ρ σ H → Post F w ow E G σ H (mc ρ) (fun o ow' _ H' => ∀ v, OvOk F H' (Av w ow') G σ o v → Q v H') → tc σ H Q) :
    ∀ w ow ρ σ H Q, Gd F w ow G ρ σ H → Post F w ow E G σ H (mChain f f' ma mb mc ρ) (fun d ow' _ H' => ∀ v, Rp F H' (Av w ow') d v → Q v H') → tChain (rD2 F f) (rD2 F f') ta tb tc σ H Q := fun w ow ρ σ H Q g h => by
  refine ka w ow ρ σ H _ g (Post.mono (Post.split h) fun x ow1 ρ1 H1 _ _ _ ⟨g1, x1, h1⟩ v rv => ?_)
  refine kb w ow1 ρ1 σ H1 _ g1 (Post.mono (Post.split h1) fun y ow2 ρ2 H2 _ _ _ ⟨g2, x2, h2⟩ u ru => ?_)
  cases e : f (x.get ρ2) (y.get ρ2) with
  | none => simp only [e, Option.bind_none] at h2; exact h2.elim
  | some d =>
    simp only [e, Option.bind_some] at h2
    refine ⟨Av w ow2, _, _, d, g2.trk, (rv.ext x2).prp g2, ru.prp g2, e, fun z H' gr rz => ?_⟩
    cases d with
    | bl k =>
      refine ⟨k, PRp.bl (.inl rz), ?_⟩
      cases k with
      | true =>
        refine iteT (kc w ow2 ρ2 σ H' _ (g2.grow gr) ?_)
        have h3 : Post F w ow2 E G σ H2 ((mc.bind fun z => fun ρ => M.opt (f' (y.get ρ) (z.get ρ)) ρ) ρ2) (fun d ow' _ H' => ∀ v, Rp F H' (Av w ow') d v → Q v H') := h2
        have h4 := Post.split h3
        have h5 : Post F w ow2 E G σ H' (mc ρ2) (fun o ow3 ρ3 H3 => Gd F w ow3 G ρ3 σ H3 ∧ Ext (Av w ow2) (Av w ow3) H2 H3 ∧ Post F w ow3 E G σ H3 (M.opt (f' (y.get ρ3) (o.get ρ3)) ρ3) (fun d ow' _ H' => ∀ v, Rp F H' (Av w ow') d v → Q v H')) := by
          cases q : mc ρ2 with
          | ok o ρ3 => rw [q] at h4; exact fun H3 ow3 g3 x3 => h4 H3 ow3 g3 (gr.ext.trans x3)
          | ex e ρ3 => rw [q] at h4; exact fun H3 ow3 C dx g3 x3 => h4 H3 ow3 C dx g3 (gr.ext.trans x3)
          | bad => rw [q] at h4; exact h4
        refine Post.mono h5 fun z ow3 ρ3 H3 _ _ x3 ⟨g3, _, h6⟩ s rs => ?_
        obtain ⟨d, ed, q⟩ := post_opt g3 h6
        exact ⟨Av w ow3, _, _, d, g3.trk, ((ru.ext gr.ext).ext x3).prp g3, rs.prp g3, ed, q⟩
      | false => exact iteF (h2 H' ow2 (g2.grow gr) gr.ext _ Rp.mkbl)
    | _ => exact h2.elim
theorem ev_chain {a b c : Expr} {ma mb mc : M OV} {f f' : D → D → Option D} {op op' : CmpOp} {pos : Pos} (ho : Fits F X → OpR X (compareOp op) (rD2 F f)) (ho' : Fits F X → OpR X (compareOp op') (rD2 F f')) (ha : EvO F X E G a ma) (hb : EvO F X E G b mb) (hc : EvO F X E G c mc) (hm : lastMarks [op, op'] [b, c] = false := by rfl) :
    EvE F X E G (.Compare a [op, op'] [b, c] pos) (mChain f f' ma mb mc) := fun hX => by
  obtain ⟨ta, pa, ka⟩ := ha hX
  obtain ⟨tb, pb, kb⟩ := hb hX
  obtain ⟨tc, pc, kc⟩ := hc hX
  exact ⟨_, pe_chain (ho hX) (ho' hX) pa pb pc (hm := hm), spec_chain (a := a) (b := b) (c := c) ka kb kc⟩
theorem et_chain {a b c : Expr} {ma mb mc : M OV} {f f' : D → D → Option D} {op op' : CmpOp} {pos : Pos} (ho : Fits F X → OpR X (compareOp op) (rD2 F f)) (ho' : Fits F X → OpR X (compareOp op') (rD2 F f')) (ha : EvO F X E G a ma) (hb : EvO F X E G b mb) (hc : EvO F X E G c mc) (hm : lastMarks [op, op'] [b, c] = false := by rfl) :
    EvT F X E G (.Compare a [op, op'] [b, c] pos) (tst (mChain f f' ma mb mc)) := fun hX => by
  obtain ⟨ta, pa, ka⟩ := ha hX
  obtain ⟨tb, pb, kb⟩ := hb hX
  obtain ⟨tc, pc, kc⟩ := hc hX
  exact ⟨_, pt_chain (ho hX) (ho' hX) pa pb pc (hm := hm), spec_test (spec_chain (a := a) (b := b) (c := c) ka kb kc)⟩
def valsOf : List OV → Option (List D)
  | [] => some []
  | .v d :: r => (valsOf r).map (d :: ·)
  | _ => none
theorem vals_rp {av : Addr → Prop} : ∀ {os : List OV} {vs : List V} {ds : List D}, OvsOk F H av G σ os vs → valsOf os = some ds → RpL F H av ds vs
  | [], vs, ds, h, e => by
    cases e
    obtain rfl : vs = [] := h
    exact RpL.nil
  | .v d :: os, vs, ds, h, e => by
    obtain ⟨es, e1, rfl⟩ := Option.map_eq_some_iff.mp (show (valsOf os).map (d :: ·) = some ds from e)
    obtain ⟨v, r, rfl, h1, h2⟩ := h
    exact RpL.cons h1 (vals_rp h2 e1)
  | .s i :: os, vs, ds, h, e => by cases e
def mTup (ms : M (List OV)) : M D := ms.bind fun os => M.opt ((valsOf os).bind fun ds => if ds.length ≤ SZ then some (.tup ds) else none)
def mLst (ms : M (List OV)) : M D := ms.bind fun os => M.opt ((valsOf os).bind fun ds => if ds.length ≤ SZ then some (.lst ds) else none)
theorem ev_tup {es : List Expr} {ms : M (List OV)} {x1 : Nat} {pos : Pos} (h : EvA F X E G es ms) : EvE F X E G (.Tuple es x1 pos) (mTup ms) := fun hX => by
  obtain ⟨t, p, k⟩ := h hX
  refine ⟨_, pe_tup p, fun w ow ρ σ H Q g h => k w ow ρ σ H _ g (Post.mono (Post.split h) fun os ow1 ρ1 H1 _ _ _ ⟨g1, x1, h1⟩ vs rv => ?_)⟩
  obtain ⟨d, ed, q⟩ := post_opt g1 h1
  obtain ⟨ds, e1, e2⟩ := Option.bind_eq_some_iff.mp ed
  split at e2
  · rename_i hz
    cases e2
    have r := vals_rp rv e1
    exact ⟨by rw [← r.length, ← SZ_eq]; exact hz, fun a ha => q _ _ (Grow.upd ha) (Rp.newT g1.trk ha r)⟩
  · cases e2
end
end Hs

namespace Hs
open PySem PySem.Spec PyProof.Rows L2

inductive RS where
  | nx (ρ : List D)
  | rt (d : D) (ρ : List D)
  | ex (e : Ex) (ρ : List D)
  | bad
abbrev MS := List D → RS
def Kp (w : Wd) (σ σ' : L2.St) : Prop := ∀ i, i + 1 = w.n0 → σ'[i]? = σ[i]?
def RetOk (F : Fx) (w : Wd) (ow : Own) (H : Hp) (fr : Bool) (d : D) (v : V) : Prop :=
  match fr with
  | true => ∃ a, v = .ref a ∧ w.H0 a = none ∧ ¬ w.oc a ∧ H a ≠ none ∧ OwRp F H (fun b => Av w ow b ∨ b = a) d a
  | false => Rp F H (Av w ow) d v
def PostS (F : Fx) (w : Wd) (ow : Own) (E : XK) (fr : Bool) (G' : List Knd) (σ : L2.St) (H : Hp) (r : RS) (Dn : Ends) : Prop :=
  match r with
  | .nx ρ' => ∀ σ' H' ow', Gd F w ow' G' ρ' σ' H' → Kp w σ σ' → Ext (Av w ow) (Av w ow') H H' → Dn.nx σ' H'
  | .rt d ρ' => ∀ v H' ow' σ' Gx, Gd F w ow' Gx ρ' σ' H' → Kp w σ σ' → Ext (Av w ow) (Av w ow') H H' → RetOk F w ow' H' fr d v → Dn.rt v H'
  | .ex e ρ' => ∀ H' ow' σ' Gx C dx, Gd F w ow' Gx ρ' σ' H' → Kp w σ σ' → Ext (Av w ow) (Av w ow') H H' → ExIs F H' (Av w ow') e C dx → E (.ref C) dx H'
  | .bad => False
def SpS (F : Fx) (E : XK) (fr : Bool) (n0 : Nat) (G : List Knd) (ms : MS) (G' : List Knd) (t : TS) : Prop :=
  ∀ w ow ρ σ H Dn, w.n0 = n0 → Gd F w ow G ρ σ H → PostS F w ow E fr G' σ H (ms ρ) Dn → t Dn σ H
def ExS (F : Fx) (X : Cx) (E : XK) (fr : Bool) (n0 : Nat) (G : List Knd) (st : Stmt) (ms : MS) (G' : List Knd) : Prop :=
  Fits F X → ∃ t, PS X st t ∧ SpS F E fr n0 G ms G' t
def ExB (F : Fx) (X : Cx) (E : XK) (fr : Bool) (n0 : Nat) (G : List Knd) (st : List Stmt) (ms : MS) (G' : List Knd) : Prop :=
  Fits F X → ∃ t, PSs X st t ∧ SpS F E fr n0 G ms G' t
def sNx : MS := fun ρ => .nx ρ
def sSeq (a b : MS) : MS := fun ρ => match a ρ with
  | .nx ρ' => b ρ'
  | .rt d ρ' => .rt d ρ'
  | .ex e ρ' => .ex e ρ'
  | .bad => .bad
def R.rs {α : Type} (r : R α) (k : α → MS) : RS := match r with
  | .ok a ρ => k a ρ
  | .ex e ρ => .ex e ρ
  | .bad => .bad
section
variable {F : Fx} {X : Cx} {E : XK} {fr : Bool} {n0 : Nat} {w : Wd} {ow : Own} {G G' G1 G2 : List Knd} {ρ : List D} {σ : L2.St} {H : Hp} {α : Type}
theorem Kp.refl : Kp w σ σ := fun _ _ => rfl
theorem Kp.trans {σ1 σ2 : L2.St} (a : Kp w σ σ1) (b : Kp w σ1 σ2) : Kp w σ σ2 := fun i h => (b i h).trans (a i h)
theorem PostS.shift {ow1 : Own} {σ1 : L2.St} {H1 : Hp} {r : RS} {Dn : Ends} (h : PostS F w ow E fr G' σ H r Dn) (k : Kp w σ σ1) (x : Ext (Av w ow) (Av w ow1) H H1) : PostS F w ow1 E fr G' σ1 H1 r Dn := by
  cases r with
  | nx ρ' => exact fun σ' H' ow' g k' x' => h σ' H' ow' g (k.trans k') (x.trans x')
  | rt d ρ' => exact fun v H' ow' σ' Gx g k' x' => h v H' ow' σ' Gx g (k.trans k') (x.trans x')
  | ex e ρ' => exact fun H' ow' σ' Gx C dx g k' x' => h H' ow' σ' Gx C dx g (k.trans k') (x.trans x')
  | bad => exact h
/-- an expression within a statement -/
theorem PostS.split {r : R α} {k : α → MS} {Dn : Ends} (h : PostS F w ow E fr G' σ H (r.rs k) Dn) :
    Post F w ow E G σ H r (fun a ow1 ρ1 H1 => Gd F w ow1 G ρ1 σ H1 ∧ Ext (Av w ow) (Av w ow1) H H1 ∧ PostS F w ow1 E fr G' σ H1 (k a ρ1) Dn) := by
  cases r with
  | ok a ρ1 => exact fun H1 ow1 g1 x1 => ⟨g1, x1, PostS.shift (show PostS F w ow E fr G' σ H (k a ρ1) Dn from h) Kp.refl x1⟩
  | ex e ρ' => exact fun H' ow' C dx g x q => h H' ow' σ G C dx g Kp.refl x q
  | bad => exact h
theorem xs_nil : ExB F X E fr n0 G [] sNx G := fun _ => ⟨_, pss_nil, fun w ow ρ σ H Dn _ g h => h σ H ow g Kp.refl Ext.refl⟩
theorem SpS.seq {a b : MS} {t u : TS} (h1 : SpS F E fr n0 G a G1 t) (h2 : SpS F E fr n0 G1 b G2 u) : SpS F E fr n0 G (sSeq a b) G2 (tSeq t u) := fun w ow ρ σ H Dn hn g h => by
  refine h1 w ow ρ σ H { Dn with nx := u Dn } hn g ?_
  have h' : PostS F w ow E fr G2 σ H (sSeq a b ρ) Dn := h
  unfold sSeq at h'
  cases e : a ρ with
  | nx ρ1 =>
    rw [e] at h'
    exact fun σ1 H1 ow1 g1 k1 x1 => h2 w ow1 ρ1 σ1 H1 Dn hn g1 (h'.shift k1 x1)
  | rt d ρ1 => rw [e] at h'; exact h'
  | ex d ρ1 => rw [e] at h'; exact h'
  | bad => rw [e] at h'; exact h'
theorem xs_cons {st : Stmt} {r : List Stmt} {a b : MS} (h1 : ExS F X E fr n0 G st a G1) (h2 : ExB F X E fr n0 G1 r b G2) : ExB F X E fr n0 G (st :: r) (sSeq a b) G2 := fun hX => by
  obtain ⟨t, p, k⟩ := h1 hX
  obtain ⟨u, q, l⟩ := h2 hX
  exact ⟨_, pss_cons p q, k.seq l⟩
theorem xs_one {st : Stmt} {a : MS} (h1 : ExS F X E fr n0 G st a G1) : ExB F X E fr n0 G [st] a G1 := fun hX => by
  obtain ⟨t, p, k⟩ := h1 hX
  exact ⟨_, pss_one p, k⟩
def sE (m : M D) : MS := fun ρ => (m ρ).rs fun _ ρ => .nx ρ
def sRet (m : M D) : MS := fun ρ => (m ρ).rs fun d ρ => .rt d ρ
def sIf (c : M Bool) (a b : MS) : MS := fun ρ => (c ρ).rs fun c ρ => if c then a ρ else b ρ
theorem x_expr {e : Expr} {m : M D} {pos : Pos} (h : EvE F X E G e m) (hs : swapsWith e none pos.line X.env = pure false := by rfl) : ExS F X E fr n0 G (.Expr e pos) (sE m) G := fun hX => by
  obtain ⟨t, p, k⟩ := h hX
  exact ⟨_, ps_expr p hs, fun w ow ρ σ H Dn hn g h => k w ow ρ σ H _ g (Post.mono (PostS.split h) fun d ow1 ρ1 H1 _ _ _ ⟨g1, x1, h1⟩ v rv => h1 σ H1 ow1 g1 Kp.refl Ext.refl)⟩
theorem x_ret {e : Expr} {m : M D} {pos : Pos} (h : EvE F X E G e m) : ExS F X E false n0 G (.Return (some e) pos) (sRet m) G' := fun hX => by
  obtain ⟨t, p, k⟩ := h hX
  exact ⟨_, ps_ret p, fun w ow ρ σ H Dn hn g h => k w ow ρ σ H _ g (Post.mono (PostS.split h) fun d ow1 ρ1 H1 _ _ _ ⟨g1, x1, h1⟩ v rv => h1 v H1 ow1 σ G g1 Kp.refl Ext.refl rv)⟩
theorem x_if {c : Expr} {a b : List Stmt} {mc : M Bool} {ma mb : MS} {pos : Pos} (hc : EvT F X E G c mc) (ha : ExB F X E fr n0 G a ma G') (hb : ExB F X E fr n0 G b mb G') : ExS F X E fr n0 G (.If c a b pos) (sIf mc ma mb) G' := fun hX => by
  obtain ⟨tc, pc, kc⟩ := hc hX
  obtain ⟨ta, pa, ka⟩ := ha hX
  obtain ⟨tb, pb, kb⟩ := hb hX
  refine ⟨_, ps_if pc pa pb, fun w ow ρ σ H Dn hn g h => kc w ow ρ σ H _ g (Post.mono (PostS.split h) fun c ow1 ρ1 H1 _ _ _ ⟨g1, x1, h1⟩ => ?_)⟩
  cases c with
  | true => exact iteT (ka w ow1 ρ1 σ H1 Dn hn g1 h1)
  | false => exact iteF (kb w ow1 ρ1 σ H1 Dn hn g1 h1)
/-- slot i's own things are let go -/
def unOwn (ow : Own) (i : Nat) : Own := fun b => if ow b = some i then none else ow b
theorem unOwn_some {i j : Nat} {b : Addr} (h : unOwn ow i b = some j) : ow b = some j ∧ j ≠ i := by
  unfold unOwn at h
  split at h
  · cases h
  · rename_i q
    exact ⟨h, fun e => q (by rw [h, e])⟩
theorem unOwn_of {i j : Nat} {b : Addr} (h : ow b = some j) (n : j ≠ i) : unOwn ow i b = some j := by
  unfold unOwn
  rw [if_neg (by rw [h]; intro e; cases e; exact n rfl)]
  exact h
theorem av_unOwn {i : Nat} {b : Addr} (h : Av w (unOwn ow i) b) : Av w ow b := h.elim .inl fun ⟨j, e⟩ => .inr ⟨j, (unOwn_some e).1⟩
theorem ext_unOwn {i : Nat} : Ext (Av w ow) (Av w (unOwn ow i)) H H := ⟨fun _ _ h _ _ => h, fun _ h => .inl (av_unOwn h), fun _ h => h⟩
theorem getD_set_ne {α : Type} {l : List α} {i j : Nat} {x d : α} (h : i ≠ j) : (l.set i x).getD j d = l.getD j d := by
  rw [List.getD_eq_getElem?_getD, List.getD_eq_getElem?_getD, List.getElem?_set_ne h]
theorem getD_set_eq {α : Type} {l : List α} {i : Nat} {x d : α} (h : i < l.length) : (l.set i x).getD i d = x := by
  rw [List.getD_eq_getElem?_getD, List.getElem?_set_self h]
  rfl
/-- slot i takes a datum -/
theorem Gd.setV {i : Nat} {d : D} {v : V} (g : Gd F w ow G ρ σ H) (hi : i + 1 ≠ w.n0) (r : Rp F H (Av w ow) d v) : Gd F w (unOwn ow i) (G.set i .va) (ρ.set i d) (σ.set i (some v)) H where
  len := by simp [g.len.1, g.len.2]; exact g.len.1 ▸ g.len.2
  same := g.same
  dom := g.dom
  trk := fun b h => g.trk b (av_unOwn h)
  wr := fun b j h => g.wr b j (unOwn_some h).1
  tabs := g.tabs
  io := fun j hj => by rw [List.getElem?_set_ne (by omega)]; exact g.io j hj
  slot := fun j k e => by
    by_cases hj : i = j
    · subst hj
      have hl : i < G.length := by
        have := (List.getElem?_eq_some_iff.mp e).1
        simpa using this
      rw [List.getElem?_set_self hl] at e
      cases e
      rw [getD_set_eq (by rw [← g.len.1]; exact hl), List.getElem?_set_self (by rw [← g.len.2]; exact hl)]
      exact ⟨v, rfl, r.le fun b h => av_unOwn h⟩
    · rw [List.getElem?_set_ne hj] at e
      rw [getD_set_ne hj, List.getElem?_set_ne hj]
      have h := g.slot j k e
      cases k with
      | un => trivial
      | va =>
        obtain ⟨u, e1, r1⟩ := h
        exact ⟨u, e1, r1.le fun b h => av_unOwn h⟩
      | ow =>
        obtain ⟨a, e1, o1, r1⟩ := h
        exact ⟨a, e1, unOwn_of o1 (fun z => hj z.symm), r1.le fun b h => av_unOwn h⟩
/-- slot i takes an own thing -/
def toOwn (ow : Own) (i : Nat) (a : Addr) : Own := fun b => if b = a then some i else unOwn ow i b
theorem av_toOwn {i : Nat} {a b : Addr} (h : Av w (toOwn ow i a) b) : Av w ow b ∨ b = a := by
  rcases h with h | ⟨j, h⟩
  · exact .inl (.inl h)
  · unfold toOwn at h
    split at h
    · rename_i q; exact .inr q
    · exact .inl (av_unOwn (.inr ⟨j, h⟩))
def Wd.plus (w : Wd) (a : Addr) : Wd := { w with oc := fun b => w.oc b ∨ b = a }
theorem av_plus {a b : Addr} : Av (w.plus a) ow b ↔ Av w ow b ∨ b = a := by
  constructor
  · rintro ((h | h) | h)
    · exact .inl (.inl h)
    · exact .inr h
    · exact .inl (.inr h)
  · rintro ((h | h) | h)
    · exact .inl (.inl h)
    · exact .inr h
    · exact .inl (.inr h)
/-- the new thing at a is avoided by all -/
theorem Gd.plus {a : Addr} {H' : Hp} (g : Gd F w ow G ρ σ H) (gr : Grow H H') (ha : H a = none) (hb : H' a ≠ none) : Gd F (w.plus a) ow G ρ σ H' := by
  have g' := g.grow gr
  have na : ¬ Av w ow a := fun z => g.trk a z ha
  have ex : Ext (Av w ow) (Av (w.plus a) ow) H H' := ⟨gr.ext.keep, fun b h => (av_plus.mp h).elim .inl fun e => .inr (by rw [e]; exact ha), gr.ext.there (av := Av w ow)⟩
  refine ⟨g'.len, g'.same, g'.dom, fun b h => (av_plus.mp h).elim (g'.trk b) fun e => by rw [e]; exact hb, fun b i h => ⟨fun z => z.elim (g.wr b i h).1 fun e => na (by rw [← e]; exact .inr ⟨i, h⟩), (g.wr b i h).2⟩, g'.tabs, g'.io, fun i k e => ?_⟩
  have h := g.slot i k e
  cases k with
  | un => trivial
  | va =>
    obtain ⟨v, e1, r⟩ := h
    exact ⟨v, e1, Rp.ext ex _ _ r⟩
  | ow =>
    obtain ⟨b, e1, o1, r⟩ := h
    refine ⟨b, e1, o1, r.ext ex ?_⟩
    cases q : H b with
    | none => exact (g.trk b (.inr ⟨i, o1⟩) q).elim
    | some u => exact gr b u q
theorem Gd.minus {a : Addr} (g : Gd F (w.plus a) ow G ρ σ H) : Gd F w ow G ρ σ H := by
  have le : ∀ b, Av w ow b → Av (w.plus a) ow b := fun b h => av_plus.mpr (.inl h)
  refine ⟨g.len, g.same, g.dom, fun b h => g.trk b (le b h), fun b i h => ⟨fun z => (g.wr b i h).1 (.inl z), (g.wr b i h).2⟩, g.tabs, g.io, fun i k e => ?_⟩
  have h := g.slot i k e
  cases k with
  | un => trivial
  | va =>
    obtain ⟨v, e1, r⟩ := h
    exact ⟨v, e1, r.le le⟩
  | ow =>
    obtain ⟨b, e1, o1, r⟩ := h
    exact ⟨b, e1, o1, r.le le⟩
theorem Gd.setO {i : Nat} {d : D} {a : Addr} (g : Gd F (w.plus a) ow G ρ σ H) (hi : i + 1 ≠ w.n0) (na : ¬ w.oc a) (h0 : w.H0 a = none) (r : OwRp F H (Av (w.plus a) ow) d a) : Gd F w (toOwn ow i a) (G.set i .ow) (ρ.set i d) (σ.set i (some (.ref a))) H where
  len := by simp [g.len.1, g.len.2]; exact g.len.1 ▸ g.len.2
  same := g.same
  dom := g.dom
  trk := fun b h => g.trk b (av_plus.mpr (av_toOwn h))
  wr := fun b j h => by
    unfold toOwn at h
    split at h
    · rename_i q
      cases h
      subst q
      exact ⟨na, .inr h0⟩
    · have z := g.wr b j (unOwn_some h).1
      exact ⟨fun q => z.1 (.inl q), z.2⟩
  tabs := g.tabs
  io := fun j hj => by rw [List.getElem?_set_ne (by omega)]; exact g.io j hj
  slot := fun j k e => by
    by_cases hj : i = j
    · subst hj
      have hl : i < G.length := by
        have := (List.getElem?_eq_some_iff.mp e).1
        simpa using this
      rw [List.getElem?_set_self hl] at e
      cases e
      rw [getD_set_eq (by rw [← g.len.1]; exact hl), List.getElem?_set_self (by rw [← g.len.2]; exact hl)]
      exact ⟨a, rfl, by unfold toOwn; rw [if_pos rfl], r.le fun b h => av_plus.mpr (av_toOwn h)⟩
    · rw [List.getElem?_set_ne hj] at e
      rw [getD_set_ne hj, List.getElem?_set_ne hj]
      have h := g.slot j k e
      cases k with
      | un => trivial
      | va =>
        obtain ⟨u, e1, r1⟩ := h
        exact ⟨u, e1, r1.le fun b h => av_plus.mpr (av_toOwn h)⟩
      | ow =>
        obtain ⟨b, e1, o1, r1⟩ := h
        refine ⟨b, e1, ?_, r1.le fun b h => av_plus.mpr (av_toOwn h)⟩
        unfold toOwn
        rw [if_neg (fun z => (g.wr b j o1).1 (.inr z))]
        exact unOwn_of o1 (fun z => hj z.symm)
/-- slot i's own thing is an ordinary one from here on -/
theorem Gd.freeze {i : Nat} (g : Gd F w ow G ρ σ H) (hi : i + 1 ≠ w.n0) (hk : G[i]? = some .ow) : Gd F w (unOwn ow i) (G.set i .va) ρ σ H where
  len := by simp [g.len.1, g.len.2]; exact g.len.1 ▸ g.len.2
  same := g.same
  dom := g.dom
  trk := fun b h => g.trk b (av_unOwn h)
  wr := fun b j h => g.wr b j (unOwn_some h).1
  tabs := g.tabs
  io := fun j hj => by rw [List.getElem?_set_ne (by omega)]; exact g.io j hj
  slot := fun j k e => by
    by_cases hj : i = j
    · subst hj
      have hl : i < G.length := (List.getElem?_eq_some_iff.mp hk).1
      rw [List.getElem?_set_self hl] at e
      cases e
      obtain ⟨a, e1, o1, r1⟩ := g.slot i _ hk
      refine ⟨.ref a, e1, (r1.le fun b h => av_unOwn h).rp fun z => ?_⟩
      rcases z with z | ⟨j, z⟩
      · exact (g.wr a i o1).1 z
      · obtain ⟨z1, z2⟩ := unOwn_some z
        rw [o1] at z1; cases z1
        exact z2 rfl
    · rw [List.getElem?_set_ne hj] at e
      have h := g.slot j k e
      cases k with
      | un => trivial
      | va =>
        obtain ⟨u, e1, r1⟩ := h
        exact ⟨u, e1, r1.le fun b h => av_unOwn h⟩
      | ow =>
        obtain ⟨a, e1, o1, r1⟩ := h
        exact ⟨a, e1, unOwn_of o1 (fun z => hj z.symm), r1.le fun b h => av_unOwn h⟩
/-- less is known -/
theorem Gd.weak {G' : List Knd} (g : Gd F w ow G ρ σ H) (hl : G'.length = G.length) (hw : ∀ (i : Nat) (k : Knd), G'[i]? = some k → k = Knd.un ∨ G[i]? = some k) (hi : ∀ i : Nat, i + 1 = w.n0 → G'[i]? = some Knd.ow) : Gd F w ow G' ρ σ H where
  len := by rw [hl]; exact g.len
  same := g.same
  dom := g.dom
  trk := g.trk
  wr := g.wr
  tabs := g.tabs
  io := hi
  slot := fun j k e => by
    rcases hw j k e with h | h
    · subst h; trivial
    · exact g.slot j k h

def PostN (F : Fx) (w : Wd) (ow : Own) (E : XK) (G : List Knd) (σ : L2.St) (H : Hp) (r : R D) (Q : VK) : Prop :=
  match r with
  | .ok d ρ' => ∀ H' ow' a, Gd F (w.plus a) ow' G ρ' σ H' → Ext (Av w ow) (Av (w.plus a) ow') H H' → H a = none → OwRp F H' (Av (w.plus a) ow') d a → Q (.ref a) H'
  | .ex e ρ' => ∀ H' ow' C dx, Gd F w ow' G ρ' σ H' → Ext (Av w ow) (Av w ow') H H' → ExIs F H' (Av w ow') e C dx → E (.ref C) dx H'
  | .bad => False
def EvN (F : Fx) (X : Cx) (E : XK) (G : List Knd) (e : Expr) (m : M D) : Prop :=
  Fits F X → ∃ t, PE X e t ∧ ∀ w ow ρ σ H Q, Gd F w ow G ρ σ H → PostN F w ow E G σ H (m ρ) Q → t σ H Q
theorem Gd.notOwn {a : Addr} (g : Gd F (w.plus a) ow G ρ σ H) (h : ¬ w.oc a) : ¬ Av w ow a := fun z => z.elim h fun ⟨i, q⟩ => (g.wr a i q).1 (.inr rfl)
theorem ext_minus {a : Addr} {H' : Hp} {ow' : Own} (x : Ext (Av w ow) (Av (w.plus a) ow') H H') : Ext (Av w ow) (Av w ow') H H' := ⟨x.keep, fun b h => x.av b (av_plus.mpr (.inl h)), x.there⟩
theorem Post.toN {r : R D} {Q : VK} (g : Gd F w ow G ρ σ H) (h : Post F w ow E G σ H r (fun d ow' _ H' => ∀ v, Rp F H' (Av w ow') d v → Q v H')) : PostN F w ow E G σ H r Q := by
  cases r with
  | ok d ρ' =>
    intro H' ow' a g' x ha o
    exact h H' ow' g'.minus (ext_minus x) _ ((o.le fun b h => av_plus.mpr (.inl h)).rp (g'.notOwn fun z => g.trk a (.inl z) ha))
  | ex e ρ' => exact h
  | bad => exact h
theorem EvN.e {e : Expr} {m : M D} (h : EvN F X E G e m) : EvE F X E G e m := fun hX => by
  obtain ⟨t, p, k⟩ := h hX
  exact ⟨t, p, fun w ow ρ σ H Q g q => k w ow ρ σ H Q g (Post.toN g q)⟩
/-- the last step of making a new thing: all else was told ahead -/
theorem PostN.fin {d : D} {Q : VK} {H1 : Hp} {ow1 : Own} {a : Addr} {H' : Hp} (g1 : Gd F w ow1 G ρ σ H1) (x1 : Ext (Av w ow) (Av w ow1) H H1) (gr : Grow H1 H') (ha : H1 a = none) (hb : H' a ≠ none)
    (h : ∀ H' ow' a, Gd F (w.plus a) ow' G ρ σ H' → Ext (Av w ow) (Av (w.plus a) ow') H H' → H a = none → OwRp F H' (Av (w.plus a) ow') d a → Q (.ref a) H') (o : OwRp F H' (Av (w.plus a) ow1) d a) : Q (.ref a) H' :=
  h H' ow1 a (g1.plus gr ha hb) (x1.trans ⟨gr.ext.keep, fun b z => (av_plus.mp z).elim .inl fun e => .inr (by rw [e]; exact ha), gr.ext.there (av := Av w ow1)⟩) (x1.there a ha) o
theorem OwRp.newL {ds : List D} {vs : List V} {p : Addr} (hp : H p = none) (r : RpL F H (Av w ow) ds vs) : OwRp F (upd H p (.lst vs)) (Av (w.plus p) ow) (.lst ds) p :=
  ⟨vs, upd_same, RpL.ext ⟨(Grow.upd hp).ext.keep, fun b z => (av_plus.mp z).elim .inl fun e => .inr (by rw [e]; exact hp), (Grow.upd hp).ext.there (av := Av w ow)⟩ ds vs r⟩
theorem PostN.split {r : R α} {k : α → List D → R D} {Q : VK} (h : PostN F w ow E G σ H (r.bind k) Q) :
    Post F w ow E G σ H r (fun a ow1 ρ1 H1 => Gd F w ow1 G ρ1 σ H1 ∧ Ext (Av w ow) (Av w ow1) H H1 ∧ (∀ d ρ2, k a ρ1 = .ok d ρ2 → ∀ H' ow' a, Gd F (w.plus a) ow' G ρ2 σ H' → Ext (Av w ow) (Av (w.plus a) ow') H H' → H a = none → OwRp F H' (Av (w.plus a) ow') d a → Q (.ref a) H') ∧ (k a ρ1 = .bad → False)) := by
  cases r with
  | ok a ρ1 =>
    intro H1 ow1 g1 x1
    refine ⟨g1, x1, fun d ρ2 e => ?_, fun e => ?_⟩
    · have h' : PostN F w ow E G σ H (k a ρ1) Q := h
      rw [e] at h'
      exact h'
    · have h' : PostN F w ow E G σ H (k a ρ1) Q := h
      rw [e] at h'
      exact h'
  | ex e ρ' => exact h
  | bad => exact h
theorem en_lst {es : List Expr} {ms : M (List OV)} {pos : Pos} (h : EvA F X E G es ms) : EvN F X E G (.List es pos) (mLst ms) := fun hX => by
  obtain ⟨t, p, k⟩ := h hX
  refine ⟨_, pe_lst p, fun w ow ρ σ H Q g h => k w ow ρ σ H _ g (Post.mono (PostN.split h) fun os ow1 ρ1 H1 _ _ _ ⟨g1, x1, h1, h2⟩ vs rv => ?_)⟩
  cases e1 : valsOf os with
  | none => exact (h2 (by rw [e1]; rfl)).elim
  | some ds =>
    by_cases hz : ds.length ≤ SZ
    · have r := vals_rp rv e1
      have h3 := h1 (.lst ds) ρ1 (by rw [e1, Option.bind_some, if_pos hz]; rfl)
      exact ⟨by rw [← r.length, ← SZ_eq]; exact hz, fun a ha => PostN.fin g1 x1 (Grow.upd ha) ha (by rw [upd_same]; simp) h3 (OwRp.newL ha r)⟩
    · exact (h2 (by rw [e1, Option.bind_some, if_neg hz]; rfl)).elim
def sSet (i : Nat) (m : M D) : MS := fun ρ => (m ρ).rs fun d ρ => .nx (ρ.set i d)
theorem kp_set {i : Nat} {v : Option V} (h : i + 1 ≠ w.n0) : Kp w σ (σ.set i v) := fun j hj => by rw [List.getElem?_set_ne (by omega)]
theorem x_set {i : Nat} {x : Str} {e : Expr} {m : M D} {pos pos' : Pos} (hN : X.N.Nodup) (hi : X.N[i]? = some x) (hx : Loc X.env.scope x) (h : EvE F X E G e m) (hn : i + 1 ≠ n0) (hs : swapsWith e (some (.Name x pos')) pos.line X.env = pure false := by rfl)
    (hf : X.fn x = true ∨ X.env.scope.names.lookup x = some .local := by first | exact .inl rfl | exact .inr rfl) : ExS F X E fr n0 G (.Assign [.Name x pos'] e pos) (sSet i m) (G.set i .va) := fun hX => by
  obtain ⟨t, p, k⟩ := h hX
  exact ⟨_, ps_set hN hi hx p hs hf, fun w ow ρ σ H Dn hw g h => k w ow ρ σ H _ g (Post.mono (PostS.split h) fun d ow1 ρ1 H1 _ _ _ ⟨g1, x1, h1⟩ v rv => h1 _ H1 _ (g1.setV (by omega) rv) (kp_set (by omega)) ext_unOwn)⟩
theorem PostS.splitN {r : R D} {i : Nat} {Dn : Ends} {G' : List Knd} (g : Gd F w ow G ρ σ H) (hi : i + 1 ≠ w.n0) (h : PostS F w ow E fr (G.set i .ow) σ H (r.rs fun d ρ => .nx (ρ.set i d)) Dn) :
    PostN F w ow E G σ H r (fun v H' => Dn.nx (σ.set i (some v)) H') := by
  cases r with
  | ok d ρ' =>
    intro H' ow' a g' x ha o
    have na : ¬ w.oc a := fun z => g.trk a (.inl z) ha
    exact h _ H' _ (g'.setO hi na (g.dom a ha) o) (kp_set hi) ⟨x.keep, fun b z => x.av b (av_plus.mpr (av_toOwn z)), x.there⟩
  | ex e ρ' => exact fun H' ow' C dx g' x q => h H' ow' σ G C dx g' Kp.refl x q
  | bad => exact h
theorem x_setN {i : Nat} {x : Str} {e : Expr} {m : M D} {pos pos' : Pos} (hN : X.N.Nodup) (hi : X.N[i]? = some x) (hx : Loc X.env.scope x) (h : EvN F X E G e m) (hn : i + 1 ≠ n0) (hs : swapsWith e (some (.Name x pos')) pos.line X.env = pure false := by rfl)
    (hf : X.fn x = true ∨ X.env.scope.names.lookup x = some .local := by first | exact .inl rfl | exact .inr rfl) : ExS F X E fr n0 G (.Assign [.Name x pos'] e pos) (sSet i m) (G.set i .ow) := fun hX => by
  obtain ⟨t, p, k⟩ := h hX
  exact ⟨_, ps_set hN hi hx p hs hf, fun w ow ρ σ H Dn hw g h => k w ow ρ σ H _ g (PostS.splitN (G' := G) g (by omega) h)⟩
/-- return of a new thing -/
theorem x_retN {e : Expr} {m : M D} {pos : Pos} (h : EvN F X E G e m) : ExS F X E true n0 G (.Return (some e) pos) (sRet m) G' := fun hX => by
  obtain ⟨t, p, k⟩ := h hX
  refine ⟨_, ps_ret p, fun w ow ρ σ H Dn hn g h => k w ow ρ σ H _ g ?_⟩
  have h' : PostS F w ow E true G' σ H ((m ρ).rs fun d ρ => .rt d ρ) Dn := h
  cases e : m ρ with
  | ok d ρ' =>
    rw [e] at h'
    intro H' ow' a g' x ha o
    exact h' (.ref a) H' ow' σ G g'.minus Kp.refl (ext_minus x) ⟨a, rfl, g.dom a ha, fun z => g.trk a (.inl z) ha, g'.trk a (av_plus.mpr (.inr rfl)), o.le fun b q => av_plus.mpr q⟩
  | ex e ρ' =>
    rw [e] at h'
    exact fun H' ow' C dx g' x q => h' H' ow' σ G C dx g' Kp.refl x q
  | bad =>
    rw [e] at h'
    exact h'
/-- return of an own slot -/
def sRetO (i : Nat) : MS := fun ρ => .rt (ρ.getD i .non) ρ
theorem x_retO (i : Nat) {x : Str} {p pos : Pos} (hk : G[i]? = some .ow) (hi : i + 1 ≠ n0) (hN : X.N[i]? = some x := by rfl) (hv : Vis X.env.scope x := by first | exact Or.inl rfl | exact Or.inr (Or.inl rfl) | exact Or.inr (Or.inr rfl)) (hd : (x == ("__debug__" : Str)) = false := by decide)
    (hcd : (x == ("__classdict__" : Str)) = false := by decide) : ExS F X E true n0 G (.Return (some (.Name x p)) pos) (sRetO i) G' := fun hX => by
  refine ⟨_, ps_ret (pe_var (i := i) hN hv hd hcd), fun w ow ρ σ H Dn hn g h => ?_⟩
  obtain ⟨a, e1, o1, r1⟩ := g.slot i _ hk
  have z := g.wr a i o1
  refine ⟨.ref a, e1, h (.ref a) H ow σ G g Kp.refl Ext.refl ⟨a, rfl, z.2.elim (fun q => by omega) id, z.1, g.trk a (.inr ⟨i, o1⟩), r1.le fun b q => q.elim id fun q => ?_⟩⟩
  rw [q]
  exact .inr ⟨i, o1⟩
/-- slot i is let go, ahead of a statement -/
theorem x_freeze {st : Stmt} {ms : MS} (i : Nat) (hk : G[i]? = some .ow) (hi : i + 1 ≠ n0) (h : ExS F X E fr n0 (G.set i .va) st ms G') : ExS F X E fr n0 G st ms G' := fun hX => by
  obtain ⟨t, p, k⟩ := h hX
  exact ⟨t, p, fun w ow ρ σ H Dn hn g h => k w _ ρ σ H Dn hn (g.freeze (by omega) hk) (PostS.shift h Kp.refl ext_unOwn)⟩
theorem b_freeze {st : List Stmt} {ms : MS} (i : Nat) (hk : G[i]? = some .ow) (hi : i + 1 ≠ n0) (h : ExB F X E fr n0 (G.set i .va) st ms G') : ExB F X E fr n0 G st ms G' := fun hX => by
  obtain ⟨t, p, k⟩ := h hX
  exact ⟨t, p, fun w ow ρ σ H Dn hn g h => k w _ ρ σ H Dn hn (g.freeze (by omega) hk) (PostS.shift h Kp.refl ext_unOwn)⟩
end
end Hs

namespace Hs
open PySem PySem.Spec PyProof.Rows L2

/-- a list (true) or a tuple (false) -/
def SqK (K : PySem.W.Frag) (k : Bool) (H : Hp) (a : Addr) (xs : List V) : Prop := match k with
  | true => SqL K H a xs
  | false => SqT K H a xs
def drIs (k : Bool) (h : Heap) (it a : Addr) (i : Nat) : Prop := match k with
  | true => h.IsListIter it a i
  | false => h.IsTupleIter it a i
def sqIs (k : Bool) (h : Heap) (a : Addr) (its : Array Value) : Prop := match k with
  | true => h.IsList a its
  | false => h.IsTuple a its
def drO (k : Bool) (a : Addr) : Obj := match k with
  | true => { cls := .type "list_iterator", data := .fields #[.ref a, .int 0 0] }
  | false => { cls := .type "tuple_iterator", data := .fields #[.ref a, .int 0 0] }
theorem drO_free {k : Bool} {a : Addr} : (drO k a).isFreed = false := by cases k <;> rfl
theorem drO_is {k : Bool} {h : Heap} {it a : Addr} (e : h.get? it = some (drO k a)) : drIs k h it a 0 := by
  cases k
  · exact ⟨_, e, rfl, rfl⟩
  · exact ⟨_, e, rfl, rfl⟩
theorem drIs.obj {k : Bool} {h : Heap} {it a : Addr} {i : Nat} (e : drIs k h it a i) : ∃ o, h.get? it = some o ∧ ∀ v, o.data ≠ .cell v := by
  cases k
  · obtain ⟨o, ho, hc, hd⟩ := e; exact ⟨o, ho, fun v q => by rw [hd] at q; cases q⟩
  · obtain ⟨o, ho, hc, hd⟩ := e; exact ⟨o, ho, fun v q => by rw [hd] at q; cases q⟩
theorem drIs.at {k : Bool} {h h' : Heap} {it a : Addr} {i : Nat} (e : drIs k h it a i) (kp : ∀ o, h.get? it = some o → h'.get? it = some o) : drIs k h' it a i := by
  cases k
  · exact Heap.IsTupleIter.at e kp
  · exact Heap.IsListIter.at e kp
theorem drawsK {prog : Program} {w : World} {A : Around} (hh : A.handled = none) (k : Bool) (it a : Addr) (hne : a ≠ it) (items : Array Value) :
    Draws prog w A it [it, a] items.size (fun i v => items[i]? = some v) (fun i h => drIs k h it a i ∧ sqIs k h a items) := by
  cases k
  · exact Draws.tuple hh it a hne items
  · exact Draws.list hh it a hne items
theorem beginsK (k : Bool) (a : Addr) (items : Array Value) : Begins (.ref a) (drO k a) fun h => sqIs k h a items := by
  cases k
  · exact begins_tuple a items
  · exact begins_list a items
section
variable {X : Cx} {pins : List (Addr × Obj)} {σ : L2.St} {H : Hp} {s : Shared}
theorem sqK_get {k : Bool} {a : Addr} {xs : List V} (I : Inv X pins σ H s) (h : SqK X.K k H a xs) : ∃ its : List Value, Vals xs its ∧ sqIs k s.heap a its.toArray ∧ a < s.heap.objs.size := by
  cases k
  · obtain ⟨its, rv, p, _⟩ := I.tuple (show SqT X.K H a xs from h)
    obtain ⟨o, e, r⟩ := id p
    exact ⟨its, rv, p, Heap.lt_size e⟩
  · obtain ⟨its, rv, p, _⟩ := I.list (show SqL X.K H a xs from h)
    exact ⟨its, rv, p.isList, p.lt⟩
theorem sqK_inj {k : Bool} {a : Addr} {xs ys : List V} (I : Inv X pins σ H s) (h : SqK X.K k H a xs) (h' : SqK X.K k H a ys) : xs = ys := by
  cases k
  · exact I.tuple_inj h h'
  · exact I.list_inj h h'
end
def Iten (K : PySem.W.Frag) (k : Bool) (a : Addr) : It :=
  ⟨fun i H => ∃ (xs : List V) (x : V), SqK K k H a xs ∧ xs[i]? = some x, fun i H v H' => ∃ T x, v = .ref T ∧ H T = none ∧ H' = upd H T (.tup [.int (i : Nat), x]) ∧ ∀ xs, SqK K k H a xs → xs[i]? = some x, fun i H => ∃ xs : List V, SqK K k H a xs ∧ xs.length = i⟩
theorem turn_enumK {P : Program} {w : World} {K : PySem.W.Frag} {elts : List Expr} {kk : Nat} {tpos : Pos} (k : Bool) (a e it : Addr) :
    Turn P w K (.Tuple elts kk tpos) (Iten K k a) [e, it] e (fun i h => (∃ old, IsEnum h e it ((i : Nat) : Int) old) ∧ drIs k h it a i ∧ e ≠ it ∧ a ≠ it ∧ e ≠ a) where
  mem := by simp
  obj := fun i h st b hb => by
    obtain ⟨⟨old, he⟩, hi, _⟩ := st
    have e' : b = e ∨ b = it := by simpa using hb
    rcases e' with z | z
    · rw [z]; exact ⟨_, he, fun v q => nomatch q⟩
    · rw [z]; exact hi.obj
  keep := fun i h h' st kp => let ⟨⟨old, he⟩, hi, hne⟩ := st; ⟨⟨old, kp e (by simp) _ he⟩, hi.at fun o q => kp it (by simp) o q, hne⟩
  item := by
    intro X hP hw hK hc i pins s σ H E I hf st hg
    subst hP hw hK
    obtain ⟨⟨old, he⟩, hit, hne, hai, hea⟩ := st
    obtain ⟨xs, x, hq, hx⟩ := hg
    obtain ⟨its, rv, p, hlt⟩ := sqK_get I hq
    obtain ⟨u, hu, ru⟩ := rv.get hx
    have hel : e < s.heap.objs.size := Heap.lt_size he
    have hil : it < s.heap.objs.size := by obtain ⟨_, q, _⟩ := hit.obj; exact Heap.lt_size q
    have hi : i < its.toArray.size := by
      have := (List.getElem?_eq_some_iff.mp hu).1
      simpa using this
    refine wpAny_pyNext_enum_itemD (drawsK (by exact I.ok.hd hc) k it a hai its.toArray) he ⟨hit, p⟩ hi hne (by simp; exact ⟨hne, hea⟩) fun x' h' tk hP ho hs' hT hsz hk => ?_
    obtain rfl : x' = u := by
      have q : its.toArray[i]? = some x' := hP
      simp only [List.getElem?_toArray] at q
      rw [hu] at q; cases q; rfl
    refine ⟨_, rfl, wpAny_letOwnedTupleGo_enum (s := { s with heap := h', toks := tk + 1 }) ho fun h'' he' sb => ?_⟩
    have hT2 : h''.get? s.heap.objs.size = some { cls := .type "tuple", data := .seq #[.int i tk, x'] } := (sb.2 _ (Nat.ne_of_gt hel)).trans hT
    have new : ObjOk X.prog X.w (upd H s.heap.objs.size (.tup [.int (i : Nat), x])) h'' s.heap.objs.size (.tup [.int (i : Nat), x]) :=
      ⟨by show 2 ≤ sizeLine; decide, [.int i tk, x'], .cons ⟨_, rfl⟩ (.cons ru .nil), ⟨_, hT2, rfl, _, rfl⟩⟩
    have I1 : Inv X pins σ (upd H s.heap.objs.size (.tup [.int (i : Nat), x])) { s with heap := h'', toks := tk + 1 } :=
      I.turnedNew (ch := [e, it]) (fun b ob hb q => (sb.2 b (fun z => hb (by simp [z]))).trans (hk b ob (fun z => hb (by simp [z])) (fun z => hb (by simp [z])) q)) hf (Nat.le_refl _) new
    refine ⟨.ref s.heap.objs.size, _, I1, rfl, ⟨_, x, rfl, I.hok.fresh (Nat.le_refl _), rfl, fun ys hy => by rw [sqK_inj I hy hq]; exact hx⟩, ⟨⟨x', ?_⟩, hs'.1.at fun o q => (sb.2 it (Ne.symm hne)).trans q, hne, hai, hea⟩, fun b hb => ?_⟩
    · have e1 : ((i + 1 : Nat) : Int) = (i : Int) + 1 := by omega
      rw [e1]; exact he'
    · have hb' : b < s.heap.objs.size := by
        have e' : b = e ∨ b = it := by simpa using hb
        rcases e' with z | z
        · rw [z]; exact hel
        · rw [z]; exact hil
      rw [upd_ne (Nat.ne_of_lt hb')]
      exact (hf b hb).1
  done := by
    intro X hP hw hK hc i pins s σ H E I hf st hg
    subst hP hw hK
    obtain ⟨⟨old, he⟩, hit, hne, hai, hea⟩ := st
    obtain ⟨xs, hq, hx⟩ := hg
    obtain ⟨its, rv, p, _⟩ := sqK_get I hq
    obtain ⟨f0, f1, f2, f3, f4, f5⟩ := hf it (by simp)
    have hl : its.toArray.size = i := by rw [← hx, rv.length]; simp
    exact wpAny_pyNext_enum_endD (drawsK (by exact I.ok.hd hc) k it a hai its.toArray) he (by rw [hl]; exact ⟨hit, p⟩) fun h' eb => ⟨rfl, I.turned (t' := s.toks) (fun b o hb q => eb b o hb q) f0 f1 f3 f4 f5⟩
  self := fun A i s Q E st h => let ⟨⟨_, he⟩, _⟩ := st; wpAny_pyIter_enum he h
set_option maxHeartbeats 1000000 in
theorem meets_enum1 {v : Value} {o : Obj} {Hh : Heap → Prop} (B : Begins v o Hh) :
    Meets (Builtin.«enumerate.__new__» ⟨[.type "enumerate", v], []⟩) (fun _ R s => Hh s.heap ∧
      R (.ok (.ret (.ref (s.heap.push o).objs.size))) { s with heap := (s.heap.push o).push { cls := .type "enumerate", data := .fields #[.none, .bool false, .ref s.heap.objs.size, rawInt 0, .none, .none] } }) :=
  .of_wp fun prog w A R s h => by
    obtain ⟨hp, g, d, tk, os⟩ := s; obtain ⟨h1, h⟩ := h
    have hsub := sub_enumerate
    have q1 : ∀ {A' : Around} {E : Value → Shared → Prop} {Q : Value → Shared → Prop}, Q (.ref hp.objs.size) ⟨hp.push o, g, d, tk, os⟩ → wpAny (model prog w) A' (pyIter v) Q E ⟨hp, g, d, tk, os⟩ :=
      fun q => B.iter prog w _ _ ⟨hp, g, d, tk, os⟩ _ h1 q
    wp_walk using q1
    refine wpAny_stack_any fun st => wpAny_pure ?_
    split
    · rename_i c _ _ _ _ _
      cases (c == Value.type "enumerate")
      · wp_walk using q1
        exact ⟨_, rfl, h⟩
      · wp_walk using q1
        exact ⟨_, rfl, h⟩
    · wp_walk using q1
      exact ⟨_, rfl, h⟩
theorem enum_begins1 {prog : Program} {w : World} {A : Around} {E : Value → Shared → Prop} {s : Shared} {v : Value} {o : Obj} {Hh : Heap → Prop} {Q : Value → Shared → Prop} (B : Begins v o Hh) (h1 : Hh s.heap)
    (h : ∀ h', IsEnum h' (s.heap.objs.size + 1) s.heap.objs.size 0 .none → h'.get? s.heap.objs.size = some o → 
      (∀ b o, s.heap.get? b = some o → h'.get? b = some o) → Q (.ref (s.heap.objs.size + 1)) { s with heap := h' }) :
    wpAny (model prog w) A (call (.type "enumerate") [v]) Q E s := by
  refine callType_new F.called_enumerate (by decide) (F.typeCall_enumerate_1 _) (F.newCall_enumerate_1 _) (fun obj => F.args_object_init_2 obj _) F.entry_enumerate_new
    (meets_enum1 B) ⟨h1, ?_⟩
  have hz : (s.heap.push o).objs.size = s.heap.objs.size + 1 := Heap.size_push ..
  show _ ∧ _
  rw [hz]
  have he : IsEnum ((s.heap.push o).push { cls := .type "enumerate", data := .fields #[.none, .bool false, .ref s.heap.objs.size, rawInt 0, .none, .none] }) (s.heap.objs.size + 1) s.heap.objs.size 0 .none := by
    have := Heap.get?_push_size (s.heap.push o) (o := { cls := .type "enumerate", data := .fields #[.none, .bool false, .ref s.heap.objs.size, rawInt 0, .none, .none] }) rfl
    rw [hz] at this; exact this
  exact ⟨⟨_, he, rfl⟩, h _ he (Heap.get?_push_of_some _ (Heap.get?_push_size _ B.free)) fun b o x => Heap.get?_push_of_some _ (Heap.get?_push_of_some _ x)⟩
def iEnumK (K : PySem.W.Frag) (ta : TA) : TI := fun σ H R => ta σ H fun vs H1 => ∃ k a xs, vs = [.ref a] ∧ SqK K k H1 a xs ∧ R (Iten K k a) H1
theorem pi_enumK {X : Cx} {e : Expr} {ta : TA} {p pos tpos : Pos} {elts : List Expr} {kk : Nat} (hg : Gl X "enumerate") (hm : X.mg "enumerate" = none) (ha : PA X [e] ta) (hs : starEach [e] X.env = [(false, eval e X.env)] := by rfl) :
    PI X (.Tuple elts kk tpos) (.Call (.Name "enumerate" p) [e] [] pos) (iEnumK X.K ta) := by
  refine ⟨fun pins s σ H R I h => ?_⟩
  refine Call_ (ld_blt I hg hm boot_enumerate (PyProof.Rows.callWith_type1 (thn (ha.run pos pins s σ H _ I h) fun us s1 ⟨vs, H1, I1, r1, q1⟩ => ?_) hs rfl))
  obtain ⟨k, a, xs, ex, hq, q⟩ := q1
  subst ex
  cases r1 with
  | cons r rr =>
    cases rr
    cases r
    obtain ⟨its, rv, p', hlt⟩ := sqK_get I1 hq
    refine enum_begins1 (beginsK k a its.toArray) p' fun h' he hit hk => wpAny_pyIter_enum he ?_
    have I2 : Inv X pins σ H1 { s1 with heap := h' } := I1.kept (t' := s1.toks) hk
    refine ⟨s1.heap.objs.size + 1, [s1.heap.objs.size + 1, s1.heap.objs.size], _, _, H1, rfl, I2, turn_enumK k a (s1.heap.objs.size + 1) s1.heap.objs.size, ⟨⟨.none, he⟩, drO_is hit, Nat.succ_ne_self _, Nat.ne_of_lt hlt, Nat.ne_of_gt (Nat.lt_succ_of_lt hlt)⟩, fun b hb => ?_, q⟩
    have e' : b = s1.heap.objs.size + 1 ∨ b = s1.heap.objs.size := by simpa using hb
    have hle : s1.heap.objs.size ≤ b := by
      rcases e' with z | z
      · rw [z]; exact Nat.le_add_right _ _
      · rw [z]; exact Nat.le_refl _
    exact I1.fpOk hle (I1.hok.fresh hle)
def Itzi (K : PySem.W.Frag) (k1 k2 : Bool) (a b : Addr) : It :=
  ⟨fun i H => ∃ (xs ys : List V) (x y : V), SqK K k1 H a xs ∧ SqK K k2 H b ys ∧ xs[i]? = some x ∧ ys[i]? = some y,
    fun i H v H' => ∃ T x y, v = .ref T ∧ H T = none ∧ H' = upd H T (.tup [x, y]) ∧ (∀ xs, SqK K k1 H a xs → xs[i]? = some x) ∧ ∀ ys, SqK K k2 H b ys → ys[i]? = some y,
    fun i H => ∃ xs ys : List V, SqK K k1 H a xs ∧ SqK K k2 H b ys ∧ i = min xs.length ys.length⟩
theorem turn_zipK {P : Program} {w : World} {K : PySem.W.Frag} {elts : List Expr} {kk : Nat} {tpos : Pos} (k1 k2 : Bool) {a b z TI TO i1 i2 : Addr} (S : ZipSep2 z TI TO i1 i2 [i1, a] [i2, b]) (hai : a ≠ i1) (hbi : b ≠ i2) :
    Turn P w K (.Tuple elts kk tpos) (Itzi K k1 k2 a b) [z, TI, TO, i1, i2] z (fun i h => IsZip h z TI TO .none ∧ IsTupOf2 h TI (.ref i1) (.ref i2) ∧ (∃ x y, IsTupOf2 h TO x y) ∧ drIs k1 h i1 a i ∧ drIs k2 h i2 b i) where
  mem := by simp
  obj := fun i h st c hc => by
    obtain ⟨hz, hTI, ⟨x, y, hTO⟩, d1, d2⟩ := st
    have e' : c = z ∨ c = TI ∨ c = TO ∨ c = i1 ∨ c = i2 := by simpa using hc
    rcases e' with q | q | q | q | q
    · rw [q]; exact ⟨_, hz, fun v q => nomatch q⟩
    · rw [q]; exact ⟨_, hTI, fun v q => nomatch q⟩
    · rw [q]; exact ⟨_, hTO, fun v q => nomatch q⟩
    · rw [q]; exact d1.obj
    · rw [q]; exact d2.obj
  keep := fun i h h' st kp => by
    obtain ⟨hz, hTI, ⟨x, y, hTO⟩, h1, h2⟩ := st
    exact ⟨kp z (by simp) _ hz, kp TI (by simp) _ hTI, ⟨x, y, kp TO (by simp) _ hTO⟩, h1.at fun o q => kp i1 (by simp) o q, h2.at fun o q => kp i2 (by simp) o q⟩
  item := by
    intro X hP hw hK hc i pins s σ H E I hf st hg
    subst hP hw hK
    obtain ⟨hz, hTI, ⟨x0, y0, hTO⟩, h1, h2⟩ := st
    obtain ⟨xs, ys, x, y, hqx, hqy, hx, hy⟩ := hg
    obtain ⟨its, rv, p, _⟩ := sqK_get I hqx
    obtain ⟨its2, rv2, p2, _⟩ := sqK_get I hqy
    obtain ⟨u, hu, ru⟩ := rv.get hx
    obtain ⟨u2, hu2, ru2⟩ := rv2.get hy
    have hzl : z < s.heap.objs.size := Heap.lt_size hz
    have hi1 : i < its.toArray.size := by
      have := (List.getElem?_eq_some_iff.mp hu).1
      simpa using this
    have hi2 : i < its2.toArray.size := by
      have := (List.getElem?_eq_some_iff.mp hu2).1
      simpa using this
    refine wpAny_pyNext_zipD2_item S (drawsK (by exact I.ok.hd hc) k1 i1 a hai its.toArray) (drawsK (by exact I.ok.hd hc) k2 i2 b hbi its2.toArray) hz hTI hTO ⟨h1, p⟩ ⟨h2, p2⟩ hi1 hi2 fun x1 x2 h' tk q1 q2 z' TO' st1 st2 hT hsz hk => ?_
    obtain rfl : x1 = u := by
      have q : its.toArray[i]? = some x1 := q1
      simp only [List.getElem?_toArray] at q
      rw [hu] at q; cases q; rfl
    obtain rfl : x2 = u2 := by
      have q : its2.toArray[i]? = some x2 := q2
      simp only [List.getElem?_toArray] at q
      rw [hu2] at q; cases q; rfl
    refine ⟨_, rfl, wpAny_letOwnedTupleGo_zip (s := { s with heap := h', toks := tk }) z' fun h'' z'' sb => ?_⟩
    have hT2 : h''.get? s.heap.objs.size = some { cls := .type "tuple", data := .seq #[x1, x2] } := (sb.2 _ (Nat.ne_of_gt hzl)).trans hT
    have new : ObjOk X.prog X.w (upd H s.heap.objs.size (.tup [x, y])) h'' s.heap.objs.size (.tup [x, y]) :=
      ⟨by show 2 ≤ sizeLine; decide, [x1, x2], .cons ru (.cons ru2 .nil), ⟨_, hT2, rfl, _, rfl⟩⟩
    have I1 : Inv X pins σ (upd H s.heap.objs.size (.tup [x, y])) { s with heap := h'', toks := tk } :=
      I.turnedNew (ch := [z, TI, TO, i1, i2]) (fun c o hb q => (sb.2 c (fun q' => hb (by simp [q']))).trans (hk c o (fun q' => hb (by simp [q'])) (fun q' => hb (by simp [q'])) (fun q' => hb (by simp [q'])) (fun q' => hb (by simp [q'])) q)) hf (Nat.le_refl _) new
    refine ⟨.ref s.heap.objs.size, _, I1, rfl, ⟨_, x, y, rfl, I.hok.fresh (Nat.le_refl _), rfl, fun l hl => by rw [sqK_inj I hl hqx]; exact hx, fun l hl => by rw [sqK_inj I hl hqy]; exact hy⟩, ⟨z'', ?_, ⟨x1, x2, ?_⟩, ?_, ?_⟩, fun c hcm => ?_⟩
    · exact (sb.2 _ S.TIz).trans (hk _ _ S.TIz S.TITO S.TIi1 S.TIi2 hTI)
    · exact (sb.2 _ S.TOz).trans TO'
    · exact st1.1.at fun o q => (sb.2 _ (fun e => S.zf1 (by simp [e]))).trans q
    · exact st2.1.at fun o q => (sb.2 _ (fun e => S.zf2 (by simp [e]))).trans q
    · have hlt : c < s.heap.objs.size := by
        have e' : c = z ∨ c = TI ∨ c = TO ∨ c = i1 ∨ c = i2 := by simpa using hcm
        rcases e' with q | q | q | q | q
        · rw [q]; exact hzl
        · rw [q]; exact Heap.lt_size hTI
        · rw [q]; exact Heap.lt_size hTO
        · rw [q]; obtain ⟨_, e1, _⟩ := h1.obj; exact Heap.lt_size e1
        · rw [q]; obtain ⟨_, e2, _⟩ := h2.obj; exact Heap.lt_size e2
      rw [upd_ne (Nat.ne_of_lt hlt)]
      exact (hf c hcm).1
  done := by
    intro X hP hw hK hc i pins s σ H E I hf st hg
    subst hP hw hK
    obtain ⟨hz, hTI, ⟨x0, y0, hTO⟩, h1, h2⟩ := st
    obtain ⟨xs, ys, hqx, hqy, hend⟩ := hg
    obtain ⟨its, rv, p, _⟩ := sqK_get I hqx
    obtain ⟨its2, rv2, p2, _⟩ := sqK_get I hqy
    have l1 : its.toArray.size = xs.length := by rw [rv.length]; simp
    have l2 : its2.toArray.size = ys.length := by rw [rv2.length]; simp
    exact wpAny_pyNext_zipD2_end S (drawsK (by exact I.ok.hd hc) k1 i1 a hai its.toArray) (drawsK (by exact I.ok.hd hc) k2 i2 b hbi its2.toArray) hz hTI hTO ⟨h1, p⟩ ⟨h2, p2⟩ (by omega) (by omega) (by omega) fun h' tk hk => ⟨rfl, I.turnedL (ch := [z, TI, TO, i1, i2]) (fun c o hb q =>
      hk c o (fun q' => hb (by simp [q'])) (fun q' => hb (by simp [q'])) (fun q' => hb (by simp [q'])) (fun q' => hb (by simp [q'])) q) hf⟩
  self := fun A i s Q E st h => wpAny_pyIter_zip st.1 h
def iZipK (K : PySem.W.Frag) (ta : TA) : TI := fun σ H R => ta σ H fun vs H1 => ∃ k1 k2 a b xs ys, vs = [.ref a, .ref b] ∧ SqK K k1 H1 a xs ∧ SqK K k2 H1 b ys ∧ R (Itzi K k1 k2 a b) H1
theorem pi_zipK {X : Cx} {e e2 : Expr} {ta : TA} {p pos tpos : Pos} {elts : List Expr} {kk : Nat} (hg : Gl X "zip") (hm : X.mg "zip" = none) (ha : PA X [e, e2] ta)
    (hs : starEach [e, e2] X.env = (false, eval e X.env) :: starEach [e2] X.env := by rfl) (hpl : (backTo pos (starEach [e2] X.env)).any (·.1) = false := by rfl) :
    PI X (.Tuple elts kk tpos) (.Call (.Name "zip" p) [e, e2] [] pos) (iZipK X.K ta) := by
  refine ⟨fun pins s σ H R I h => ?_⟩
  refine Call_ (ld_blt I hg hm PyProof.Rows.boot_zip (PyProof.Rows.callWith_type1 (thn (ha.run pos pins s σ H _ I h) fun us s1 ⟨vs, H1, I1, r1, q1⟩ => ?_) hs hpl))
  obtain ⟨k1, k2, a, b, xs, ys, ex, hqx, hqy, q⟩ := q1
  subst ex
  cases r1 with
  | cons r rr =>
    cases rr with
    | cons r' rr =>
      cases rr
      cases r
      cases r'
      obtain ⟨its, rv, p1, la⟩ := sqK_get I1 hqx
      obtain ⟨its2, rv2, p2, lb⟩ := sqK_get I1 hqy
      refine zip_begins2 (beginsK k1 a its.toArray) (beginsK k2 b its2.toArray) p1 p2 fun h' hz hTI hTO h1 h2 hsz hk => wpAny_pyIter_zip hz ?_
      have I2 : Inv X pins σ H1 { s1 with heap := h' } := I1.kept (t' := s1.toks) hk
      have la' : ∀ c ∈ [a], c < s1.heap.objs.size := fun c hc => by
        obtain rfl : c = a := by simpa using hc
        exact la
      have lb' : ∀ c ∈ [b], c < s1.heap.objs.size := fun c hc => by
        obtain rfl : c = b := by simpa using hc
        exact lb
      refine ⟨s1.heap.objs.size + 4, [s1.heap.objs.size + 4, s1.heap.objs.size + 2, s1.heap.objs.size + 3, s1.heap.objs.size, s1.heap.objs.size + 1], _, _, H1, rfl, I2,
        turn_zipK k1 k2 (a := a) (b := b) (zip_sep2 la' lb') (Nat.ne_of_lt la) (Nat.ne_of_lt (Nat.lt_succ_of_lt lb)), ⟨hz, hTI, ⟨_, _, hTO⟩, drO_is h1, drO_is h2⟩, fun c hcm => ?_, q⟩
      have e' : c = s1.heap.objs.size + 4 ∨ c = s1.heap.objs.size + 2 ∨ c = s1.heap.objs.size + 3 ∨ c = s1.heap.objs.size ∨ c = s1.heap.objs.size + 1 := by simpa using hcm
      have hle : s1.heap.objs.size ≤ c := by
        rcases e' with z | z | z | z | z
        · rw [z]; exact Nat.le_add_right _ _
        · rw [z]; exact Nat.le_add_right _ _
        · rw [z]; exact Nat.le_add_right _ _
        · rw [z]; exact Nat.le_refl _
        · rw [z]; exact Nat.le_add_right _ _
      exact I1.fpOk hle (I1.hok.fresh hle)
end Hs

namespace Hs
open PySem PySem.Spec PyProof.Rows L2

structure WalkD (F : Fx) (av1 : Addr → Prop) (H1 : Hp) (J : It) (ds : List D) : Prop where
  goes : ∀ i H av, Ext av1 av H1 H → i < ds.length → J.go i H
  stops : ∀ H av, Ext av1 av H1 H → J.stop ds.length H
  yields : ∀ i H av x H', Ext av1 av H1 H → (∀ b, av b → H b ≠ none) → i < ds.length → J.yld i H x H' → Grow H H' ∧ ∃ d, ds[i]? = some d ∧ Rp F H' av d x
theorem WalkD.of {F : Fx} {av1 : Addr → Prop} {H1 : Hp} {J : It} {ds : List D} {n : Nat} {Gp : Hp → Prop} {Y : Nat → Hp → V → Hp → Prop} (W : Walk J n Gp Y) (hn : n = ds.length) (hg : ∀ H av, Ext av1 av H1 H → Gp H)
    (hy : ∀ i H av x H', Ext av1 av H1 H → (∀ b, av b → H b ≠ none) → i < ds.length → Y i H x H' → Grow H H' ∧ ∃ d, ds[i]? = some d ∧ Rp F H' av d x) : WalkD F av1 H1 J ds where
  goes := fun i H av x hi => W.goes i H (by omega) (hg H av x)
  stops := fun H av x => by rw [← hn]; exact W.stops H (hg H av x)
  yields := fun i H av v H' x tr hi y => hy i H av v H' x tr hi (W.yields i H v H' (by omega) (hg H av x) y)
/-- as L2.Walk, for what later states are -/
def Gst (av1 : Addr → Prop) (H1 : Hp) (H : Hp) : Prop := ∃ av, Ext av1 av H1 H ∧ ∀ b, av b → H b ≠ none
def Yst (F : Fx) (av1 : Addr → Prop) (H1 : Hp) (ds : List D) (i : Nat) (H : Hp) (x : V) (H' : Hp) : Prop := ∀ av, Ext av1 av H1 H → (∀ b, av b → H b ≠ none) → Grow H H' ∧ ∃ d, ds[i]? = some d ∧ Rp F H' av d x
theorem WalkD.walk {F : Fx} {av1 : Addr → Prop} {H1 : Hp} {J : It} {ds : List D} (W : WalkD F av1 H1 J ds) : Walk J ds.length (Gst av1 H1) (Yst F av1 H1 ds) :=
  ⟨fun i H hi ⟨av, x, _⟩ => W.goes i H av x hi, fun H ⟨av, x, _⟩ => W.stops H av x, fun i H v H' hi _ y av x tr => W.yields i H av v H' x tr hi y⟩

section
variable {F : Fx} {X : Cx} {E : XK} {fr : Bool} {n0 : Nat} {w : Wd} {ow : Own} {G G' : List Knd} {ρ : List D} {σ : L2.St} {H : Hp} {tg : Expr}
def EvI (F : Fx) (X : Cx) (E : XK) (G : List Knd) (tg e : Expr) (m : M (List D)) : Prop :=
  Fits F X → ∃ t, PI X tg e t ∧ ∀ w ow ρ σ H R, Gd F w ow G ρ σ H → Post F w ow E G σ H (m ρ) (fun ds ow' _ H' => ∀ J, WalkD F (Av w ow') H' J ds → R J H') → t σ H R
def itemsOf : D → Option (List D)
  | .lst xs => some xs
  | .tup xs => some xs
  | .str x => some (x.cps.toList.map fun c => .str ⟨#[c]⟩)
  | .scr ns => some (ns.map .int)
  | _ => none
def mItems (m : M D) : M (List D) := m.bind fun d => M.opt (itemsOf d)
theorem pi_or3 {iter : Expr} {a b c : TI} (ha : PI X tg iter a) (hb : PI X tg iter b) (hc : PI X tg iter c) : PI X tg iter (fun σ H R => a σ H R ∨ b σ H R ∨ c σ H R) :=
  ⟨fun pins s σ H R I h => h.elim (ha.run pins s σ H R I) fun h => h.elim (hb.run pins s σ H R I) (hc.run pins s σ H R I)⟩
theorem Rp.rd_lst {av av' : Addr → Prop} {H' : Hp} {ds : List D} {a : Addr} {vs : List V} (x : Ext av av' H H') (q : H a = some (.lst vs)) (n : ¬ av a) : SqL F.K H' a vs := .inl (.inl (x.keep _ _ q n noTbl_lst))
theorem walkD_lst {av : Addr → Prop} {a : Addr} {ds : List D} {vs : List V} (q : H a = some (.lst vs)) (n : ¬ av a) (r : RpL F H av ds vs) : WalkD F av H (Itl F.K a) ds :=
  .of (walk_list (K := F.K) (a := a) (xs := vs)) r.length.symm (fun H' av' x => .inl (.inl (x.keep _ _ q n noTbl_lst))) fun i H' av' v H'' x tr hi y => by
    obtain ⟨rfl, e⟩ := y
    obtain ⟨d, e1, r1⟩ := r.getV e
    exact ⟨Grow.refl, d, e1, Rp.ext x _ _ r1⟩
theorem walkD_tup {av : Addr → Prop} {a : Addr} {ds : List D} {vs : List V} (q : H a = some (.tup vs)) (n : ¬ av a) (r : RpL F H av ds vs) : WalkD F av H (Itt F.K a) ds :=
  .of (walk_tup (K := F.K) (a := a) (xs := vs)) r.length.symm (fun H' av' x => .inl (.inl (x.keep _ _ q n noTbl_tup))) fun i H' av' v H'' x tr hi y => by
    obtain ⟨rfl, e⟩ := y
    obtain ⟨d, e1, r1⟩ := r.getV e
    exact ⟨Grow.refl, d, e1, Rp.ext x _ _ r1⟩
theorem walkD_str {av : Addr → Prop} {z : Str} : WalkD F av H (Its z) (z.cps.toList.map fun c => .str ⟨#[c]⟩) :=
  .of walk_str (by simp) (fun _ _ _ => trivial) fun i H' av' v H'' x tr hi y => by
    obtain ⟨rfl, c, e, rfl⟩ := y
    exact ⟨Grow.refl, .str ⟨#[c]⟩, by simp [e], by rw [Rp]⟩
theorem walkD_scr {av : Addr → Prop} {a : Addr} {ns : List Int} (r : Rp F H av (.scr ns) (.ref a)) : WalkD F av H (Itl F.K a) (ns.map .int) :=
  .of (walk_list (K := F.K) (a := a) (xs := ns.map V.int)) (by simp) (fun H' av' x => by
    have r' := Rp.ext x _ _ r
    obtain ⟨b, e, q⟩ := PRp.scr (.inl r')
    cases e
    exact q) fun i H' av' v H'' x tr hi y => by
    obtain ⟨rfl, e⟩ := y
    rw [List.getElem?_map] at e
    obtain ⟨z, e1, rfl⟩ := Option.map_eq_some_iff.mp e
    exact ⟨Grow.refl, .int z, by simp [e1], by rw [Rp]⟩
theorem ei_seq {e : Expr} {m : M D} (h : EvE F X E G e m) : EvI F X E G tg e (mItems m) := fun hX => by
  obtain ⟨t, p, k⟩ := h hX
  refine ⟨_, pi_or3 (pi_list p) (pi_tup p) (pi_str p), fun w ow ρ σ H R g h => ?_⟩
  have h' : Post F w ow E G σ H ((m ρ).bind fun d => M.opt (itemsOf d)) (fun ds ow' _ H' => ∀ J, WalkD F (Av w ow') H' J ds → R J H') := h
  have k' := fun Q q => k w ow ρ σ H Q g q
  have h2 := Post.split h'
  cases e : m ρ with
  | bad => rw [e] at h2; exact h2.elim
  | ex x ρ' =>
    rw [e] at h2 k'
    exact .inl (k' _ h2)
  | ok d ρ' =>
    rw [e] at h2 k'
    have fin : ∀ {ds : List D} {H1 : Hp} {ow1 : Own} {J : It}, itemsOf d = some ds → (Gd F w ow1 G ρ' σ H1 ∧ Ext (Av w ow) (Av w ow1) H H1 ∧ Post F w ow1 E G σ H1 (M.opt (itemsOf d) ρ') fun ds ow' _ H' => ∀ J, WalkD F (Av w ow') H' J ds → R J H') → WalkD F (Av w ow1) H1 J ds → R J H1 := fun {ds H1 ow1 J} ed ⟨g1, x1, q⟩ W => by
      rw [ed] at q
      exact q H1 ow1 g1 Ext.refl J W
    cases d with
    | lst xs =>
      refine .inl (k' _ fun H1 ow1 g1 x1 v r => ?_)
      rw [Rp] at r
      obtain ⟨a, vs, e1, q, n, r'⟩ := r
      subst e1
      refine ⟨a, rfl, ⟨vs, .inl (.inl q)⟩, ?_⟩
      rw [hX.k]
      exact fin rfl (h2 H1 ow1 g1 x1) (walkD_lst q n r')
    | scr ns =>
      refine .inl (k' _ fun H1 ow1 g1 x1 v r => ?_)
      obtain ⟨a, e1, q⟩ := PRp.scr (.inl r)
      subst e1
      refine ⟨a, rfl, ⟨_, by rw [hX.k]; exact q⟩, ?_⟩
      rw [hX.k]
      exact fin rfl (h2 H1 ow1 g1 x1) (walkD_scr r)
    | tup xs =>
      refine .inr (.inl (k' _ fun H1 ow1 g1 x1 v r => ?_))
      rw [Rp] at r
      obtain ⟨a, vs, e1, q, n, r'⟩ := r
      subst e1
      refine ⟨a, rfl, ⟨vs, .inl (.inl q)⟩, ?_⟩
      rw [hX.k]
      exact fin rfl (h2 H1 ow1 g1 x1) (walkD_tup q n r')
    | str z =>
      refine .inr (.inr (k' _ fun H1 ow1 g1 x1 v r => ?_))
      rw [Rp] at r
      exact ⟨z, r, fin rfl (h2 H1 ow1 g1 x1) walkD_str⟩
    | _ =>
      exact .inl (k' _ fun H1 ow1 g1 x1 v r => (h2 H1 ow1 g1 x1).2.2.elim)
def rgD (lo hi : Int) : List D := (List.range (hi - lo).toNat).map fun i => .int (lo + (i : Nat))
def rgB (i : Int) : Bool := decide (-(2 ^ 62) ≤ i) && decide (i < 2 ^ 62)
def rg1 : List D → Option (List D)
  | [.int j] => if rgB j then some (rgD 0 j) else none
  | _ => none
def rg2 : List D → Option (List D)
  | [.int i, .int j] => if rgB i && rgB j then some (rgD i j) else none
  | _ => none
def mRg (f : List D → Option (List D)) (m : M (List OV)) : M (List D) := m.bind fun os ρ => M.opt (f (os.map (OV.get ρ))) ρ
theorem walkD_rg {av : Addr → Prop} {lo hi : Int} : WalkD F av H (Itr lo (hi - lo).toNat) (rgD lo hi) :=
  .of walk_range (by simp [rgD]) (fun _ _ _ => trivial) fun i H' av' v H'' x tr hi y => by
    obtain ⟨rfl, rfl⟩ := y
    have hi' := hi
    simp only [rgD, List.length_map, List.length_range] at hi'
    exact ⟨Grow.refl, .int (lo + i), by simp [rgD, hi'], by rw [Rp]⟩
theorem rgB_iff {i : Int} : rgB i = true ↔ -(2 ^ 62) ≤ i ∧ i < 2 ^ 62 := by simp [rgB]
theorem ei_range1 {a : Expr} {ms : M (List OV)} {p pos : Pos} (hg : Gl X "range") (hm : F.mg "range" = none) (ha : EvA F X E G [a] ms) (hs : starEach [a] X.env = [(false, eval a X.env)] := by rfl) :
    EvI F X E G tg (.Call (.Name "range" p) [a] [] pos) (mRg rg1 ms) := fun hX => by
  obtain ⟨t, pa, k⟩ := ha hX
  refine ⟨_, pi_range1 hg (by rw [hX.m]; exact hm) pa hs, fun w ow ρ σ H R g h => k w ow ρ σ H _ g (Post.mono (Post.split h) fun os ow1 ρ1 H1 _ _ _ ⟨g1, x1, h1⟩ vs rv => ?_)⟩
  have rp := rv.prp g1
  cases ed : rg1 (os.map (OV.get ρ1)) with
  | none => rw [ed] at h1; exact h1.elim
  | some ds =>
    rw [ed] at h1
    match hq : os.map (OV.get ρ1), ed, rp with
    | [.int j], ed, rp =>
      obtain ⟨v, rfl, r⟩ := rp.one
      obtain rfl := r.int
      simp only [rg1] at ed
      split at ed
      · rename_i hb
        cases ed
        obtain ⟨b1, b2⟩ := rgB_iff.mp hb
        refine ⟨j, rfl, b1, b2, ?_⟩
        have := h1 H1 ow1 g1 Ext.refl (Itr 0 (j - 0).toNat) walkD_rg
        rw [Int.sub_zero] at this
        exact this
      · cases ed
theorem ei_range2 {a b : Expr} {ms : M (List OV)} {p pos : Pos} (hg : Gl X "range") (hm : F.mg "range" = none) (ha : EvA F X E G [a, b] ms) (hs : starEach [a, b] X.env = [(false, eval a X.env), (false, eval b X.env)] := by rfl) (hs2 : starEach [b] X.env = [(false, eval b X.env)] := by rfl) :
    EvI F X E G tg (.Call (.Name "range" p) [a, b] [] pos) (mRg rg2 ms) := fun hX => by
  obtain ⟨t, pa, k⟩ := ha hX
  refine ⟨_, pi_range2 hg (by rw [hX.m]; exact hm) pa hs hs2, fun w ow ρ σ H R g h => k w ow ρ σ H _ g (Post.mono (Post.split h) fun os ow1 ρ1 H1 _ _ _ ⟨g1, x1, h1⟩ vs rv => ?_)⟩
  have rp := rv.prp g1
  cases ed : rg2 (os.map (OV.get ρ1)) with
  | none => rw [ed] at h1; exact h1.elim
  | some ds =>
    rw [ed] at h1
    match hq : os.map (OV.get ρ1), ed, rp with
    | [.int i, .int j], ed, rp =>
      obtain ⟨v, u, rfl, r, r'⟩ := rp.two
      obtain rfl := r.int
      obtain rfl := r'.int
      simp only [rg2] at ed
      split at ed
      · rename_i hb
        cases ed
        obtain ⟨hb1, hb2⟩ : rgB i = true ∧ rgB j = true := by simpa using hb
        obtain ⟨b1, b2⟩ := rgB_iff.mp hb1
        obtain ⟨b3, b4⟩ := rgB_iff.mp hb2
        exact ⟨i, j, rfl, ⟨b1, b2, b3, b4⟩, h1 H1 ow1 g1 Ext.refl _ walkD_rg⟩
      · cases ed
def seqOf : D → Option (Bool × List D)
  | .lst xs => some (true, xs)
  | .tup xs => some (false, xs)
  | _ => none
theorem Rp.sq {av : Addr → Prop} {d : D} {v : V} {k : Bool} {ds : List D} (e : seqOf d = some (k, ds)) (r : Rp F H av d v) : ∃ a vs, v = .ref a ∧ RpL F H av ds vs ∧ ∀ H' av', Ext av av' H H' → SqK F.K k H' a vs := by
  cases d with
  | lst xs =>
    cases e
    rw [Rp] at r
    obtain ⟨a, vs, e1, q, n, r'⟩ := r
    exact ⟨a, vs, e1, r', fun H' av' x => .inl (.inl (x.keep _ _ q n noTbl_lst))⟩
  | tup xs =>
    cases e
    rw [Rp] at r
    obtain ⟨a, vs, e1, q, n, r'⟩ := r
    exact ⟨a, vs, e1, r', fun H' av' x => .inl (.inl (x.keep _ _ q n noTbl_tup))⟩
  | _ => cases e
def enD (xs : List D) : List D := (List.range xs.length).map fun i => .tup [.int (i : Nat), xs.getD i .non]
def zipD (xs ys : List D) : List D := List.zipWith (fun x y => .tup [x, y]) xs ys
def mEn (m : M D) : M (List D) := m.bind fun d => M.opt ((seqOf d).map fun p => enD p.2)
def mZip (a b : M D) : M (List D) := a.bind fun x => b.bind fun y => M.opt ((seqOf x).bind fun p => (seqOf y).map fun q => zipD p.2 q.2)
theorem walkD_en {av : Addr → Prop} {a : Addr} {k : Bool} {ds : List D} {vs : List V} (tr : ∀ b, av b → H b ≠ none) (r : RpL F H av ds vs) (hs : ∀ H' av', Ext av av' H H' → SqK F.K k H' a vs) : WalkD F av H (Iten F.K k a) (enD ds) where
  goes := fun i H' av' x hi => by
    have hi' : i < vs.length := by rw [← r.length]; simpa [enD] using hi
    exact ⟨vs, vs[i], hs H' av' x, by simp [hi']⟩
  stops := fun H' av' x => ⟨vs, hs H' av' x, by simp [enD, r.length]⟩
  yields := fun i H' av' v H'' x tr' hi y => by
    obtain ⟨T, u, rfl, hT, rfl, q⟩ := y
    have e := q vs (hs H' av' x)
    obtain ⟨d, e1, r1⟩ := r.getV e
    have hi' : i < ds.length := by simpa [enD] using hi
    refine ⟨Grow.upd hT, .tup [.int (i : Nat), d], ?_, Rp.newT tr' hT (RpL.cons (by rw [Rp]) (RpL.cons (Rp.ext x _ _ r1) RpL.nil))⟩
    have e2 : ds[i] = d := by rw [List.getElem?_eq_getElem hi'] at e1; exact Option.some.inj e1
    simp [enD, hi', List.getD_eq_getElem?_getD, e2]
theorem walkD_zip {av : Addr → Prop} {a b : Addr} {k1 k2 : Bool} {ds es : List D} {vs us : List V} (r : RpL F H av ds vs) (hs : ∀ H' av', Ext av av' H H' → SqK F.K k1 H' a vs) (r2 : RpL F H av es us) (hs2 : ∀ H' av', Ext av av' H H' → SqK F.K k2 H' b us) : WalkD F av H (Itzi F.K k1 k2 a b) (zipD ds es) where
  goes := fun i H' av' x hi => by
    have hi' : i < vs.length ∧ i < us.length := by
      rw [← r.length, ← r2.length]
      simp [zipD] at hi; omega
    exact ⟨vs, us, vs[i], us[i], hs H' av' x, hs2 H' av' x, by simp [hi'.1], by simp [hi'.2]⟩
  stops := fun H' av' x => ⟨vs, us, hs H' av' x, hs2 H' av' x, by simp [zipD, r.length, r2.length]⟩
  yields := fun i H' av' v H'' x tr' hi y => by
    obtain ⟨T, u, u2, rfl, hT, rfl, q, q2⟩ := y
    obtain ⟨d, e1, r1⟩ := r.getV (q vs (hs H' av' x))
    obtain ⟨d2, e2, r3⟩ := r2.getV (q2 us (hs2 H' av' x))
    refine ⟨Grow.upd hT, .tup [d, d2], ?_, Rp.newT tr' hT (RpL.cons (Rp.ext x _ _ r1) (RpL.cons (Rp.ext x _ _ r3) RpL.nil))⟩
    simp [zipD, List.getElem?_zipWith, e1, e2]
theorem ei_enum {e : Expr} {m : M D} {p pos tpos : Pos} {elts : List Expr} {kk : Nat} (hg : Gl X "enumerate") (hm : F.mg "enumerate" = none) (h : EvE F X E G e m) (hs : starEach [e] X.env = (false, eval e X.env) :: starEach [] X.env := by rfl) :
    EvI F X E G (.Tuple elts kk tpos) (.Call (.Name "enumerate" p) [e] [] pos) (mEn m) := fun hX => by
  obtain ⟨t, pe, k⟩ := h hX
  refine ⟨_, pi_enumK hg (by rw [hX.m]; exact hm) (pa_cons pe pa_nil hs) hs, fun w ow ρ σ H R g h => k w ow ρ σ H _ g (Post.mono (Post.split h) fun d ow1 ρ1 H1 _ _ _ ⟨g1, x1, h1⟩ v rv => ?_)⟩
  cases e : seqOf d with
  | none => rw [e] at h1; exact h1.elim
  | some p =>
    obtain ⟨kk, ds⟩ := p
    rw [e] at h1
    obtain ⟨a, vs, rfl, r, hs⟩ := rv.sq e
    refine ⟨kk, a, vs, rfl, by rw [hX.k]; exact hs H1 _ Ext.refl, ?_⟩
    rw [hX.k]
    exact h1 H1 ow1 g1 Ext.refl _ (walkD_en g1.trk r hs)
theorem ei_zip {e e2 : Expr} {m m2 : M D} {p pos tpos : Pos} {elts : List Expr} {kk : Nat} (hg : Gl X "zip") (hm : F.mg "zip" = none) (h : EvE F X E G e m) (h2 : EvE F X E G e2 m2)
    (hs : starEach [e, e2] X.env = (false, eval e X.env) :: starEach [e2] X.env := by rfl) (hs2 : starEach [e2] X.env = (false, eval e2 X.env) :: starEach [] X.env := by rfl) (hpl : (backTo pos (starEach [e2] X.env)).any (·.1) = false := by rfl) :
    EvI F X E G (.Tuple elts kk tpos) (.Call (.Name "zip" p) [e, e2] [] pos) (mZip m m2) := fun hX => by
  obtain ⟨t, pe, k⟩ := h hX
  obtain ⟨t2, pe2, k2⟩ := h2 hX
  refine ⟨_, pi_zipK hg (by rw [hX.m]; exact hm) (pa_cons pe (pa_cons pe2 pa_nil hs2) hs) hs hpl, fun w ow ρ σ H R g h => k w ow ρ σ H _ g (Post.mono (Post.split h) fun d ow1 ρ1 H1 _ _ _ ⟨g1, x1, h1⟩ v rv => ?_)⟩
  refine k2 w ow1 ρ1 σ H1 _ g1 (Post.mono (Post.split h1) fun d2 ow2 ρ2 H2 _ _ _ ⟨g2, x2, h2⟩ u ru => ?_)
  cases e : seqOf d with
  | none => rw [e] at h2; exact h2.elim
  | some p =>
    cases e2 : seqOf d2 with
    | none => rw [e, e2] at h2; exact h2.elim
    | some q =>
      obtain ⟨k1, ds⟩ := p
      obtain ⟨k2, es⟩ := q
      rw [e, e2] at h2
      obtain ⟨a, vs, rfl, r, hs⟩ := (Rp.ext x2 _ _ rv).sq e
      obtain ⟨b, us, rfl, r2, hs2⟩ := ru.sq e2
      refine ⟨k1, k2, a, b, vs, us, rfl, by rw [hX.k]; exact hs H2 _ Ext.refl, by rw [hX.k]; exact hs2 H2 _ Ext.refl, ?_⟩
      rw [hX.k]
      exact h2 H2 ow2 g2 Ext.refl _ (walkD_zip r hs r2 hs2)
abbrev MG := D → List D → Option (List D)
abbrev MGs := List D → List D → Option (List D)
def EvG (F : Fx) (X : Cx) (ws : List Nat) (G : List Knd) (tg : Expr) (mg : MG) (G' : List Knd) : Prop :=
  Fits F X → ∃ t, PG X tg t ∧ ∀ w ow ρ σ H d v ρ' Q, Gd F w ow G ρ σ H → Rp F H (Av w ow) d v → mg d ρ = some ρ' →
    (∀ σ' ow', Gd F w ow' G' ρ' σ' H → Kp w σ σ' → Ext (Av w ow) (Av w ow') H H → (∀ i, i ∉ ws → σ'[i]? = σ[i]?) → Q σ' H) → t v σ H Q
def EvGs (F : Fx) (X : Cx) (ws : List Nat) (G : List Knd) (tgs : List Expr) (mg : MGs) (G' : List Knd) : Prop :=
  Fits F X → ∃ t, PGs X tgs t ∧ ∀ w ow ρ σ H ds vs ρ' Q, Gd F w ow G ρ σ H → RpL F H (Av w ow) ds vs → mg ds ρ = some ρ' →
    (∀ σ' ow', Gd F w ow' G' ρ' σ' H → Kp w σ σ' → Ext (Av w ow) (Av w ow') H H → (∀ i, i ∉ ws → σ'[i]? = σ[i]?) → Q σ' H) → t vs σ H Q
def gNm (i : Nat) : MG := fun d ρ => some (ρ.set i d)
def gNo : MGs := fun ds ρ => match ds with
  | [] => some ρ
  | _ => none
def gCn (a : MG) (b : MGs) : MGs := fun ds ρ => match ds with
  | d :: r => (a d ρ).bind fun ρ' => b r ρ'
  | [] => none
def gTp (a : MGs) : MG := fun d ρ => match d with
  | .tup ds => a ds ρ
  | _ => none
theorem eg_name {i : Nat} {x : Str} {pos : Pos} {ws : List Nat} (hN : X.N.Nodup) (hi : X.N[i]? = some x) (hx : Loc X.env.scope x) (hk : G[i]? ≠ some .ow) (hf : X.fn x = true ∨ X.env.scope.names.lookup x = some .local := by first | exact .inl rfl | exact .inr rfl) (hw : i ∈ ws := by decide) :
    EvG F X ws G (.Name x pos) (gNm i) (G.set i .va) := fun hX =>
  ⟨_, pg_name hN hi hx hf, fun w ow ρ σ H d v ρ' Q g r e h => by
    cases e
    have hi0 : i + 1 ≠ w.n0 := fun z => hk (g.io i z)
    exact h _ _ (g.setV hi0 r) (kp_set hi0) ext_unOwn fun j hj => by rw [List.getElem?_set_ne (fun e => hj (by rw [← e]; exact hw))]⟩
theorem egs_nil {ws : List Nat} : EvGs F X ws G [] gNo G := fun hX => ⟨_, pgs_nil, fun w ow ρ σ H ds vs ρ' Q g r e h => by
  cases ds with
  | nil =>
    cases e
    rw [RpL] at r
    exact ⟨r, h σ ow g Kp.refl Ext.refl fun _ _ => rfl⟩
  | cons d ds => cases e⟩
theorem egs_cons {G1 : List Knd} {e : Expr} {es : List Expr} {a : MG} {b : MGs} {ws : List Nat} (h1 : EvG F X ws G e a G1) (h2 : EvGs F X ws G1 es b G') (hs : (assignEach (e :: es) X.env).map (·.2) = assign e X.env :: (assignEach es X.env).map (·.2) := by rfl) : EvGs F X ws G (e :: es) (gCn a b) G' := fun hX => by
  obtain ⟨t, p, k⟩ := h1 hX
  obtain ⟨u, q, l⟩ := h2 hX
  refine ⟨_, pgs_cons p q hs, fun w ow ρ σ H ds vs ρ' Q g r e h => ?_⟩
  cases ds with
  | nil => cases e
  | cons d ds =>
    rw [RpL] at r
    obtain ⟨v, rest, rfl, r1, r2⟩ := r
    obtain ⟨ρ1, e1, e2⟩ := Option.bind_eq_some_iff.mp (show (a d ρ).bind (fun ρ' => b ds ρ') = some ρ' from e)
    refine ⟨v, rest, rfl, k w ow ρ σ H d v ρ1 _ g r1 e1 fun σ1 ow1 g1 k1 x1 s1 => ?_⟩
    exact l w ow1 ρ1 σ1 H ds rest ρ' Q g1 (RpL.ext x1 _ _ r2) e2 fun σ2 ow2 g2 k2 x2 s2 => h σ2 ow2 g2 (k1.trans k2) (x1.trans x2) fun i hi => (s2 i hi).trans (s1 i hi)
theorem eg_tup {es : List Expr} {k n : Nat} {a : MGs} {ws : List Nat} {pos : Pos} (hc : X.calm = true) (h : EvGs F X ws G es a G') (hl : ∀ ds ρ ρ', a ds ρ = some ρ' → ds.length = n) (hn : (assignEach es X.env).length = n := by rfl) (hst : (assignEach es X.env).findIdx? (·.1) = none := by rfl) :
    EvG F X ws G (.Tuple es k pos) (gTp a) G' := fun hX => by
  obtain ⟨t, p, q⟩ := h hX
  refine ⟨_, pg_tup hc p hn hst, fun w ow ρ σ H d v ρ' Q g r e h => ?_⟩
  cases d with
  | tup ds =>
    rw [Rp] at r
    obtain ⟨b, vs, rfl, hb, nb, r'⟩ := r
    exact ⟨b, vs, rfl, .inl (.inl hb), by rw [← r'.length]; exact hl ds ρ ρ' e, q w ow ρ σ H ds vs ρ' Q g r' e h⟩
  | _ => cases e
theorem gl0 : ∀ ds ρ ρ', gNo ds ρ = some ρ' → ds.length = 0 := fun ds ρ ρ' e => by cases ds <;> first | rfl | cases e
theorem glS {a : MG} {b : MGs} {n : Nat} (h : ∀ ds ρ ρ', b ds ρ = some ρ' → ds.length = n) : ∀ ds ρ ρ', gCn a b ds ρ = some ρ' → ds.length = n + 1 := fun ds ρ ρ' e => by
  cases ds with
  | nil => cases e
  | cons d ds =>
    obtain ⟨ρ1, e1, e2⟩ := Option.bind_eq_some_iff.mp (show (a d ρ).bind (fun ρ' => b ds ρ') = some ρ' from e)
    simp [h ds ρ1 ρ' e2]
def sAsg (m : M D) (mg : MG) : MS := fun ρ => (m ρ).rs fun d ρ => match mg d ρ with
  | some ρ' => .nx ρ'
  | none => .bad
theorem x_asg {e : Expr} {m : M D} {mg : MG} {ws : List Nat} {pos : Pos} (h : EvE F X E G e m) (hg : EvG F X ws G tg mg G') (hs : swapsWithSole [tg] e pos.line X.env = pure false := by rfl) (hw : swappedStores [tg] e X.env = pure none := by rfl)
    (h1 : (assignEach [tg] X.env).map (·.2) = [assign tg X.env] := by rfl) : ExS F X E fr n0 G (.Assign [tg] e pos) (sAsg m mg) G' := fun hX => by
  obtain ⟨t, p, k⟩ := h hX
  obtain ⟨u, q, l⟩ := hg hX
  refine ⟨_, ps_asg p q hs hw h1, fun w ow ρ σ H Dn hw g h => k w ow ρ σ H _ g (Post.mono (PostS.split h) fun d ow1 ρ1 H1 _ _ _ ⟨g1, x1, h1⟩ v rv => ?_)⟩
  cases e : mg d ρ1 with
  | none => rw [e] at h1; exact h1.elim
  | some ρ' =>
    rw [e] at h1
    exact l w ow1 ρ1 σ H1 d v ρ' _ g1 rv e fun σ' ow' g' k' x' _ => h1 σ' H1 ow' g' k' x'
def forL (mg : MG) (b : MS) : List D → MS
  | [], ρ => .nx ρ
  | d :: ds, ρ => match mg d ρ with
    | none => .bad
    | some ρ1 => match b ρ1 with
      | .nx ρ2 => forL mg b ds ρ2
      | .rt d ρ2 => .rt d ρ2
      | .ex e ρ2 => .ex e ρ2
      | .bad => .bad
def sFor (m : M (List D)) (mg : MG) (b : MS) : MS := fun ρ => (m ρ).rs fun ds ρ => forL mg b ds ρ
theorem x_for {Gl Gt Gb : List Knd} {iter : Expr} {body : List Stmt} {m : M (List D)} {mg : MG} {ws : List Nat} {b : MS} {pos : Pos} (hp : PassesOwn (model X.prog X.w) X.A X.env X.xe) (hc : X.calm = true) (hi : EvI F X E G tg iter m) (hg : EvG F X ws Gl tg mg Gt) (hb : ExB F X E fr n0 Gt body b Gb)
    (w1 : Gl.length = G.length ∧ (∀ (i : Nat) (k : Knd), Gl[i]? = some k → k = Knd.un ∨ G[i]? = some k) ∧ ∀ i : Nat, i + 1 = n0 → Gl[i]? = some Knd.ow) (w2 : Gl.length = Gb.length ∧ (∀ (i : Nat) (k : Knd), Gl[i]? = some k → k = Knd.un ∨ Gb[i]? = some k))
    (hs : ∀ x, foldedSetIterable iter X.env x = pure x := by intro _; rfl) : ExS F X E fr n0 G (.For tg iter body [] pos) (sFor m mg b) Gl := fun hX => by
  obtain ⟨t, p, k⟩ := hi hX
  obtain ⟨u, q, l⟩ := hg hX
  obtain ⟨z, r, o⟩ := hb hX
  refine ⟨_, ps_for hp hc p q r hs, fun w ow ρ σ H Dn hw g h => k w ow ρ σ H _ g (Post.mono (PostS.split h) fun ds ow1 ρ1 H1 _ _ _ ⟨g1, x1, h1⟩ J W => ?_)⟩
  refine for_it W.walk (fun i σ' H' => ∃ ow' ρ', Gd F w ow' Gl ρ' σ' H' ∧ Kp w σ σ' ∧ Ext (Av w ow1) (Av w ow') H1 H' ∧ PostS F w ow1 E fr Gl σ H1 (forL mg b (ds.drop i) ρ') Dn) ?_ (fun i σ' H' _ ⟨ow', ρ', g', _, x', _⟩ => ⟨_, x', g'.trk⟩) ?_ ?_
  · exact ⟨ow1, ρ1, g1.weak w1.1 w1.2.1 (fun i hi => w1.2.2 i (by omega)), Kp.refl, Ext.refl, h1⟩
  · rintro i x σ' H' H'' hi ⟨ow', ρ', g', k', x', h'⟩ y
    obtain ⟨gr, d, ed, rd⟩ := y _ x' g'.trk
    rw [List.drop_eq_getElem_cons hi, show ds[i] = d from by rw [List.getElem?_eq_getElem hi] at ed; exact Option.some.inj ed, forL] at h'
    cases e : mg d ρ' with
    | none => rw [e] at h'; exact h'.elim
    | some ρ2 =>
      rw [e] at h'
      dsimp only at h'
      refine l w ow' ρ' σ' H'' d x ρ2 _ (g'.grow gr) rd e fun σ2 ow2 g2 k2 x2 _ => ?_
      refine o w ow2 ρ2 σ2 H'' _ hw g2 ?_
      have xx : Ext (Av w ow1) (Av w ow2) H1 H'' := (x'.trans gr.ext).trans x2
      cases eb : b ρ2 with
      | nx ρ3 =>
        rw [eb] at h'
        exact fun σ3 H3 ow3 g3 k3 x3 => ⟨ow3, ρ3, g3.weak w2.1 w2.2 (fun i hi => w1.2.2 i (by omega)), k'.trans (k2.trans k3), xx.trans x3, h'⟩
      | rt d ρ3 =>
        rw [eb] at h'
        exact fun v H3 ow3 σ3 Gx g3 k3 x3 rr => h' v H3 ow3 σ3 Gx g3 (k'.trans (k2.trans k3)) (xx.trans x3) rr
      | ex e ρ3 =>
        rw [eb] at h'
        exact fun H3 ow3 σ3 Gx C dx g3 k3 x3 rr => h' H3 ow3 σ3 Gx C dx g3 (k'.trans (k2.trans k3)) (xx.trans x3) rr
      | bad => rw [eb] at h'; exact h'
  · rintro σ' H' ⟨ow', ρ', g', k', x', h'⟩
    rw [List.drop_length, forL] at h'
    exact h' σ' H' ow' g' k' x'
def whileN (c : M Bool) (b : MS) : Nat → MS
  | 0, _ => .bad
  | n + 1, ρ => (c ρ).rs fun t ρ1 => if t then (match b ρ1 with
      | .nx ρ2 => whileN c b n ρ2
      | .rt d ρ2 => .rt d ρ2
      | .ex e ρ2 => .ex e ρ2
      | .bad => .bad) else .nx ρ1
def sWhile (fu : Nat) (c : M Bool) (b : MS) : MS := whileN c b fu
theorem x_while {Gl Gb : List Knd} {c : Expr} {body : List Stmt} {mc : M Bool} {b : MS} {fu : Nat} {pos : Pos} (hp : PassesOwn (model X.prog X.w) X.A X.env X.xe) (hc : EvT F X E Gl c mc) (hb : ExB F X E fr n0 Gl body b Gb)
    (w1 : Gl.length = G.length ∧ (∀ (i : Nat) (k : Knd), Gl[i]? = some k → k = Knd.un ∨ G[i]? = some k) ∧ ∀ i : Nat, i + 1 = n0 → Gl[i]? = some Knd.ow) (w2 : Gl.length = Gb.length ∧ (∀ (i : Nat) (k : Knd), Gl[i]? = some k → k = Knd.un ∨ Gb[i]? = some k)) :
    ExS F X E fr n0 G (.While c body [] pos) (sWhile fu mc b) Gl := fun hX => by
  obtain ⟨t, p, k⟩ := hc hX
  obtain ⟨z, r, o⟩ := hb hX
  refine ⟨_, ps_while hp p r, fun w ow ρ σ H Dn hw g h => ?_⟩
  refine ⟨fun n σ' H' => ∃ ow' ρ', Gd F w ow' Gl ρ' σ' H' ∧ Kp w σ σ' ∧ Ext (Av w ow) (Av w ow') H H' ∧ PostS F w ow E fr Gl σ H (whileN mc b n ρ') Dn, ⟨fu, ow, ρ, g.weak w1.1 w1.2.1 (fun i hi => w1.2.2 i (by omega)), Kp.refl, Ext.refl, h⟩, ?_⟩
  rintro n σ' H' ⟨ow', ρ', g', k', x', h'⟩
  cases n with
  | zero => exact h'.elim
  | succ n =>
    refine k w ow' ρ' σ' H' _ g' (Post.mono (PostS.split (PostS.shift (show PostS F w ow E fr Gl σ H ((mc ρ').rs _) Dn from h') k' x')) fun t ow1 ρ1 H1 er _ _ ⟨g1, x1, h1⟩ => ?_)
    cases t with
    | false =>
      rw [if_neg Bool.false_ne_true]
      exact h1 σ' H1 ow1 g1 Kp.refl Ext.refl
    | true =>
      rw [if_pos rfl]
      refine ⟨fun σ2 H2 => ∃ ow' ρ', Gd F w ow' Gl ρ' σ2 H2 ∧ Kp w σ σ2 ∧ Ext (Av w ow) (Av w ow') H H2 ∧ PostS F w ow E fr Gl σ H (whileN mc b n ρ') Dn, fun σ2 H2 z => ⟨n, Nat.lt_succ_self _, z⟩, ?_⟩
      refine o w ow1 ρ1 σ' H1 _ hw g1 ?_
      have xx : Ext (Av w ow) (Av w ow1) H H1 := x'.trans x1
      have h2 : PostS F w ow E fr Gl σ H (whileN mc b (n + 1) ρ') Dn := h'
      unfold whileN at h2
      rw [er] at h2
      have h3 : PostS F w ow E fr Gl σ H (match b ρ1 with
        | .nx ρ2 => whileN mc b n ρ2
        | .rt d ρ2 => .rt d ρ2
        | .ex e ρ2 => .ex e ρ2
        | .bad => .bad) Dn := h2
      cases eb : b ρ1 with
      | nx ρ3 =>
        rw [eb] at h3
        exact fun σ3 H3 ow3 g3 k3 x3 => ⟨ow3, ρ3, g3.weak w2.1 w2.2 (fun i hi => w1.2.2 i (by omega)), k'.trans k3, xx.trans x3, h3⟩
      | rt d ρ3 =>
        rw [eb] at h3
        exact fun v H3 ow3 σ3 Gx g3 k3 x3 rr => h3 v H3 ow3 σ3 Gx g3 (k'.trans k3) (xx.trans x3) rr
      | ex e ρ3 =>
        rw [eb] at h3
        exact fun H3 ow3 σ3 Gx C dx g3 k3 x3 rr => h3 H3 ow3 σ3 Gx C dx g3 (k'.trans k3) (xx.trans x3) rr
      | bad => rw [eb] at h3; exact h3
end
end Hs

namespace Hs
open PySem PySem.Spec PyProof.Rows L2

/-- a new thing at a stays as it is -/
def Wd.held (w : Wd) (a : Addr) (o : HO) : Wd := { oc := fun b => w.oc b ∨ b = a, io := fun b => w.io b ∧ b ≠ a, H0 := upd w.H0 a o, n0 := w.n0 }
def wipeG (G : List Knd) : List Nat → List Knd
  | [] => G
  | v :: vs => (wipeG G vs).set v .un
def restore (ρ ρ' : List D) : List Nat → List D
  | [] => ρ'
  | v :: vs => (restore ρ ρ' vs).set v (ρ.getD v .non)
section
variable {F : Fx} {X : Cx} {E : XK} {fr : Bool} {n0 : Nat} {w : Wd} {ow : Own} {G G' : List Knd} {ρ : List D} {σ : L2.St} {H : Hp} {tg : Expr}
theorem av_held {a b : Addr} {o : HO} : Av (w.held a o) ow b ↔ Av (w.plus a) ow b := Iff.rfl
theorem Gd.held {a : Addr} {o : HO} (g : Gd F (w.plus a) ow G ρ σ H) (h : H a = some o) : Gd F (w.held a o) ow G ρ σ H where
  len := g.len
  same := fun b u e nb nt => by
    by_cases hb : b = a
    · subst hb
      have e' : upd w.H0 b o b = some u := e
      rw [upd_same] at e'
      cases e'
      exact h
    · have e' : upd w.H0 a o b = some u := e
      rw [upd_ne hb] at e'
      exact g.same b u e' (fun z => nb ⟨z, hb⟩) nt
  dom := fun b e => by
    by_cases hb : b = a
    · subst hb; rw [h] at e; cases e
    · show upd w.H0 a o b = none
      rw [upd_ne hb]
      exact g.dom b e
  trk := g.trk
  wr := fun b i e => by
    obtain ⟨z1, z2⟩ := g.wr b i e
    have hb : b ≠ a := fun q => z1 (.inr q)
    exact ⟨z1, z2.imp (fun q => ⟨q.1, q.2, hb⟩) fun q => by show upd w.H0 a o b = none; rw [upd_ne hb]; exact q⟩
  tabs := g.tabs
  io := g.io
  slot := g.slot
theorem Gd.unheld {a : Addr} {o : HO} (g : Gd F (w.held a o) ow G ρ σ H) (h0 : w.H0 a = none) : Gd F (w.plus a) ow G ρ σ H where
  len := g.len
  same := fun b u e nb nt => by
    by_cases hb : b = a
    · subst hb
      have e' : w.H0 b = some u := e
      rw [h0] at e'; cases e'
    · refine g.same b u (by show upd w.H0 a o b = some u; rw [upd_ne hb]; exact e) (fun z => nb z.1) nt
  dom := fun b e => by
    by_cases hb : b = a
    · subst hb; exact h0
    · have z := g.dom b e
      have z' : upd w.H0 a o b = none := z
      rw [upd_ne hb] at z'
      exact z'
  trk := g.trk
  wr := fun b i e => by
    obtain ⟨z1, z2⟩ := g.wr b i e
    have hb : b ≠ a := fun q => z1 (.inr q)
    exact ⟨z1, z2.imp (fun q => ⟨q.1, q.2.1⟩) fun q => by have q' : upd w.H0 a o b = none := q; rw [upd_ne hb] at q'; exact q'⟩
  tabs := g.tabs
  io := g.io
  slot := g.slot
theorem Gd.at_held {a : Addr} {o : HO} (g : Gd F (w.held a o) ow G ρ σ H) (nt : NoTbl o) : H a = some o :=
  g.same a o (by show upd w.H0 a o a = some o; exact upd_same) (fun z => z.2 rfl) nt
/-- the held thing is written -/
theorem Gd.put {a : Addr} {o o' : HO} (g : Gd F (w.held a o) ow G ρ σ H) (h0 : w.H0 a = none) (nt : NoTbl o) (nt' : NoTbl o') (nc : ∀ c q, o ≠ LamX.CodeO c q) : Gd F (w.held a o') ow G ρ σ (upd H a o') ∧ Ext (Av (w.held a o) ow) (Av (w.held a o') ow) H (upd H a o') := by
  have ha := g.at_held nt
  have oa : Av (w.held a o) ow a := .inl (.inr rfl)
  have x : Ext (Av (w.held a o) ow) (Av (w.held a o') ow) H (upd H a o') := ⟨fun b u q nb _ => by
    have hb : b ≠ a := fun z => nb (by rw [z]; exact oa)
    rw [upd_ne hb]; exact q, fun b h => .inl h, fun b e => by
    by_cases hb : b = a
    · subst hb; rw [upd_same] at e; cases e
    · rw [upd_ne hb] at e; exact e⟩
  refine ⟨⟨g.len, fun b u e nb ntu => ?_, fun b e => ?_, fun b h => ?_, fun b i e => ?_, ?_, g.io, fun i k e => ?_⟩, x⟩
  · by_cases hb : b = a
    · subst hb
      have e' : upd w.H0 b o' b = some u := e
      rw [upd_same] at e'
      cases e'
      exact upd_same
    · rw [upd_ne hb]
      have e' : upd w.H0 a o' b = some u := e
      rw [upd_ne hb] at e'
      exact g.same b u (by show upd w.H0 a o b = some u; rw [upd_ne hb]; exact e') nb ntu
  · by_cases hb : b = a
    · subst hb; rw [upd_same] at e; cases e
    · rw [upd_ne hb] at e
      have z : upd w.H0 a o b = none := g.dom b e
      rw [upd_ne hb] at z
      show upd w.H0 a o' b = none
      rw [upd_ne hb]; exact z
  · by_cases hb : b = a
    · subst hb; rw [upd_same]; simp
    · rw [upd_ne hb]; exact g.trk b h
  · obtain ⟨z1, z2⟩ := g.wr b i e
    have hb : b ≠ a := fun q => z1 (.inr q)
    exact ⟨z1, z2.imp id fun q => by
      have q' : upd w.H0 a o b = none := q
      rw [upd_ne hb] at q'
      show upd w.H0 a o' b = none
      rw [upd_ne hb]; exact q'⟩
  · intro z hz
    obtain ⟨ps, q, m⟩ := g.tabs z hz
    have hb : z.1 ≠ a := fun e => by
      rw [e, ha] at q
      cases q
      exact nt _ rfl
    refine ⟨ps, by rw [upd_ne hb]; exact q, m.1, fun pos cv hc => ?_⟩
    obtain ⟨c, e1, e2⟩ := m.2 pos cv hc
    have hb : c ≠ a := fun e => by
      rw [e, ha] at e2
      exact nc _ _ (Option.some.inj e2)
    exact ⟨c, e1, by rw [upd_ne hb]; exact e2⟩
  · have h := g.slot i k e
    cases k with
    | un => trivial
    | va =>
      obtain ⟨v, e1, r⟩ := h
      exact ⟨v, e1, Rp.ext x _ _ r⟩
    | ow =>
      obtain ⟨b, e1, o1, r⟩ := h
      have hb : b ≠ a := fun q => (g.wr b i o1).1 (.inr q)
      exact ⟨b, e1, o1, r.ext x (by rw [upd_ne hb])⟩
theorem ext_held {a : Addr} {o : HO} : Ext (Av (w.plus a) ow) (Av (w.held a o) ow) H H := ⟨fun _ _ h _ _ => h, fun _ h => .inl h, fun _ h => h⟩

theorem wipeG_len : ∀ vs : List Nat, (wipeG G vs).length = G.length
  | [] => rfl
  | v :: vs => by rw [wipeG, List.length_set, wipeG_len vs]
theorem restore_len {ρ' : List D} : ∀ vs : List Nat, (restore ρ ρ' vs).length = ρ'.length
  | [] => rfl
  | v :: vs => by rw [restore, List.length_set, restore_len vs]
theorem wipeG_get {i : Nat} {k : Knd} : ∀ {vs : List Nat}, (wipeG G vs)[i]? = some k → k = .un ∨ (G[i]? = some k ∧ i ∉ vs)
  | [], h => .inr ⟨h, by simp⟩
  | v :: vs, h => by
    unfold wipeG at h
    by_cases hv : v = i
    · subst hv
      by_cases hl : v < (wipeG G vs).length
      · rw [List.getElem?_set_self hl] at h
        cases h
        exact .inl rfl
      · rw [List.getElem?_eq_none (by simpa using hl)] at h; cases h
    · rw [List.getElem?_set_ne hv] at h
      rcases wipeG_get h with h | ⟨h1, h2⟩
      · exact .inl h
      · exact .inr ⟨h1, by simp only [List.mem_cons, not_or]; exact ⟨fun e => hv e.symm, h2⟩⟩
theorem wipeG_out {i : Nat} : ∀ {vs : List Nat}, i ∉ vs → (wipeG G vs)[i]? = G[i]?
  | [], _ => rfl
  | v :: vs, h => by
    have h1 : v ≠ i := fun e => h (by rw [e]; exact List.mem_cons_self)
    unfold wipeG
    rw [List.getElem?_set_ne h1]
    exact wipeG_out fun m => h (List.mem_cons_of_mem _ m)
theorem restore_out {ρ' : List D} {i : Nat} : ∀ {vs : List Nat}, i ∉ vs → (restore ρ ρ' vs).getD i .non = ρ'.getD i .non
  | [], _ => rfl
  | v :: vs, h => by
    have h1 : v ≠ i := fun e => h (by rw [e]; exact List.mem_cons_self)
    unfold restore
    rw [getD_set_ne h1]
    exact restore_out fun m => h (List.mem_cons_of_mem _ m)
theorem restore_in {ρ' : List D} {i : Nat} (hl : i < ρ'.length) : ∀ {vs : List Nat}, i ∈ vs → (restore ρ ρ' vs).getD i .non = ρ.getD i .non
  | v :: vs, h => by
    unfold restore
    by_cases hv : v = i
    · subst hv
      rw [getD_set_eq (by rw [restore_len]; exact hl)]
    · rw [getD_set_ne hv]
      exact restore_in hl ((List.mem_cons.mp h).resolve_left fun e => hv e.symm)
theorem wipe_in {τ : L2.St} {j : Nat} : ∀ {vs : List Nat}, j ∈ vs → j < τ.length → (L2.wipe τ vs)[j]? = some none
  | v :: vs, hj, hl => by
    unfold L2.wipe
    by_cases hvj : v = j
    · subst hvj
      rw [List.getElem?_set_self (by rw [wipe_length]; exact hl)]
    · rw [List.getElem?_set_ne hvj]
      exact wipe_in ((List.mem_cons.mp hj).resolve_left fun e => hvj e.symm) hl
/-- into a block -/
theorem Gd.wipe (vs : List Nat) (hv : ∀ i ∈ vs, i + 1 ≠ w.n0) (g : Gd F w ow G ρ σ H) : Gd F w ow (wipeG G vs) ρ (L2.wipe σ vs) H where
  len := by rw [wipeG_len, wipe_length]; exact g.len
  same := g.same
  dom := g.dom
  trk := g.trk
  wr := g.wr
  tabs := g.tabs
  io := fun i hi => by rw [wipeG_out fun m => by have := hv i m; omega]; exact g.io i hi
  slot := fun i k e => by
    rcases wipeG_get e with h | ⟨h1, h2⟩
    · subst h; trivial
    · rw [wipe_out h2]; exact g.slot i k h1
/-- out of a block: what the names of the block were ahead of it, they are again -/
theorem Gd.unwipe {w' : Wd} {ow' : Own} {ρ' : List D} {H' : Hp} (vs : List Nat) (hv : ∀ i ∈ vs, i + 1 ≠ w'.n0) (ho : ∀ i ∈ vs, G[i]? ≠ some .ow) (g : Gd F w ow G ρ σ H) (x : Ext (Av w ow) (Av w' ow') H H') (g' : Gd F w' ow' (wipeG G vs) ρ' (L2.wipe σ vs) H') (he : ∀ i ∈ vs, ρ'.getD i .non = ρ.getD i .non) : Gd F w' ow' G ρ' σ H' where
  len := by have := g'.len; rw [wipeG_len, wipe_length] at this; exact this
  same := g'.same
  dom := g'.dom
  trk := g'.trk
  wr := g'.wr
  tabs := g'.tabs
  io := fun i hi => by
    have h := g'.io i hi
    rw [wipeG_out fun m => by have := hv i m; omega] at h
    exact h
  slot := fun i k e => by
    by_cases hm : i ∈ vs
    · rw [he i hm]
      have h := g.slot i k e
      cases k with
      | un => trivial
      | va =>
        obtain ⟨v, e1, r⟩ := h
        exact ⟨v, e1, Rp.ext x _ _ r⟩
      | ow => exact (ho i hm e).elim
    · have h := g'.slot i k (by rw [wipeG_out hm]; exact e)
      rw [wipe_out hm] at h
      exact h
/-- the data of the block's names do not matter within it -/
theorem Gd.reset {ρ' : List D} (vs : List Nat) (hl : ρ'.length = ρ.length) (he : ∀ i, i ∉ vs → ρ'.getD i .non = ρ.getD i .non) (g : Gd F w ow (wipeG G vs) ρ σ H) : Gd F w ow (wipeG G vs) ρ' σ H where
  len := ⟨by rw [hl]; exact g.len.1, g.len.2⟩
  same := g.same
  dom := g.dom
  trk := g.trk
  wr := g.wr
  tabs := g.tabs
  io := g.io
  slot := fun i k e => by
    rcases wipeG_get e with h | ⟨h1, h2⟩
    · subst h; trivial
    · rw [he i h2]; exact g.slot i k e
theorem restore_same {ρ' : List D} {vs : List Nat} (hl : ρ'.length = ρ.length) : ∀ i ∈ vs, (restore ρ ρ' vs).getD i .non = ρ.getD i .non := fun i hi => by
  by_cases h : i < ρ'.length
  · exact restore_in h hi
  · rw [List.getD_eq_getElem?_getD, List.getD_eq_getElem?_getD, List.getElem?_eq_none (by rw [restore_len]; omega), List.getElem?_eq_none (by omega)]

def cG (F : Fx) (ws : List Nat) (G : List Knd) (mg : MG) (G' : List Knd) : TG := fun v σ H Q => ∃ w ow ρ d ρ', Gd F w ow G ρ σ H ∧ Rp F H (Av w ow) d v ∧ mg d ρ = some ρ' ∧
  ∀ σ' ow', Gd F w ow' G' ρ' σ' H → Kp w σ σ' → Ext (Av w ow) (Av w ow') H H → (∀ i, i ∉ ws → σ'[i]? = σ[i]?) → Q σ' H
theorem EvG.can {ws : List Nat} {mg : MG} (h : EvG F X ws G tg mg G') (hX : Fits F X) : PG X tg (cG F ws G mg G') := by
  obtain ⟨t, p, k⟩ := h hX
  exact ⟨fun pins s σ H v u Q I r ⟨w, ow, ρ, d, ρ', g, rd, e, q⟩ => p.run pins s σ H v u Q I r (k w ow ρ σ H d v ρ' Q g rd e q)⟩
def cE (F : Fx) (E : XK) (G : List Knd) (m : M D) : TE := fun σ H Q => ∃ w ow ρ, Gd F w ow G ρ σ H ∧ Post F w ow E G σ H (m ρ) (fun d ow' _ H' => ∀ v, Rp F H' (Av w ow') d v → Q v H')
theorem EvE.can {e : Expr} {m : M D} (h : EvE F X E G e m) (hX : Fits F X) : PE X e (cE F E G m) := by
  obtain ⟨t, p, k⟩ := h hX
  exact ⟨fun pins s σ H Q I ⟨w, ow, ρ, g, q⟩ => p.run pins s σ H Q I (k w ow ρ σ H Q g q)⟩
def cI (F : Fx) (E : XK) (G : List Knd) (m : M (List D)) : TI := fun σ H R => ∃ w ow ρ, Gd F w ow G ρ σ H ∧ Post F w ow E G σ H (m ρ) (fun ds ow' _ H' => ∀ J, WalkD F (Av w ow') H' J ds → R J H')
theorem EvI.can {e : Expr} {m : M (List D)} (h : EvI F X E G tg e m) (hX : Fits F X) : PI X tg e (cI F E G m) := by
  obtain ⟨t, p, k⟩ := h hX
  exact ⟨fun pins s σ H Q I ⟨w, ow, ρ, g, q⟩ => p.run pins s σ H Q I (k w ow ρ σ H Q g q)⟩
/-- the tests of a clause -/
def EvTs (F : Fx) (X : Cx) (E : XK) (G : List Knd) (es : List Expr) (m : M Bool) : Prop :=
  Fits F X → ∃ t, PTs X es t ∧ ∀ w ow ρ σ H Q, Gd F w ow G ρ σ H → Post F w ow E G σ H (m ρ) (fun b _ _ H' => Q b H') → t σ H Q
def tsNo : M Bool := M.ret true
theorem ets_nil : EvTs F X E G [] tsNo := fun hX => ⟨_, pts_nil, fun w ow ρ σ H Q g h => h H ow g Ext.refl⟩
theorem ets_one {e : Expr} {m : M Bool} (h : EvT F X E G e m) : EvTs F X E G [e] m := fun hX => let ⟨t, p, k⟩ := h hX; ⟨t, pts_one p, k⟩
def cTs (F : Fx) (E : XK) (G : List Knd) (m : M Bool) : TT := fun σ H Q => ∃ w ow ρ, Gd F w ow G ρ σ H ∧ Post F w ow E G σ H (m ρ) (fun b _ _ H' => Q b H')
theorem EvTs.can {es : List Expr} {m : M Bool} (h : EvTs F X E G es m) (hX : Fits F X) : PTs X es (cTs F E G m) := by
  obtain ⟨t, p, k⟩ := h hX
  exact ⟨fun pins s σ H Q I ⟨w, ow, ρ, g, q⟩ => p.run pins s σ H Q I (k w ow ρ σ H Q g q)⟩
abbrev EF : XK := fun _ _ _ => False
theorem Post.noEx {α : Type} {r : R α} {Q : α → Own → List D → Hp → Prop} {S : α → List D → Prop} (h : match r with | .ok a ρ' => S a ρ' | _ => False) (k : ∀ a ow' ρ' H', r = .ok a ρ' → S a ρ' → Gd F w ow' G ρ' σ H' → Ext (Av w ow) (Av w ow') H H' → Q a ow' ρ' H') : Post F w ow EF G σ H r Q := by
  cases r with
  | ok a ρ' => exact fun H' ow' g x => k a ow' ρ' H' rfl h g x
  | _ => exact h.elim

def compL (vs : List Nat) (mg : MG) (mt : M Bool) (me : M D) : List D → M (List D)
  | [], ρ => .ok [] ρ
  | d :: ds, ρ => match mg d ρ with
    | none => .bad
    | some ρ1 => match mt ρ1 with
      | .ok true ρ2 => match me ρ2 with
        | .ok x ρ3 => match compL vs mg mt me ds (restore ρ ρ3 vs) with
          | .ok xs ρ4 => .ok (x :: xs) ρ4
          | _ => .bad
        | _ => .bad
      | .ok false ρ2 => compL vs mg mt me ds (restore ρ ρ2 vs)
      | _ => .bad
def szL (xs : List D) : Option D := if xs.length ≤ SZ then some (.lst xs) else none
def mLc (vs : List Nat) (mi : M (List D)) (mg : MG) (mt : M Bool) (me : M D) : M D := mi.bind fun ds => (M.bind (compL vs mg mt me ds) fun xs => M.opt (szL xs))
theorem compL_nox {vs : List Nat} {mg : MG} {mt : M Bool} {me : M D} : ∀ (ds : List D) (ρ : List D) (e : Ex) (ρf : List D), compL vs mg mt me ds ρ ≠ .ex e ρf := by
  intro ds
  induction ds with
  | nil => intro ρ e ρf z; cases z
  | cons d ds ih =>
    intro ρ e ρf z
    unfold compL at z
    cases e1 : mg d ρ with
    | none => rw [e1] at z; cases z
    | some ρ1 =>
      rw [e1] at z
      dsimp only at z
      cases e2 : mt ρ1 with
      | ok b ρ2 =>
        rw [e2] at z
        cases b with
        | true =>
          dsimp only at z
          cases e3 : me ρ2 with
          | ok x ρ3 =>
            rw [e3] at z
            dsimp only at z
            cases e4 : compL vs mg mt me ds (restore ρ ρ3 vs) with
            | ok xs ρ4 => rw [e4] at z; cases z
            | ex _ _ => rw [e4] at z; cases z
            | bad => rw [e4] at z; cases z
          | ex _ _ => rw [e3] at z; cases z
          | bad => rw [e3] at z; cases z
        | false => exact ih _ _ _ z
      | ex _ _ => rw [e2] at z; cases z
      | bad => rw [e2] at z; cases z
theorem wipe_eq {vs : List Nat} {σ2 : L2.St} (hl : σ2.length = σ.length) (s2 : ∀ i, i ∉ vs → σ2[i]? = (L2.wipe σ vs)[i]?) : L2.wipe σ2 vs = L2.wipe σ vs := by
  apply List.ext_getElem?
  intro j
  by_cases hj : j ∈ vs
  · by_cases hl' : j < σ.length
    · rw [wipe_in hj hl', wipe_in hj (by omega)]
    · rw [List.getElem?_eq_none (by rw [wipe_length]; omega), List.getElem?_eq_none (by rw [wipe_length]; omega)]
  · rw [wipe_out hj, s2 j hj]
/-- the loop of a block: from acc0 to acc0 ++ xs -/
theorem lc_loop {vs : List Nat} {Gt : List Knd} {mg : MG} {mt : M Bool} {me : M D} {J : It} {ds xs ρf acc0 : List D} {avb : Addr → Prop} {Hb H1 : Hp} {ow1 : Own} {ρ1 : List D} {Da : Addr} {avs0 : List V} {Qd : Hp → Prop}
    (W : WalkD F avb Hb J ds) (hx : Ext avb (Av (w.held Da (.lst avs0)) ow1) Hb H1) (hv : ∀ i ∈ vs, i + 1 ≠ w.n0) (hG : wipeG Gt vs = wipeG G vs) (h0 : w.H0 Da = none)
    (g1 : Gd F (w.held Da (.lst avs0)) ow1 (wipeG G vs) ρ1 (L2.wipe σ vs) H1) (r1 : RpL F H1 (Av (w.held Da (.lst avs0)) ow1) acc0 avs0) (ec : compL vs mg mt me ds ρ1 = .ok xs ρf) (hz : (acc0 ++ xs).length ≤ SZ)
    (hd : ∀ H' ow' avs, Gd F (w.held Da (.lst avs)) ow' (wipeG G vs) ρf (L2.wipe σ vs) H' → Ext (Av (w.held Da (.lst avs0)) ow1) (Av (w.held Da (.lst avs)) ow') H1 H' → RpL F H' (Av (w.held Da (.lst avs)) ow') (acc0 ++ xs) avs → (∀ j ∈ vs, ρf.getD j .non = ρ1.getD j .non) → Qd H') :
    ∃ W : Nat → Nat → Hp → Prop, (∃ m, W 0 m H1) ∧ ∀ i m H, W i m H → (J.stop i H ∧ Qd H) ∨ (J.go i H ∧ ∃ Nx : Hp → Prop, (∀ H', Nx H' → ∃ m', m' < m ∧ W (i + 1) m' H') ∧ ∀ x H', J.yld i H x H' → cG F vs (wipeG G vs) mg Gt x (L2.wipe σ vs) H' fun σ2 H2 => L2.wipe σ2 vs = L2.wipe σ vs ∧ cTs F EF Gt mt σ2 H2 fun b H3 =>
      if b = true then cE F EF Gt me σ2 H3 fun y H4 => ∃ acc, H4 Da = some (.lst acc) ∧ acc.length < sizeLine ∧ Nx (upd H4 Da (.lst (acc ++ [y]))) else Nx H3) := by
  have a3 : Gt.length = G.length := by
    have := congrArg List.length hG
    rw [wipeG_len, wipeG_len] at this
    exact this
  refine ⟨fun i m H' => m = ds.length - i ∧ i ≤ ds.length ∧ ∃ ow' ρ' acc avs rest, Gd F (w.held Da (.lst avs)) ow' (wipeG G vs) ρ' (L2.wipe σ vs) H' ∧ Ext (Av (w.held Da (.lst avs0)) ow1) (Av (w.held Da (.lst avs)) ow') H1 H' ∧ RpL F H' (Av (w.held Da (.lst avs)) ow') acc avs ∧
          compL vs mg mt me (ds.drop i) ρ' = .ok rest ρf ∧ acc ++ rest = acc0 ++ xs ∧ ∀ j ∈ vs, ρ'.getD j .non = ρ1.getD j .non, ⟨ds.length, by simp, Nat.zero_le _, ow1, ρ1, acc0, avs0, xs, g1, Ext.refl, r1, ec, rfl, fun _ _ => rfl⟩, ?_⟩
  rintro i m H' ⟨rfl, hile, ow', ρ', acc, avs, rest, g', x', ra, e', ea, es⟩
  by_cases hi : i < ds.length
  · refine .inr ⟨W.goes i H' _ (hx.trans x') hi, fun H' => ∃ ow' ρ' acc avs rest, Gd F (w.held Da (.lst avs)) ow' (wipeG G vs) ρ' (L2.wipe σ vs) H' ∧ Ext (Av (w.held Da (.lst avs0)) ow1) (Av (w.held Da (.lst avs)) ow') H1 H' ∧ RpL F H' (Av (w.held Da (.lst avs)) ow') acc avs ∧
          compL vs mg mt me (ds.drop (i + 1)) ρ' = .ok rest ρf ∧ acc ++ rest = acc0 ++ xs ∧ ∀ j ∈ vs, ρ'.getD j .non = ρ1.getD j .non, fun H2 q => ⟨ds.length - (i + 1), by omega, rfl, hi, q⟩, fun x H'' y => ?_⟩
    obtain ⟨gr, d, ed, rd⟩ := W.yields i H' _ x H'' (hx.trans x') g'.trk hi y
    rw [List.drop_eq_getElem_cons hi, show ds[i] = d from by rw [List.getElem?_eq_getElem hi] at ed; exact Option.some.inj ed, compL] at e'
    cases e1 : mg d ρ' with
    | none => rw [e1] at e'; cases e'
    | some ρ2 =>
      rw [e1] at e'
      dsimp only at e'
      refine ⟨w.held Da (.lst avs), ow', ρ', d, ρ2, g'.grow gr, rd, e1, fun σ2 ow2 g2 k2 x2 s2 => ?_⟩
      have hσ : L2.wipe σ2 vs = L2.wipe σ vs := wipe_eq (by
        have a1 := g2.len
        have a2 := g'.len
        rw [wipe_length, wipeG_len] at a2
        omega) s2
      have xx : Ext (Av (w.held Da (.lst avs0)) ow1) (Av (w.held Da (.lst avs)) ow2) H1 H'' := (x'.trans gr.ext).trans x2
      have ra2 : RpL F H'' (Av (w.held Da (.lst avs)) ow2) acc avs := RpL.ext (gr.ext.trans x2) _ _ ra
      refine ⟨hσ, w.held Da (.lst avs), ow2, ρ2, g2, ?_⟩
      cases e2 : mt ρ2 with
      | ex _ _ => rw [e2] at e'; cases e'
      | bad => rw [e2] at e'; cases e'
      | ok b ρ3 =>
        rw [e2] at e'
        intro H3 ow3 g3 x3
        have fin : ∀ {H4 : Hp} {ow4 : Own} {ρ4 : List D} {avs' : List V} {acc' rest' : List D}, Gd F (w.held Da (.lst avs')) ow4 Gt ρ4 σ2 H4 → Ext (Av (w.held Da (.lst avs0)) ow1) (Av (w.held Da (.lst avs')) ow4) H1 H4 → RpL F H4 (Av (w.held Da (.lst avs')) ow4) acc' avs' →
            compL vs mg mt me (ds.drop (i + 1)) (restore ρ' ρ4 vs) = .ok rest' ρf → acc' ++ rest' = acc0 ++ xs → ∃ ow' ρ' acc avs rest, Gd F (w.held Da (.lst avs)) ow' (wipeG G vs) ρ' (L2.wipe σ vs) H4 ∧ Ext (Av (w.held Da (.lst avs0)) ow1) (Av (w.held Da (.lst avs)) ow') H1 H4 ∧ RpL F H4 (Av (w.held Da (.lst avs)) ow') acc avs ∧
              compL vs mg mt me (ds.drop (i + 1)) ρ' = .ok rest ρf ∧ acc ++ rest = acc0 ++ xs ∧ ∀ j ∈ vs, ρ'.getD j .non = ρ1.getD j .non := fun {H4 ow4 ρ4 avs' acc' rest'} g4 x4 r4 e4 a4 => by
          have l4 : ρ4.length = ρ'.length := by
            have a1 := g4.len.1
            have a2 := g'.len.1
            rw [wipeG_len] at a2
            omega
          have g5 := g4.wipe vs (fun i hi => by have := hv i hi; show i + 1 ≠ w.n0; omega)
          rw [hG, hσ] at g5
          exact ⟨ow4, restore ρ' ρ4 vs, acc', avs', rest', g5.reset vs (restore_len vs) (fun i hi => restore_out hi), x4, r4, e4, a4, fun j hj => (restore_same l4 j hj).trans (es j hj)⟩
        cases b with
        | false =>
          simp only [Bool.false_eq_true, if_false]
          exact fin g3 (xx.trans x3) (RpL.ext x3 _ _ ra2) e' ea
        | true =>
          simp only [if_true]
          dsimp only at e'
          refine ⟨w.held Da (.lst avs), ow3, ρ3, g3, ?_⟩
          cases e3 : me ρ3 with
          | ex _ _ => rw [e3] at e'; cases e'
          | bad => rw [e3] at e'; cases e'
          | ok z ρ4 =>
            rw [e3] at e'
            dsimp only at e'
            intro H4 ow4 g4 x4 v rv
            cases e5 : compL vs mg mt me (ds.drop (i + 1)) (restore ρ' ρ4 vs) with
            | ex _ _ => rw [e5] at e'; cases e'
            | bad => rw [e5] at e'; cases e'
            | ok rest' ρ5 =>
              rw [e5] at e'
              cases e'
              have r4 : RpL F H4 (Av (w.held Da (.lst avs)) ow4) acc avs := RpL.ext (x3.trans x4) _ _ ra2
              have lz : avs.length < sizeLine := by
                rw [← r4.length, ← SZ_eq]
                rw [← ea] at hz
                simp only [List.length_append, List.length_cons] at hz
                omega
              have pt := g4.put (o' := .lst (avs ++ [v])) h0 noTbl_lst noTbl_lst (fun _ _ z => nomatch z)
              refine ⟨avs, g4.at_held noTbl_lst, lz, fin (acc' := acc ++ [z]) pt.1 (((xx.trans x3).trans x4).trans pt.2) ?_ e5 ?_⟩
              · exact RpL.ext pt.2 _ _ (RpL.append r4 (RpL.cons rv RpL.nil))
              · rw [← ea, List.append_assoc]; rfl
  · have hie : i = ds.length := by omega
    subst hie
    rw [List.drop_length, compL] at e'
    cases e'
    rw [List.append_nil] at ea
    subst ea
    exact .inl ⟨W.stops H' _ (hx.trans x'), hd H' ow' avs g' x' ra es⟩
theorem lc_spec {wi : TI} {vs : List Nat} {Gt : List Knd} {mi : M (List D)} {mg : MG} {mt : M Bool} {me : M D}
    (ki : ∀ w ow ρ σ H R, Gd F w ow G ρ σ H → Post F w ow E G σ H (mi ρ) (fun ds ow' _ H' => ∀ J, WalkD F (Av w ow') H' J ds → R J H') → wi σ H R)
    (ho : ∀ i ∈ vs, G[i]? ≠ some .ow) (hG : wipeG Gt vs = wipeG G vs) :
    ∀ w ow ρ σ H Q, Gd F w ow G ρ σ H → PostN F w ow E G σ H (mLc vs mi mg mt me ρ) Q → tLc wi (cG F vs (wipeG G vs) mg Gt) (cTs F EF Gt mt) (cE F EF Gt me) vs σ H Q := fun w ow ρ σ H Q g h => by
  have hv : ∀ i ∈ vs, i + 1 ≠ w.n0 := fun i hi => fun z => ho i hi (g.io i z)
  refine ki w ow ρ σ H _ g (Post.mono (PostN.split (k := fun ds => M.bind (compL vs mg mt me ds) fun xs => M.opt (szL xs)) h) fun ds ow1 ρ1 H1 _ _ _ ⟨g1, x1, h1, h2⟩ J W => fun Da hD => ?_)
  cases ec : compL vs mg mt me ds ρ1 with
  | bad => exact (h2 (by show R.bind (compL vs mg mt me ds ρ1) _ = _; rw [ec]; rfl)).elim
  | ex e ρf => exact (compL_nox _ _ _ _ ec).elim
  | ok xs ρf =>
    by_cases hz : xs.length ≤ SZ
    · have h3 := h1 (.lst xs) ρf (by show R.bind (compL vs mg mt me ds ρ1) _ = _; rw [ec]; show M.opt (szL xs) ρf = _; unfold szL; rw [if_pos hz]; rfl)
      have hn' : w.H0 Da = none := g1.dom Da hD
      have gD : Gd F (w.held Da (.lst [])) ow1 G ρ1 σ (upd H1 Da (.lst [])) := (g1.plus (Grow.upd hD) hD (by rw [upd_same]; simp)).held upd_same
      have xD : Ext (Av w ow1) (Av (w.held Da (.lst [])) ow1) H1 (upd H1 Da (.lst [])) := ⟨(Grow.upd hD).ext.keep, fun b z => (av_plus.mp z).elim .inl fun e => .inr (by rw [e]; exact hD), (Grow.upd hD).ext.there (av := Av w ow1)⟩
      refine lc_loop (acc0 := []) W xD hv hG hn' (gD.wipe vs hv) RpL.nil ec (by simpa using hz) fun H' ow' avs g' x' ra es => ?_
      have g2 : Gd F (w.held Da (.lst avs)) ow' G ρf σ H' := Gd.unwipe vs hv ho g1 (xD.trans x') g' es
      exact h3 H' ow' Da (g2.unheld hn') (x1.trans (xD.trans ⟨x'.keep, x'.av, x'.there⟩)) (x1.there _ hD) ⟨avs, g'.at_held noTbl_lst, ra⟩
    · exact (h2 (by show R.bind (compL vs mg mt me ds ρ1) _ = _; rw [ec]; show M.opt (szL xs) ρf = _; unfold szL; rw [if_neg hz]; rfl)).elim
def compL2 (vs vs1 : List Nat) (mg : MG) (mt : M Bool) (mi1 : M (List D)) (mg1 : MG) (mt1 : M Bool) (me : M D) : List D → M (List D)
  | [], ρ => .ok [] ρ
  | d :: ds, ρ => match mg d ρ with
    | none => .bad
    | some ρ1 => match mt ρ1 with
      | .ok true ρ2 => match mi1 ρ2 with
        | .ok es ρ3 => match compL vs1 mg1 mt1 me es ρ3 with
          | .ok xs ρ4 => match compL2 vs vs1 mg mt mi1 mg1 mt1 me ds (restore ρ ρ4 vs) with
            | .ok ys ρ5 => .ok (xs ++ ys) ρ5
            | _ => .bad
          | _ => .bad
        | _ => .bad
      | .ok false ρ2 => compL2 vs vs1 mg mt mi1 mg1 mt1 me ds (restore ρ ρ2 vs)
      | _ => .bad
def mLc2 (vs vs1 : List Nat) (mi : M (List D)) (mg : MG) (mt : M Bool) (mi1 : M (List D)) (mg1 : MG) (mt1 : M Bool) (me : M D) : M D := mi.bind fun ds => (M.bind (compL2 vs vs1 mg mt mi1 mg1 mt1 me ds) fun xs => M.opt (szL xs))
theorem compL2_nox {vs vs1 : List Nat} {mg mg1 : MG} {mt mt1 : M Bool} {mi1 : M (List D)} {me : M D} : ∀ (ds : List D) (ρ : List D) (e : Ex) (ρf : List D), compL2 vs vs1 mg mt mi1 mg1 mt1 me ds ρ ≠ .ex e ρf := by
  intro ds
  induction ds with
  | nil => intro ρ e ρf z; cases z
  | cons d ds ih =>
    intro ρ e ρf z
    unfold compL2 at z
    cases e1 : mg d ρ with
    | none => rw [e1] at z; cases z
    | some ρ1 =>
      rw [e1] at z
      dsimp only at z
      cases e2 : mt ρ1 with
      | ok b ρ2 =>
        rw [e2] at z
        cases b with
        | true =>
          dsimp only at z
          cases e3 : mi1 ρ2 with
          | ok es ρ3 =>
            rw [e3] at z
            dsimp only at z
            cases e4 : compL vs1 mg1 mt1 me es ρ3 with
            | ok xs ρ4 =>
              rw [e4] at z
              dsimp only at z
              cases e5 : compL2 vs vs1 mg mt mi1 mg1 mt1 me ds (restore ρ ρ4 vs) with
              | ok xs ρ4 => rw [e5] at z; cases z
              | ex _ _ => rw [e5] at z; cases z
              | bad => rw [e5] at z; cases z
            | ex _ _ => rw [e4] at z; cases z
            | bad => rw [e4] at z; cases z
          | ex _ _ => rw [e3] at z; cases z
          | bad => rw [e3] at z; cases z
        | false => exact ih _ _ _ z
      | ex _ _ => rw [e2] at z; cases z
      | bad => rw [e2] at z; cases z
theorem wipe_wipe {vs vs1 : List Nat} {σ2 : L2.St} (hs : ∀ i ∈ vs1, i ∈ vs) : L2.wipe (L2.wipe σ2 vs1) vs = L2.wipe σ2 vs :=
  wipe_eq (wipe_length _ _) fun i hi => by rw [wipe_out fun m => hi (hs i m), wipe_out hi]
theorem wipeG_wipeG {vs vs1 : List Nat} (hs : ∀ i ∈ vs1, i ∈ vs) : wipeG (wipeG G vs1) vs = wipeG G vs := by
  have inn : ∀ {G : List Knd} {vs : List Nat} {j : Nat}, j ∈ vs → j < G.length → (wipeG G vs)[j]? = some .un := by
    intro G vs j hj hl
    induction vs with
    | nil => cases hj
    | cons v vs ih =>
      unfold wipeG
      by_cases hvj : v = j
      · subst hvj
        rw [List.getElem?_set_self (by rw [wipeG_len]; exact hl)]
      · rw [List.getElem?_set_ne hvj]
        exact ih ((List.mem_cons.mp hj).resolve_left fun e => hvj e.symm)
  apply List.ext_getElem?
  intro j
  by_cases hj : j ∈ vs
  · by_cases hl' : j < G.length
    · rw [inn hj hl', inn hj (by rw [wipeG_len]; exact hl')]
    · rw [List.getElem?_eq_none (by rw [wipeG_len, wipeG_len]; omega), List.getElem?_eq_none (by rw [wipeG_len]; omega)]
  · rw [wipeG_out hj, wipeG_out hj, wipeG_out fun m => hj (hs j m)]
theorem lc2_spec {wi : TI} {vs vs1 : List Nat} {Gt Gt1 : List Knd} {mi mi1 : M (List D)} {mg mg1 : MG} {mt mt1 : M Bool} {me : M D}
    (ki : ∀ w ow ρ σ H R, Gd F w ow G ρ σ H → Post F w ow E G σ H (mi ρ) (fun ds ow' _ H' => ∀ J, WalkD F (Av w ow') H' J ds → R J H') → wi σ H R)
    (ho : ∀ i ∈ vs, G[i]? ≠ some .ow) (hs : ∀ i ∈ vs1, i ∈ vs) (hG : wipeG Gt vs = wipeG G vs) (hG1 : wipeG Gt1 vs1 = wipeG Gt vs1) :
    ∀ w ow ρ σ H Q, Gd F w ow G ρ σ H → PostN F w ow E G σ H (mLc2 vs vs1 mi mg mt mi1 mg1 mt1 me ρ) Q → tLc2 wi (cG F vs (wipeG G vs) mg Gt) (cTs F EF Gt mt) (cI F EF Gt mi1) (cG F vs1 (wipeG Gt vs1) mg1 Gt1) (cTs F EF Gt1 mt1) (cE F EF Gt1 me) vs vs1 σ H Q := fun w ow ρ σ H Q g h => by
  have hv : ∀ i ∈ vs, i + 1 ≠ w.n0 := fun i hi => fun z => ho i hi (g.io i z)
  have a3 : Gt.length = G.length := by
    have := congrArg List.length hG
    rw [wipeG_len, wipeG_len] at this
    exact this
  refine ki w ow ρ σ H _ g (Post.mono (PostN.split (k := fun ds => M.bind (compL2 vs vs1 mg mt mi1 mg1 mt1 me ds) fun xs => M.opt (szL xs)) h) fun ds ow1 ρ1 H1 _ _ _ ⟨g1, x1, h1, h2⟩ J W => fun Da hD => ?_)
  cases ec : compL2 vs vs1 mg mt mi1 mg1 mt1 me ds ρ1 with
  | bad => exact (h2 (by show R.bind (compL2 vs vs1 mg mt mi1 mg1 mt1 me ds ρ1) _ = _; rw [ec]; rfl)).elim
  | ex e ρf => exact (compL2_nox _ _ _ _ ec).elim
  | ok xs ρf =>
    by_cases hz : xs.length ≤ SZ
    · have h3 := h1 (.lst xs) ρf (by show R.bind (compL2 vs vs1 mg mt mi1 mg1 mt1 me ds ρ1) _ = _; rw [ec]; show M.opt (szL xs) ρf = _; unfold szL; rw [if_pos hz]; rfl)
      have h0 : w.H0 Da = none := g1.dom Da hD
      have gD : Gd F (w.held Da (.lst [])) ow1 G ρ1 σ (upd H1 Da (.lst [])) := (g1.plus (Grow.upd hD) hD (by rw [upd_same]; simp)).held upd_same
      have xD : Ext (Av w ow1) (Av (w.held Da (.lst [])) ow1) H1 (upd H1 Da (.lst [])) := ⟨(Grow.upd hD).ext.keep, fun b z => (av_plus.mp z).elim .inl fun e => .inr (by rw [e]; exact hD), (Grow.upd hD).ext.there (av := Av w ow1)⟩
      refine ⟨fun i m H' => m = ds.length - i ∧ i ≤ ds.length ∧ ∃ ow' ρ' acc avs rest, Gd F (w.held Da (.lst avs)) ow' (wipeG G vs) ρ' (L2.wipe σ vs) H' ∧ Ext (Av w ow1) (Av (w.held Da (.lst avs)) ow') H1 H' ∧ RpL F H' (Av (w.held Da (.lst avs)) ow') acc avs ∧
          compL2 vs vs1 mg mt mi1 mg1 mt1 me (ds.drop i) ρ' = .ok rest ρf ∧ acc ++ rest = xs ∧ ∀ j ∈ vs, ρ'.getD j .non = ρ1.getD j .non, ⟨ds.length, by simp, Nat.zero_le _, ow1, ρ1, [], [], xs, gD.wipe vs hv, xD, RpL.nil, ec, rfl, fun _ _ => rfl⟩, ?_⟩
      rintro i m H' ⟨rfl, hile, ow', ρ', acc, avs, rest, g', x', ra, e', ea, es⟩
      by_cases hi : i < ds.length
      · refine .inr ⟨W.goes i H' _ x' hi, fun H' => ∃ ow' ρ' acc avs rest, Gd F (w.held Da (.lst avs)) ow' (wipeG G vs) ρ' (L2.wipe σ vs) H' ∧ Ext (Av w ow1) (Av (w.held Da (.lst avs)) ow') H1 H' ∧ RpL F H' (Av (w.held Da (.lst avs)) ow') acc avs ∧
          compL2 vs vs1 mg mt mi1 mg1 mt1 me (ds.drop (i + 1)) ρ' = .ok rest ρf ∧ acc ++ rest = xs ∧ ∀ j ∈ vs, ρ'.getD j .non = ρ1.getD j .non, fun H2 q => ⟨ds.length - (i + 1), by omega, rfl, hi, q⟩, fun x H'' y => ?_⟩
        obtain ⟨gr, d, ed, rd⟩ := W.yields i H' _ x H'' x' g'.trk hi y
        rw [List.drop_eq_getElem_cons hi, show ds[i] = d from by rw [List.getElem?_eq_getElem hi] at ed; exact Option.some.inj ed, compL2] at e'
        cases e1 : mg d ρ' with
        | none => rw [e1] at e'; cases e'
        | some ρ2 =>
          rw [e1] at e'
          dsimp only at e'
          refine ⟨w.held Da (.lst avs), ow', ρ', d, ρ2, g'.grow gr, rd, e1, fun σ2 ow2 g2 k2 x2 s2 => ?_⟩
          have l2 : σ2.length = σ.length := by
            have a1 := g2.len
            have a2 := g'.len
            rw [wipe_length, wipeG_len] at a2
            omega
          have hσ : L2.wipe σ2 vs = L2.wipe σ vs := wipe_eq l2 s2
          have xx : Ext (Av w ow1) (Av (w.held Da (.lst avs)) ow2) H1 H'' := (x'.trans gr.ext).trans x2
          have ra2 : RpL F H'' (Av (w.held Da (.lst avs)) ow2) acc avs := RpL.ext (gr.ext.trans x2) _ _ ra
          refine ⟨hσ, w.held Da (.lst avs), ow2, ρ2, g2, ?_⟩
          have fin : ∀ {H4 : Hp} {ow4 : Own} {ρ4 : List D} {avs' : List V} {acc' rest' : List D} {Gz : List Knd} {σz : L2.St}, Gd F (w.held Da (.lst avs')) ow4 Gz ρ4 σz H4 → wipeG Gz vs = wipeG G vs → L2.wipe σz vs = L2.wipe σ vs → Ext (Av w ow1) (Av (w.held Da (.lst avs')) ow4) H1 H4 → RpL F H4 (Av (w.held Da (.lst avs')) ow4) acc' avs' →
              compL2 vs vs1 mg mt mi1 mg1 mt1 me (ds.drop (i + 1)) (restore ρ' ρ4 vs) = .ok rest' ρf → acc' ++ rest' = xs → ∃ ow' ρ' acc avs rest, Gd F (w.held Da (.lst avs)) ow' (wipeG G vs) ρ' (L2.wipe σ vs) H4 ∧ Ext (Av w ow1) (Av (w.held Da (.lst avs)) ow') H1 H4 ∧ RpL F H4 (Av (w.held Da (.lst avs)) ow') acc avs ∧
                compL2 vs vs1 mg mt mi1 mg1 mt1 me (ds.drop (i + 1)) ρ' = .ok rest ρf ∧ acc ++ rest = xs ∧ ∀ j ∈ vs, ρ'.getD j .non = ρ1.getD j .non := fun {H4 ow4 ρ4 avs' acc' rest' Gz σz} g4 hGz hσz x4 r4 e4 a4 => by
            have l4 : ρ4.length = ρ'.length := by
              have a1 := g4.len.1
              have a2 := g'.len.1
              have a4 := congrArg List.length hGz
              rw [wipeG_len, wipeG_len] at a4
              rw [wipeG_len] at a2
              omega
            have g5 := g4.wipe vs (fun i hi => by have := hv i hi; show i + 1 ≠ w.n0; omega)
            rw [hGz, hσz] at g5
            exact ⟨ow4, restore ρ' ρ4 vs, acc', avs', rest', g5.reset vs (restore_len vs) (fun i hi => restore_out hi), x4, r4, e4, a4, fun j hj => (restore_same l4 j hj).trans (es j hj)⟩
          cases e2 : mt ρ2 with
          | ex _ _ => rw [e2] at e'; cases e'
          | bad => rw [e2] at e'; cases e'
          | ok b ρ3 =>
            rw [e2] at e'
            intro H3 ow3 g3 x3
            cases b with
            | false =>
              simp only [Bool.false_eq_true, if_false]
              exact fin g3 hG hσ (xx.trans x3) (RpL.ext x3 _ _ ra2) e' ea
            | true =>
              simp only [if_true]
              dsimp only at e'
              refine ⟨w.held Da (.lst avs), ow3, ρ3, g3, ?_⟩
              cases e3 : mi1 ρ3 with
              | ex _ _ => rw [e3] at e'; cases e'
              | bad => rw [e3] at e'; cases e'
              | ok es1 ρ4 =>
                rw [e3] at e'
                dsimp only at e'
                intro H4 ow4 g4 x4 J1 W1
                cases e4 : compL vs1 mg1 mt1 me es1 ρ4 with
                | ex _ _ => rw [e4] at e'; cases e'
                | bad => rw [e4] at e'; cases e'
                | ok zs ρ5 =>
                  rw [e4] at e'
                  dsimp only at e'
                  cases e5 : compL2 vs vs1 mg mt mi1 mg1 mt1 me (ds.drop (i + 1)) (restore ρ' ρ5 vs) with
                  | ex _ _ => rw [e5] at e'; cases e'
                  | bad => rw [e5] at e'; cases e'
                  | ok rest' ρ6 =>
                    rw [e5] at e'
                    cases e'
                    have hv1 : ∀ i ∈ vs1, i + 1 ≠ w.n0 := fun i hi => hv i (hs i hi)
                    refine lc_loop (G := Gt) (σ := σ2) W1 Ext.refl hv1 hG1 h0 (g4.wipe vs1 hv1) (RpL.ext (x3.trans x4) _ _ ra2) e4 (by
                      rw [← ea] at hz
                      simp only [List.length_append] at hz ⊢
                      omega) fun H5 ow5 avs5 g5 x5 r5 es5 => ?_
                    refine fin g5 (by rw [wipeG_wipeG hs, hG]) (by rw [wipe_wipe hs, hσ]) (((xx.trans x3).trans x4).trans x5) r5 ?_ (by rw [List.append_assoc]; exact ea)
                    exact e5
      · have hie : i = ds.length := by omega
        subst hie
        rw [List.drop_length, compL2] at e'
        cases e'
        rw [List.append_nil] at ea
        subst ea
        have g2 : Gd F (w.held Da (.lst avs)) ow' G ρf σ H' := Gd.unwipe vs hv ho g1 x' g' es
        exact .inl ⟨W.stops H' _ x', h3 H' ow' Da (g2.unheld h0) (x1.trans ⟨x'.keep, x'.av, x'.there⟩) (x1.there _ hD) ⟨avs, g'.at_held noTbl_lst, ra⟩⟩
    · exact (h2 (by show R.bind (compL2 vs vs1 mg mt mi1 mg1 mt1 me ds ρ1) _ = _; rw [ec]; show M.opt (szL xs) ρf = _; unfold szL; rw [if_neg hz]; rfl)).elim
theorem fits_blk {s : Shared} {H : Hp} {scope : Scope} {ce : Env} {fp : List Addr} (hX : Fits F X) : Fits F (X.blk s H scope ce fp) := ⟨hX.p, hX.w, hX.k, hX.m⟩
abbrev Blk (X : Cx) (scope : Scope) (s : Shared) (H : Hp) (C : Addr) (cl : List (Str × Addr)) (fp : List Addr) : Cx := X.blk s H scope (compEnvC scope cl C X.env) fp
theorem en_lc {elt iter : Expr} {ifs : List Expr} {scope : Scope} {own : List (Str × Nat)} {pos : Pos} {Gt : List Knd} {mi : M (List D)} {mg : MG} {mt : M Bool} {me : M D} (hc : X.calm = true) (hN : X.N.Nodup) (hi : EvI F X E G tg iter mi) (ok : BlkOk X.N X.env.scope scope own)
    (hg : ∀ s H C cl fp, EvG F (Blk X scope s H C cl fp) (own.map (·.2)) (wipeG G (own.map (·.2))) tg mg Gt) (ht : ∀ s H C cl fp, EvTs F (Blk X scope s H C cl fp) EF Gt ifs mt) (he : ∀ s H C cl fp, EvE F (Blk X scope s H C cl fp) EF Gt elt me)
    (ho : ∀ i ∈ own.map (·.2), G[i]? ≠ some .ow) (hG : wipeG Gt (own.map (·.2)) = wipeG G (own.map (·.2)) := by rfl) (hs : ∀ x, foldedSetIterable iter X.env x = pure x := by intro _; rfl) : EvN F X E G (.ListComp elt [⟨tg, iter, ifs, 0⟩] scope pos) (mLc (own.map (·.2)) mi mg mt me) := fun hX => by
  obtain ⟨t, p, k⟩ := hi hX
  exact ⟨_, pe_lc hc hN p ok (fun s H C cl fp => (hg s H C cl fp).can (fits_blk hX)) (fun s H C cl fp => (ht s H C cl fp).can (fits_blk hX)) (fun s H C cl fp => (he s H C cl fp).can (fits_blk hX)) hs, lc_spec k ho hG⟩
/-- name = [..] on one line -/
theorem lc_set {elt iter : Expr} {ifs : List Expr} {scope : Scope} {own : List (Str × Nat)} {pos spos py : Pos} {i : Nat} {y : Str} {Gt : List Knd} {mi : M (List D)} {mg : MG} {mt : M Bool} {me : M D} (hc : X.calm = true) (hN : X.N.Nodup) (hy : X.N[i]? = some y) (hyl : X.env.scope.names.lookup y = some .local)
    (hsw : swapsWith (.ListComp elt [⟨tg, iter, ifs, 0⟩] scope pos) (some (.Name y py)) spos.line X.env = pure true) (hi : EvI F X E G tg iter mi) (ok : BlkOk X.N X.env.scope scope own)
    (hg : ∀ s H C cl fp, EvG F (Blk X scope s H C cl fp) (own.map (·.2)) (wipeG G (own.map (·.2))) tg mg Gt) (ht : ∀ s H C cl fp, EvTs F (Blk X scope s H C cl fp) EF Gt ifs mt) (he : ∀ s H C cl fp, EvE F (Blk X scope s H C cl fp) EF Gt elt me)
    (ho : ∀ i ∈ own.map (·.2), G[i]? ≠ some .ow) (hG : wipeG Gt (own.map (·.2)) = wipeG G (own.map (·.2))) (hs : ∀ x, foldedSetIterable iter X.env x = pure x) (hX : Fits F X) :
    ∃ t, PS X (.Assign [.Name y py] (.ListComp elt [⟨tg, iter, ifs, 0⟩] scope pos) spos) (tAsg t (gName i)) ∧ ∀ w ow ρ σ H Q, Gd F w ow G ρ σ H → PostN F w ow E G σ H (mLc (own.map (·.2)) mi mg mt me ρ) Q → t σ H Q := by
  obtain ⟨t, p, k⟩ := hi hX
  exact ⟨_, ps_setLc hc hN hy hyl hsw p ok (fun s H C cl fp => (hg s H C cl fp).can (fits_blk hX)) (fun s H C cl fp => (ht s H C cl fp).can (fits_blk hX)) (fun s H C cl fp => (he s H C cl fp).can (fits_blk hX)) hs, lc_spec k ho hG⟩
theorem x_setLcN {elt iter : Expr} {ifs : List Expr} {scope : Scope} {own : List (Str × Nat)} {pos spos py : Pos} {i : Nat} {y : Str} {Gt : List Knd} {mi : M (List D)} {mg : MG} {mt : M Bool} {me : M D} (hc : X.calm = true) (hN : X.N.Nodup) (hy : X.N[i]? = some y) (hyl : X.env.scope.names.lookup y = some .local)
    (hsw : swapsWith (.ListComp elt [⟨tg, iter, ifs, 0⟩] scope pos) (some (.Name y py)) spos.line X.env = pure true) (hi : EvI F X E G tg iter mi) (ok : BlkOk X.N X.env.scope scope own)
    (hg : ∀ s H C cl fp, EvG F (Blk X scope s H C cl fp) (own.map (·.2)) (wipeG G (own.map (·.2))) tg mg Gt) (ht : ∀ s H C cl fp, EvTs F (Blk X scope s H C cl fp) EF Gt ifs mt) (he : ∀ s H C cl fp, EvE F (Blk X scope s H C cl fp) EF Gt elt me)
    (ho : ∀ i ∈ own.map (·.2), G[i]? ≠ some .ow) (hn : i + 1 ≠ n0) (hG : wipeG Gt (own.map (·.2)) = wipeG G (own.map (·.2)) := by rfl) (hs : ∀ x, foldedSetIterable iter X.env x = pure x := by intro _; rfl) :
    ExS F X E fr n0 G (.Assign [.Name y py] (.ListComp elt [⟨tg, iter, ifs, 0⟩] scope pos) spos) (sSet i (mLc (own.map (·.2)) mi mg mt me)) (G.set i .ow) := fun hX => by
  obtain ⟨t, p, k⟩ := lc_set hc hN hy hyl hsw hi ok hg ht he ho hG hs hX
  exact ⟨_, p, fun w ow ρ σ H Dn hw g h => k w ow ρ σ H _ g (PostS.splitN (G' := G) g (by omega) h)⟩
theorem x_setLc {elt iter : Expr} {ifs : List Expr} {scope : Scope} {own : List (Str × Nat)} {pos spos py : Pos} {i : Nat} {y : Str} {Gt : List Knd} {mi : M (List D)} {mg : MG} {mt : M Bool} {me : M D} (hc : X.calm = true) (hN : X.N.Nodup) (hy : X.N[i]? = some y) (hyl : X.env.scope.names.lookup y = some .local)
    (hsw : swapsWith (.ListComp elt [⟨tg, iter, ifs, 0⟩] scope pos) (some (.Name y py)) spos.line X.env = pure true) (hi : EvI F X E G tg iter mi) (ok : BlkOk X.N X.env.scope scope own)
    (hg : ∀ s H C cl fp, EvG F (Blk X scope s H C cl fp) (own.map (·.2)) (wipeG G (own.map (·.2))) tg mg Gt) (ht : ∀ s H C cl fp, EvTs F (Blk X scope s H C cl fp) EF Gt ifs mt) (he : ∀ s H C cl fp, EvE F (Blk X scope s H C cl fp) EF Gt elt me)
    (ho : ∀ i ∈ own.map (·.2), G[i]? ≠ some .ow) (hn : i + 1 ≠ n0) (hG : wipeG Gt (own.map (·.2)) = wipeG G (own.map (·.2)) := by rfl) (hs : ∀ x, foldedSetIterable iter X.env x = pure x := by intro _; rfl) :
    ExS F X E fr n0 G (.Assign [.Name y py] (.ListComp elt [⟨tg, iter, ifs, 0⟩] scope pos) spos) (sSet i (mLc (own.map (·.2)) mi mg mt me)) (G.set i .va) := fun hX => by
  obtain ⟨t, p, k⟩ := lc_set hc hN hy hyl hsw hi ok hg ht he ho hG hs hX
  exact ⟨_, p, fun w ow ρ σ H Dn hw g h => k w ow ρ σ H _ g (Post.toN g (Post.mono (PostS.split h) fun d ow1 ρ1 H1 _ _ _ ⟨g1, x1, h1⟩ v rv => h1 _ H1 _ (g1.setV (by omega) rv) (kp_set (by omega)) ext_unOwn))⟩
theorem en_lc2 {elt iter iter1 tg1 : Expr} {ifs ifs1 : List Expr} {scope : Scope} {own : List (Str × Nat)} {vs1 : List Nat} {pos : Pos} {Gt Gt1 : List Knd} {mi mi1 : M (List D)} {mg mg1 : MG} {mt mt1 : M Bool} {me : M D} (hc : X.calm = true) (hN : X.N.Nodup) (hi : EvI F X E G tg iter mi) (ok : BlkOk X.N X.env.scope scope own) (hv : ∀ i ∈ vs1, i ∈ own.map (·.2))
    (hg : ∀ s H C cl fp, EvG F (Blk X scope s H C cl fp) (own.map (·.2)) (wipeG G (own.map (·.2))) tg mg Gt) (ht : ∀ s H C cl fp, EvTs F (Blk X scope s H C cl fp) EF Gt ifs mt) (hi1 : ∀ s H C cl fp, EvI F (Blk X scope s H C cl fp) EF Gt tg1 iter1 mi1)
    (hg1 : ∀ s H C cl fp, EvG F (Blk X scope s H C cl fp) vs1 (wipeG Gt vs1) tg1 mg1 Gt1) (ht1 : ∀ s H C cl fp, EvTs F (Blk X scope s H C cl fp) EF Gt1 ifs1 mt1) (he : ∀ s H C cl fp, EvE F (Blk X scope s H C cl fp) EF Gt1 elt me)
    (ho : ∀ i ∈ own.map (·.2), G[i]? ≠ some .ow) (hG : wipeG Gt (own.map (·.2)) = wipeG G (own.map (·.2)) := by rfl) (hG1 : wipeG Gt1 vs1 = wipeG Gt vs1 := by rfl) (hs : ∀ x, foldedSetIterable iter X.env x = pure x := by intro _; rfl) (hs1 : ∀ env x, foldedSetIterable iter1 env x = pure x := by intro _ _; rfl) :
    EvN F X E G (.ListComp elt [⟨tg, iter, ifs, 0⟩, ⟨tg1, iter1, ifs1, 0⟩] scope pos) (mLc2 (own.map (·.2)) vs1 mi mg mt mi1 mg1 mt1 me) := fun hX => by
  obtain ⟨t, p, k⟩ := hi hX
  exact ⟨_, pe_lc2 hc hN p ok hv (fun s H C cl fp => (hg s H C cl fp).can (fits_blk hX)) (fun s H C cl fp => (ht s H C cl fp).can (fits_blk hX)) (fun s H C cl fp => (hi1 s H C cl fp).can (fits_blk hX)) (fun s H C cl fp => (hg1 s H C cl fp).can (fits_blk hX)) (fun s H C cl fp => (ht1 s H C cl fp).can (fits_blk hX)) (fun s H C cl fp => (he s H C cl fp).can (fits_blk hX)) hs hs1, lc2_spec k ho hv hG hG1⟩
theorem x_setLc2 {elt iter iter1 tg1 : Expr} {ifs ifs1 : List Expr} {scope : Scope} {own : List (Str × Nat)} {vs1 : List Nat} {pos spos py : Pos} {i : Nat} {y : Str} {Gt Gt1 : List Knd} {mi mi1 : M (List D)} {mg mg1 : MG} {mt mt1 : M Bool} {me : M D} (hc : X.calm = true) (hN : X.N.Nodup) (hy : X.N[i]? = some y) (hyl : X.env.scope.names.lookup y = some .local)
    (hsw : swapsWith (.ListComp elt [⟨tg, iter, ifs, 0⟩, ⟨tg1, iter1, ifs1, 0⟩] scope pos) (some (.Name y py)) spos.line X.env = pure true) (hi : EvI F X E G tg iter mi) (ok : BlkOk X.N X.env.scope scope own) (hv : ∀ i ∈ vs1, i ∈ own.map (·.2))
    (hg : ∀ s H C cl fp, EvG F (Blk X scope s H C cl fp) (own.map (·.2)) (wipeG G (own.map (·.2))) tg mg Gt) (ht : ∀ s H C cl fp, EvTs F (Blk X scope s H C cl fp) EF Gt ifs mt) (hi1 : ∀ s H C cl fp, EvI F (Blk X scope s H C cl fp) EF Gt tg1 iter1 mi1)
    (hg1 : ∀ s H C cl fp, EvG F (Blk X scope s H C cl fp) vs1 (wipeG Gt vs1) tg1 mg1 Gt1) (ht1 : ∀ s H C cl fp, EvTs F (Blk X scope s H C cl fp) EF Gt1 ifs1 mt1) (he : ∀ s H C cl fp, EvE F (Blk X scope s H C cl fp) EF Gt1 elt me)
    (ho : ∀ i ∈ own.map (·.2), G[i]? ≠ some .ow) (hn : i + 1 ≠ n0) (hG : wipeG Gt (own.map (·.2)) = wipeG G (own.map (·.2)) := by rfl) (hG1 : wipeG Gt1 vs1 = wipeG Gt vs1 := by rfl) (hs : ∀ x, foldedSetIterable iter X.env x = pure x := by intro _; rfl) (hs1 : ∀ env x, foldedSetIterable iter1 env x = pure x := by intro _ _; rfl) :
    ExS F X E fr n0 G (.Assign [.Name y py] (.ListComp elt [⟨tg, iter, ifs, 0⟩, ⟨tg1, iter1, ifs1, 0⟩] scope pos) spos) (sSet i (mLc2 (own.map (·.2)) vs1 mi mg mt mi1 mg1 mt1 me)) (G.set i .va) := fun hX => by
  obtain ⟨t, p, k⟩ := hi hX
  have k2 := lc2_spec (mi := mi) (mg := mg) (mt := mt) (mi1 := mi1) (mg1 := mg1) (mt1 := mt1) (me := me) k ho hv hG hG1
  exact ⟨_, ps_setLc2 hc hN hy hyl hsw p ok hv (fun s H C cl fp => (hg s H C cl fp).can (fits_blk hX)) (fun s H C cl fp => (ht s H C cl fp).can (fits_blk hX)) (fun s H C cl fp => (hi1 s H C cl fp).can (fits_blk hX)) (fun s H C cl fp => (hg1 s H C cl fp).can (fits_blk hX)) (fun s H C cl fp => (ht1 s H C cl fp).can (fits_blk hX)) (fun s H C cl fp => (he s H C cl fp).can (fits_blk hX)) hs hs1,
    fun w ow ρ σ H Dn hw g h => k2 w ow ρ σ H _ g (Post.toN g (Post.mono (PostS.split h) fun d ow1 ρ1 H1 _ _ _ ⟨g1, x1, h1⟩ v rv => h1 _ H1 _ (g1.setV (by omega) rv) (kp_set (by omega)) ext_unOwn))⟩
end
end Hs

namespace Hs
open PySem PySem.Spec PyProof.Rows L2

inductive RF where
  | ok (d : D) (io : D)
  | ex (e : Ex) (io : D)
  | bad
abbrev Fn := List D → RF
def RS.rf : RS → RF
  | .nx ρ => .ok .non (ρ.getD 0 .non)
  | .rt d ρ => .ok d (ρ.getD 0 .non)
  | .ex e ρ => .ex e (ρ.getD 0 .non)
  | .bad => .bad
/-- a def's raw reading: n parameters, m further slots -/
def fnOf (n m : Nat) (ms : MS) : Fn := fun ds => if ds.length = n then (ms (ds ++ List.replicate m .non)).rf else .bad
def Far (H H' : Hp) : Prop := (∀ b o, H b = some o → NoTbl o → H' b = some o) ∧ ∀ b, H' b = none → H b = none
def FarI (a : Addr) (H H' : Hp) : Prop := (∀ b o, b ≠ a → H b = some o → NoTbl o → H' b = some o) ∧ ∀ b, H' b = none → H b = none
def ResOk (F : Fx) (fr : Bool) (H H' : Hp) (av : Addr → Prop) (d : D) (v : V) : Prop := match fr with
  | true => ∃ a, v = .ref a ∧ H a = none ∧ ¬ av a ∧ H' a ≠ none ∧ OwRp F H' (fun b => av b ∨ b = a) d a
  | false => Rp F H' av d v
def spV (F : Fx) (fr : Bool) (fn : Fn) : Sp := fun vs H Q E => ∃ av ds, (∀ b, av b → H b ≠ none) ∧ RpL F H av ds vs ∧ LamX.Tabs F.T H ∧
  match fn ds with
  | .ok d _ => ∀ v H', Far H H' → LamX.Tabs F.T H' → ResOk F fr H H' av d v → Q v H'
  | .ex e _ => ∀ C dx H', Far H H' → LamX.Tabs F.T H' → ExIs F H' av e C dx → E (.ref C) dx H'
  | .bad => False
def spI (F : Fx) (fr : Bool) (fn : Fn) : Sp := fun vs H Q E => ∃ av a d0 ds us, vs = .ref a :: us ∧ av a ∧ (∀ b, av b → H b ≠ none) ∧ OwRp F H av d0 a ∧ RpL F H av ds us ∧ LamX.Tabs F.T H ∧
  match fn (d0 :: ds) with
  | .ok d io => ∀ v H', FarI a H H' → LamX.Tabs F.T H' → OwRp F H' av io a → ResOk F fr H H' av d v → Q v H'
  | .ex e io => ∀ C dx H', FarI a H H' → LamX.Tabs F.T H' → OwRp F H' av io a → ExIs F H' av e C dx → E (.ref C) dx H'
  | .bad => False
/-- a def that may be called by its name; io: its first argument is written -/
structure FnD (F : Fx) (base : Heap) (k : Nat) (x : Str) (io fr : Bool) (fn : Fn) : Prop where
  ex : ∃ (f : Addr) (fd : FuncData) (ps : List Str), FnOk F.P F.w F.K F.mg base (L2.CX F.P F.w) k f fd ps (if io then spI F fr fn else spV F fr fn) ∧ F.mg x = some (.ref f) ∧ PySem.W.keepIn F.K (.ref f) = true ∧ Binds F.K fd ps []
/-- what the rules ask of a context -/
structure Ctx (F : Fx) (base : Heap) (X : Cx) (E : XK) (k : Nat) : Prop where
  fits : Fits F X
  calm : X.calm = true
  nd : X.N.Nodup
  room : Room k X.A
  base : X.base = base
  pass : Passes (L2.CX X.prog X.w) X E
theorem Ctx.blk {F : Fx} {base : Heap} {X : Cx} {E : XK} {k : Nat} (c : Ctx F base X E k) {scope : Scope} {s : Shared} {H : Hp} {C : Addr} {cl : List (Str × Addr)} {fp : List Addr} : Ctx F base (Blk X scope s H C cl fp) EF k :=
  ⟨fits_blk c.fits, c.calm, c.nd, c.room, c.base, passL⟩
structure CtxS (F : Fx) (base : Heap) (X : Cx) (E : XK) (k : Nat) : Prop extends Ctx F base X E k where
  own : PassesOwn (model X.prog X.w) X.A X.env X.xe
  takes : Takes X (fun cls d _ H => E cls d H)

section
variable {F : Fx} {X : Cx} {E : XK} {fr : Bool} {n0 : Nat} {w : Wd} {ow : Own} {G G' : List Knd} {ρ : List D} {σ : L2.St} {H : Hp} {base : Heap} {k : Nat}
/-- all that is not avoided stays, and what is avoided too -/
theorem Gd.far {H' : Hp} (g : Gd F w ow G ρ σ H) (x : Far H H') (t : LamX.Tabs F.T H') : Gd F w ow G ρ σ H' where
  len := g.len
  same := fun b o q n z => x.1 b o (g.same b o q n z) z
  dom := fun b e => g.dom b (x.2 b e)
  trk := fun b h e => g.trk b h (x.2 b e)
  wr := g.wr
  tabs := t
  io := g.io
  slot := fun i kd q => by
    have ex : Ext (Av w ow) (Av w ow) H H' := ⟨fun b o h _ n => x.1 b o h n, fun _ h => .inl h, x.2⟩
    have h := g.slot i kd q
    cases kd with
    | un => trivial
    | va =>
      obtain ⟨v, e, r⟩ := h
      exact ⟨v, e, Rp.ext ex _ _ r⟩
    | ow =>
      obtain ⟨a, e, o, r⟩ := h
      refine ⟨a, e, o, r.ext ex ?_⟩
      cases q : ρ.getD i .non with
      | lst ds =>
        rw [q] at r
        obtain ⟨vs, e1, _⟩ := r
        rw [e1]; exact x.1 _ _ e1 noTbl_lst
      | dct ks ds =>
        rw [q] at r
        obtain ⟨od, e1, _⟩ := r
        rw [e1]; exact x.1 _ _ e1 noTbl_dO
      | _ => rw [q] at r; exact r.elim
theorem far_ext {H' : Hp} {av : Addr → Prop} (x : Far H H') : Ext av av H H' := ⟨fun b o h _ n => x.1 b o h n, fun _ h => .inl h, x.2⟩
/-- an own thing's address, of what is own -/
theorem Gd.ownObj {b : Addr} {i : Nat} (g : Gd F w ow G ρ σ H) (hk : G[i]? = some .ow) (hs : σ[i]? = some (some (.ref b))) : ow b = some i ∧ ((∃ vs, H b = some (.lst vs)) ∨ ∃ od, H b = some (dO b od)) := by
  obtain ⟨a, e, o, r⟩ := g.slot i _ hk
  rw [hs] at e
  cases e
  refine ⟨o, ?_⟩
  cases q : ρ.getD i .non with
  | lst ds =>
    rw [q] at r
    obtain ⟨vs, e1, _⟩ := r
    exact .inl ⟨vs, e1⟩
  | dct ks ds =>
    rw [q] at r
    obtain ⟨od, e1, _⟩ := r
    exact .inr ⟨od, e1⟩
  | _ => rw [q] at r; exact r.elim
mutual
/-- no lists, no dicts -/
def D.flat : D → Bool
  | .tup xs => D.flatL xs
  | .lst _ => false
  | .dct _ _ => false
  | .scr _ => false
  | .exc _ _ => false
  | .ins _ => false
  | _ => true
def D.flatL : List D → Bool
  | [] => true
  | d :: ds => d.flat && D.flatL ds
end
mutual
theorem Rp.back {av av' : Addr → Prop} (h : ∀ b, av b → ¬ av' b → ∀ vs, H b ≠ some (.tup vs)) : ∀ (d : D) (v : V), d.flat = true → Rp F H av' d v → Rp F H av d v
  | .non, v, _, r => r
  | .bl _, v, _, r => r
  | .int _, v, _, r => r
  | .str _, v, _, r => r
  | .scr _, v, f, r => by cases f
  | .lst _, v, f, r => by cases f
  | .tup ds, v, f, r => by
    rw [Rp] at r ⊢
    obtain ⟨a, vs, e, q, n, r⟩ := r
    exact ⟨a, vs, e, q, fun z => h a z n vs q, RpL.back h ds vs f r⟩
  | .dct _ _, v, f, r => by cases f
  | .exc _ _, v, f, r => by cases f
  | .ins _, v, f, r => by cases f
theorem RpL.back {av av' : Addr → Prop} (h : ∀ b, av b → ¬ av' b → ∀ vs, H b ≠ some (.tup vs)) : ∀ (ds : List D) (vs : List V), D.flatL ds = true → RpL F H av' ds vs → RpL F H av ds vs
  | [], vs, _, r => r
  | d :: ds, vs, f, r => by
    rw [RpL] at r ⊢
    obtain ⟨v, rest, e, r1, r2⟩ := r
    obtain ⟨f1, f2⟩ : d.flat = true ∧ D.flatL ds = true := by
      rw [D.flatL, Bool.and_eq_true] at f
      exact f
    exact ⟨v, rest, e, Rp.back h d v f1 r1, RpL.back h ds rest f2 r2⟩
end
def adsOf : List OV → List V → List Addr
  | .s _ :: os, .ref a :: vs => a :: adsOf os vs
  | _ :: os, _ :: vs => adsOf os vs
  | _, _ => []
def noSlot : List OV → Bool
  | [] => true
  | .v _ :: r => noSlot r
  | .s _ :: _ => false
theorem ads_no : ∀ {os : List OV} {vs : List V}, noSlot os = true → adsOf os vs = []
  | [], vs, _ => by cases vs <;> rfl
  | .v d :: os, [], _ => rfl
  | .v d :: os, v :: vs, h => by
    have := ads_no (os := os) (vs := vs) h
    cases v <;> exact this
  | .s i :: os, vs, h => by cases h
/-- what is avoided while the things at bs are lent -/
def Lent (w : Wd) (ow : Own) (bs : List Addr) (b : Addr) : Prop := Av w ow b ∧ b ∉ bs
theorem lent_args {bs : List Addr} (g : Gd F w ow G ρ σ H) : ∀ {os : List OV} {vs : List V}, OvsOk F H (Av w ow) G σ os vs → (∀ i ∈ adsOf os vs, i ∈ bs) → RpL F H (Lent w ow bs) (os.map (OV.get ρ)) vs
  | [], vs, h, _ => by rw [List.map_nil, RpL]; exact h
  | .v d :: os, vs, h, hb => by
    obtain ⟨u, r, rfl, h1, h2⟩ := h
    rw [List.map_cons, RpL]
    exact ⟨u, r, rfl, Rp.le h1 fun b z => z.1, lent_args g h2 fun i hi => hb i (by cases u <;> exact hi)⟩
  | .s i :: os, vs, h, hb => by
    obtain ⟨u, r, rfl, ⟨h1, h1'⟩, h2⟩ := h
    rw [List.map_cons, RpL]
    obtain ⟨a, e1, o, ra⟩ := g.slot i _ h1
    rw [h1'] at e1
    cases e1
    refine ⟨.ref a, r, rfl, ?_, lent_args g h2 fun j hj => hb j (List.mem_cons_of_mem _ hj)⟩
    exact OwRp.rp (ra.le fun b z => z.1) fun z => z.2 (hb a List.mem_cons_self)
theorem lent_objs (g : Gd F w ow G ρ σ H) : ∀ {os : List OV} {vs : List V}, OvsOk F H (Av w ow) G σ os vs → ∀ a ∈ adsOf os vs, (∃ vs, H a = some (.lst vs)) ∨ ∃ od, H a = some (dO a od)
  | [], vs, h, a, ha => by cases vs <;> cases ha
  | .v d :: os, vs, h, a, ha => by
    obtain ⟨u, r, rfl, h1, h2⟩ := h
    exact lent_objs g h2 a (by cases u <;> exact ha)
  | .s i :: os, vs, h, a, ha => by
    obtain ⟨u, r, rfl, ⟨h1, h1'⟩, h2⟩ := h
    obtain ⟨b, e1, o, ra⟩ := g.slot i _ h1
    rw [h1'] at e1
    cases e1
    rcases List.mem_cons.mp ha with rfl | ha
    · exact (g.ownObj h1 h1').2
    · exact lent_objs g h2 a ha
theorem lent_back {bs : List Addr} {H' : Hp} (x : Far H H') (hb : ∀ a ∈ bs, (∃ vs, H a = some (.lst vs)) ∨ ∃ od, H a = some (dO a od)) : ∀ b, Av w ow b → ¬ Lent w ow bs b → ∀ vs, H' b ≠ some (.tup vs) := fun b h n vs e => by
  have hm : b ∈ bs := Classical.byContradiction fun z => n ⟨h, z⟩
  rcases hb b hm with ⟨us, q⟩ | ⟨od, q⟩
  · have := x.1 _ _ q noTbl_lst
    rw [e] at this; cases this
  · have := x.1 _ _ q noTbl_dO
    rw [e] at this; cases this
def exFlat (e : Ex) : Bool := e.a.flat
def retOk (os : List OV) (d : D) : Bool := noSlot os || d.flat
def mCall (fn : Fn) (ms : M (List OV)) : M D := ms.bind fun os ρ => match fn (os.map (OV.get ρ)) with
  | .ok d _ => if retOk os d then .ok d ρ else .bad
  | .ex e _ => if retOk os e.a then .ex e ρ else .bad
  | .bad => .bad
theorem ex_back {av av' : Addr → Prop} {e : Ex} {C : Addr} {dx : Option Addr} (h : ∀ b, av b → ¬ av' b → ∀ vs, H b ≠ some (.tup vs)) (hf : e.a.flat = true) (r : ExIs F H av' e C dx) : ExIs F H av e C dx := by
  obtain ⟨r1, r2⟩ := r
  refine ⟨r1, ?_⟩
  cases q : e.a with
  | non => rw [q] at r2; exact r2
  | _ =>
    rw [q] at r2 hf
    obtain ⟨x, v, e1, e2, e3⟩ := r2
    exact ⟨x, v, e1, e2, Rp.back h _ _ hf e3⟩
theorem ex_le {av av' : Addr → Prop} {e : Ex} {C : Addr} {dx : Option Addr} (h : ∀ b, av' b → av b) (r : ExIs F H av e C dx) : ExIs F H av' e C dx := by
  obtain ⟨r1, r2⟩ := r
  refine ⟨r1, ?_⟩
  cases q : e.a with
  | non => rw [q] at r2; exact r2
  | _ =>
    rw [q] at r2
    obtain ⟨x, v, e1, e2, e3⟩ := r2
    exact ⟨x, v, e1, e2, Rp.le e3 h⟩
/-- f(..): nothing is written -/
theorem ev_call {x : Str} {j : Nat} {fn : Fn} {e : Expr} {es : List Expr} {ms : M (List OV)} {p pos : Pos} (c : Ctx F base X E k) (FD : FnD F base j x false false fn) (hj : j ≤ k) (hg : Gl X x) (ha : EvA F X E G (e :: es) ms)
    (hdb : (x == ("__debug__" : Str)) = false := by decide) (he : starEach (e :: es) X.env = (false, eval e X.env) :: starEach es X.env := by rfl) (hpl : (backTo pos (starEach es X.env)).any (·.1) = false := by rfl) :
    EvE F X E G (.Call (.Name x p) (e :: es) [] pos) (mCall fn ms) := fun hX => by
  obtain ⟨t, pa, ka⟩ := ha hX
  obtain ⟨f, fd, ps, FO, hm, hk, hb⟩ := FD.ex
  rw [if_neg Bool.false_ne_true] at FO
  rw [← hX.p, ← hX.w, ← hX.k, ← hX.m, ← c.base] at FO
  rw [← hX.m] at hm
  rw [← hX.k] at hk hb
  refine ⟨_, pe_call FO (c.room.mono hj) hg hm hk hb .nil c.pass pa hdb he hpl, fun w ow ρ σ H Q g h => ka w ow ρ σ H _ g (Post.mono (Post.split h) fun os ow1 ρ1 H1 _ _ _ ⟨g1, x1, h1⟩ vs rv => ?_)⟩
  have la := lent_args (bs := adsOf os vs) g1 rv (fun _ h => h)
  have lo := lent_objs g1 rv
  have g2 := fun {H2 : Hp} (fa : Far H1 H2) (tb : LamX.Tabs F.T H2) => g1.far fa tb
  show spV F false fn (vs ++ []) H1 Q E
  rw [List.append_nil]
  refine ⟨Lent w ow1 (adsOf os vs), os.map (OV.get ρ1), fun b z => g1.trk b z.1, la, g1.tabs, ?_⟩
  have back : ∀ {H2 : Hp} {d : D} {v : V}, Far H1 H2 → retOk os d = true → Rp F H2 (Lent w ow1 (adsOf os vs)) d v → Rp F H2 (Av w ow1) d v := fun {H2 d v} fa ro r => by
    cases hs : noSlot os with
    | true => exact Rp.le r fun b z => ⟨z, by rw [ads_no hs]; simp⟩
    | false =>
      have hf : d.flat = true := by unfold retOk at ro; rw [hs, Bool.false_or] at ro; exact ro
      exact Rp.back (lent_back fa lo) d v hf r
  cases ef : fn (os.map (OV.get ρ1)) with
  | bad => rw [ef] at h1; exact h1.elim
  | ok d io =>
    rw [ef] at h1
    dsimp only at h1 ⊢
    cases er : retOk os d with
    | false => rw [er] at h1; exact h1.elim
    | true =>
      rw [er] at h1
      exact fun v H2 fa tb r => h1 H2 ow1 (g2 fa tb) (far_ext fa) v (back fa er r)
  | ex e io =>
    rw [ef] at h1
    dsimp only at h1 ⊢
    cases er : retOk os e.a with
    | false => rw [er] at h1; exact h1.elim
    | true =>
      rw [er] at h1
      intro C dx H2 fa tb r
      refine h1 H2 ow1 C dx (g2 fa tb) (far_ext fa) ?_
      cases hs : noSlot os with
      | true => exact ex_le (fun b z => ⟨z, by rw [ads_no hs]; simp⟩) r
      | false =>
        have hf : e.a.flat = true := by unfold retOk at er; rw [hs, Bool.false_or] at er; exact er
        exact ex_back (lent_back fa lo) hf r
/-- f(..) gives a new list or dict -/
def mCallN (fn : Fn) (ms : M (List OV)) : M D := ms.bind fun os ρ => if noSlot os then (match fn (os.map (OV.get ρ)) with
  | .ok d _ => .ok d ρ
  | .ex e _ => .ex e ρ
  | .bad => .bad) else .bad
theorem Gd.plusF {a : Addr} {H' : Hp} (g : Gd F w ow G ρ σ H) (x : Far H H') (t : LamX.Tabs F.T H') (ha : H a = none) (hb : H' a ≠ none) : Gd F (w.plus a) ow G ρ σ H' := by
  have g' := g.far x t
  have na : ¬ Av w ow a := fun z => g.trk a z ha
  have ex : Ext (Av w ow) (Av (w.plus a) ow) H H' := ⟨fun b o h _ n => x.1 b o h n, fun b h => (av_plus.mp h).elim .inl fun e => .inr (by rw [e]; exact ha), x.2⟩
  refine ⟨g'.len, g'.same, g'.dom, fun b h => (av_plus.mp h).elim (g'.trk b) fun e => by rw [e]; exact hb, fun b i h => ⟨fun z => z.elim (g.wr b i h).1 fun e => na (by rw [← e]; exact .inr ⟨i, h⟩), (g.wr b i h).2⟩, g'.tabs, g'.io, fun i k e => ?_⟩
  have h := g.slot i k e
  have h' := g'.slot i k e
  cases k with
  | un => trivial
  | va =>
    obtain ⟨v, e1, r⟩ := h
    exact ⟨v, e1, Rp.ext ex _ _ r⟩
  | ow =>
    obtain ⟨b, e1, o1, r⟩ := h
    refine ⟨b, e1, o1, r.ext ex ?_⟩
    rcases (g.ownObj e e1).2 with ⟨vs, q⟩ | ⟨od, q⟩
    · rw [q]; exact x.1 _ _ q noTbl_lst
    · rw [q]; exact x.1 _ _ q noTbl_dO
theorem en_call {x : Str} {j : Nat} {fn : Fn} {e : Expr} {es : List Expr} {ms : M (List OV)} {p pos : Pos} (c : Ctx F base X E k) (FD : FnD F base j x false true fn) (hj : j ≤ k) (hg : Gl X x) (ha : EvA F X E G (e :: es) ms)
    (hdb : (x == ("__debug__" : Str)) = false := by decide) (he : starEach (e :: es) X.env = (false, eval e X.env) :: starEach es X.env := by rfl) (hpl : (backTo pos (starEach es X.env)).any (·.1) = false := by rfl) :
    EvN F X E G (.Call (.Name x p) (e :: es) [] pos) (mCallN fn ms) := fun hX => by
  obtain ⟨t, pa, ka⟩ := ha hX
  obtain ⟨f, fd, ps, FO, hm, hk, hb⟩ := FD.ex
  rw [if_neg Bool.false_ne_true] at FO
  rw [← hX.p, ← hX.w, ← hX.k, ← hX.m, ← c.base] at FO
  rw [← hX.m] at hm
  rw [← hX.k] at hk hb
  refine ⟨_, pe_call FO (c.room.mono hj) hg hm hk hb .nil c.pass pa hdb he hpl, fun w ow ρ σ H Q g h => ?_⟩
  have h' : PostN F w ow E G σ H ((ms ρ).bind fun os ρ => if noSlot os then (match fn (os.map (OV.get ρ)) with
    | .ok d _ => .ok d ρ
    | .ex e _ => .ex e ρ
    | .bad => .bad) else .bad) Q := h
  cases em : ms ρ with
  | bad => rw [em] at h'; exact h'.elim
  | ex e ρ1 =>
    rw [em] at h'
    refine ka w ow ρ σ H _ g ?_
    rw [em]
    exact h'
  | ok os ρ1 =>
    rw [em] at h'
    refine ka w ow ρ σ H _ g ?_
    rw [em]
    intro H1 ow1 g1 x1 vs rv
    have h2 : PostN F w ow E G σ H (if noSlot os = true then (match fn (os.map (OV.get ρ1)) with
      | .ok d _ => .ok d ρ1
      | .ex e _ => .ex e ρ1
      | .bad => .bad) else .bad) Q := h'
    cases hs : noSlot os with
    | false => rw [hs, if_neg Bool.false_ne_true] at h2; exact h2.elim
    | true =>
      rw [hs, if_pos rfl] at h2
      have la := lent_args (bs := adsOf os vs) g1 rv (fun _ h => h)
      rw [ads_no hs] at la
      have le : ∀ b, Lent w ow1 [] b ↔ Av w ow1 b := fun b => ⟨fun z => z.1, fun z => ⟨z, by simp⟩⟩
      show spV F true fn (vs ++ []) H1 Q E
      rw [List.append_nil]
      refine ⟨Av w ow1, os.map (OV.get ρ1), g1.trk, la.le fun b z => (le b).mpr z, g1.tabs, ?_⟩
      cases ef : fn (os.map (OV.get ρ1)) with
      | bad => rw [ef] at h2; exact h2.elim
      | ok d io =>
        rw [ef] at h2
        rintro v H2 fa tb ⟨a, rfl, ha, na, hb, o⟩
        exact h2 H2 ow1 a (g1.plusF fa tb ha hb) (x1.trans ⟨(far_ext (av := Av w ow1) fa).keep, fun b z => (av_plus.mp z).elim .inl fun e => .inr (by rw [e]; exact ha), fa.2⟩) (x1.there _ ha) (o.le fun b z => av_plus.mp z)
      | ex e io =>
        rw [ef] at h2
        exact fun C dx H2 fa tb r => h2 H2 ow1 C dx (g1.far fa tb) (x1.trans (far_ext fa)) r
/-- f(x, ..) writes its first argument, the own thing of slot i -/
def mCallI (i : Nat) (fn : Fn) (ms : M (List OV)) : M D := ms.bind fun os ρ => if noSlot os then (match fn (ρ.getD i .non :: os.map (OV.get ρ)) with
  | .ok d io => .ok d (ρ.set i io)
  | .ex e io => .ex e (ρ.set i io)
  | .bad => .bad) else .bad
theorem Gd.farI {i : Nat} {a : Addr} {io : D} {H' : Hp} (g : Gd F w ow G ρ σ H) (hk : G[i]? = some .ow) (hs : σ[i]? = some (some (.ref a))) (x : FarI a H H') (t : LamX.Tabs F.T H') (o : OwRp F H' (Av w ow) io a) : Gd F w ow G (ρ.set i io) σ H' ∧ Ext (Av w ow) (Av w ow) H H' := by
  obtain ⟨oa, _⟩ := g.ownObj hk hs
  have ex : Ext (Av w ow) (Av w ow) H H' := ⟨fun b u h n z => x.1 b u (fun e => n (by rw [e]; exact .inr ⟨i, oa⟩)) h z, fun _ h => .inl h, x.2⟩
  refine ⟨⟨⟨by rw [List.length_set]; exact g.len.1, g.len.2⟩, fun b u q n z => ?_, fun b e => g.dom b (x.2 b e), fun b h e => g.trk b h (x.2 b e), g.wr, t, g.io, fun j kd q => ?_⟩, ex⟩
  · have hb : b ≠ a := fun e => by
      rw [e] at n q
      rcases (g.wr a i oa).2 with z | z
      · exact n z.2
      · rw [q] at z; cases z
    exact x.1 b u hb (g.same b u q n z) z
  · have h := g.slot j kd q
    by_cases hj : i = j
    · subst hj
      rw [hk] at q
      cases q
      rw [getD_set_eq (by rw [← g.len.1]; exact (List.getElem?_eq_some_iff.mp hk).1)]
      exact ⟨a, hs, oa, o⟩
    · rw [getD_set_ne hj]
      cases kd with
      | un => trivial
      | va =>
        obtain ⟨v, e, r⟩ := h
        exact ⟨v, e, Rp.ext ex _ _ r⟩
      | ow =>
        obtain ⟨b, e, ob, r⟩ := h
        have hb : b ≠ a := fun z => by
          rw [z, oa] at ob
          cases ob
          exact hj rfl
        refine ⟨b, e, ob, r.ext ex ?_⟩
        rcases (g.ownObj q e).2 with ⟨vs, q⟩ | ⟨od, q⟩
        · rw [q]; exact x.1 _ _ hb q noTbl_lst
        · rw [q]; exact x.1 _ _ hb q noTbl_dO
theorem ev_callI {i : Nat} {x y : Str} {j : Nat} {fn : Fn} {es : List Expr} {ms : M (List OV)} {p p2 pos : Pos} (c : Ctx F base X E k) (FD : FnD F base j x true false fn) (hj : j ≤ k) (hg : Gl X x) (hk : G[i]? = some .ow) (ha : EvA F X E G es ms)
    (hN : X.N[i]? = some y := by rfl) (hv : Vis X.env.scope y := by first | exact Or.inl rfl | exact Or.inr (Or.inl rfl) | exact Or.inr (Or.inr rfl)) (hd : (y == ("__debug__" : Str)) = false := by decide) (hcd : (y == ("__classdict__" : Str)) = false := by decide)
    (hdb : (x == ("__debug__" : Str)) = false := by decide) (he : starEach (.Name y p2 :: es) X.env = (false, eval (.Name y p2) X.env) :: starEach es X.env := by rfl) (hpl : (backTo pos (starEach es X.env)).any (·.1) = false := by rfl) :
    EvE F X E G (.Call (.Name x p) (.Name y p2 :: es) [] pos) (mCallI i fn ms) := fun hX => by
  obtain ⟨t, pa, ka⟩ := ha hX
  obtain ⟨f, fd, ps, FO, hm, hkk, hb⟩ := FD.ex
  rw [if_pos rfl] at FO
  rw [← hX.p, ← hX.w, ← hX.k, ← hX.m, ← c.base] at FO
  rw [← hX.m] at hm
  rw [← hX.k] at hkk hb
  refine ⟨_, pe_call FO (c.room.mono hj) hg hm hkk hb .nil c.pass (pa_cons (pe_var (i := i) hN hv hd hcd) pa he) hdb he hpl, fun w ow ρ σ H Q g h => ?_⟩
  obtain ⟨a, e1, o1, r1⟩ := g.slot i _ hk
  refine ⟨.ref a, e1, ka w ow ρ σ H _ g (Post.mono (Post.split h) fun os ow1 ρ1 H1 _ _ _ ⟨g1, x1, h1⟩ vs rv => ?_)⟩
  show spI F false fn ((.ref a :: vs) ++ []) H1 Q E
  rw [List.append_nil]
  obtain ⟨a', e1', o1', r1'⟩ := g1.slot i _ hk
  rw [e1] at e1'
  cases e1'
  cases hs : noSlot os with
  | false => rw [hs] at h1; exact h1.elim
  | true =>
    rw [hs] at h1
    have la := lent_args (bs := adsOf os vs) g1 rv (fun _ h => h)
    rw [ads_no hs] at la
    refine ⟨Av w ow1, a, ρ1.getD i .non, os.map (OV.get ρ1), vs, rfl, .inr ⟨i, o1'⟩, g1.trk, r1', la.le fun b z => ⟨z, by simp⟩, g1.tabs, ?_⟩
    cases ef : fn (ρ1.getD i .non :: os.map (OV.get ρ1)) with
    | bad => rw [ef] at h1; exact h1.elim
    | ok d io =>
      rw [ef] at h1
      intro v H2 fa tb o r
      obtain ⟨g2, x2⟩ := g1.farI hk e1 fa tb o
      exact h1 H2 ow1 g2 x2 v r
    | ex e io =>
      rw [ef] at h1
      intro C dx H2 fa tb o r
      obtain ⟨g2, x2⟩ := g1.farI hk e1 fa tb o
      exact h1 H2 ow1 C dx g2 x2 r
end
section
variable {F : Fx} {base : Heap}
theorem getD_rep {α : Type} {l : List α} {d : α} {m i : Nat} : (l ++ List.replicate m d).getD i d = l.getD i d := by
  rw [List.getD_eq_getElem?_getD, List.getD_eq_getElem?_getD]
  by_cases h : i < l.length
  · rw [List.getElem?_append_left h]
  · rw [List.getElem?_append_right (by omega), List.getElem?_eq_none (l := l) (by omega)]
    by_cases h2 : i - l.length < m
    · rw [List.getElem?_replicate]; simp [h2]
    · rw [List.getElem?_eq_none (by simp; omega)]
def G0 (n m : Nat) : List Knd := List.replicate n .va ++ List.replicate m .un
def G0I (n m : Nat) : List Knd := .ow :: (List.replicate n .va ++ List.replicate m .un)
theorem rpl_slot {H : Hp} {av : Addr → Prop} : ∀ {ds : List D} {vs : List V} {i : Nat}, RpL F H av ds vs → i < ds.length → ∃ v, vs[i]? = some v ∧ Rp F H av (ds.getD i .non) v := fun {ds vs i} r hi => by
  obtain ⟨v, e1, e2⟩ := r.get (i := i) (d := ds[i]) (by simp [hi])
  exact ⟨v, e1, by simpa [List.getD_eq_getElem?_getD, hi] using e2⟩
theorem g0_get {n m i : Nat} {k : Knd} (e : (G0 n m)[i]? = some k) : (i < n ∧ k = .va) ∨ k = .un := by
  unfold G0 at e
  by_cases h : i < n
  · rw [List.getElem?_append_left (by simpa using h), List.getElem?_replicate, if_pos h] at e
    cases e
    exact .inl ⟨h, rfl⟩
  · rw [List.getElem?_append_right (by simpa using h), List.getElem?_replicate] at e
    split at e <;> cases e
    exact .inr rfl
theorem gd_start {H : Hp} {av : Addr → Prop} {N : List Str} {n m : Nat} {ds : List D} {vs : List V} (hn : N.length = n + m) (hl : ds.length = n) (tr : ∀ b, av b → H b ≠ none) (r : RpL F H av ds vs) (t : LamX.Tabs F.T H) :
    Gd F { oc := av, io := fun _ => False, H0 := H, n0 := 0 } (fun _ => none) (G0 n m) (ds ++ List.replicate m .non) (start N vs) H where
  len := by
    have := r.length
    constructor
    · simp [G0, hl]
    · simp [G0, L2.start]; omega
  same := fun b o h _ _ => h
  dom := fun b h => h
  trk := fun b h => h.elim (tr b) fun ⟨i, e⟩ => nomatch e
  wr := fun b i e => nomatch e
  tabs := t
  io := fun i h => absurd h (Nat.succ_ne_zero i)
  slot := fun i k e => by
    rcases g0_get e with ⟨hi, rfl⟩ | rfl
    · obtain ⟨v, e1, e2⟩ := rpl_slot r (show i < ds.length by omega)
      refine ⟨v, ?_, ?_⟩
      · have hlt : i < vs.length := (List.getElem?_eq_some_iff.mp e1).1
        unfold L2.start
        rw [List.getElem?_append_left (by simpa using hlt), List.getElem?_map, e1]
        rfl
      · rw [getD_rep]
        exact Rp.le e2 fun b h => h.elim id fun ⟨i, e⟩ => nomatch e
    · trivial
theorem gd_startI {H : Hp} {av : Addr → Prop} {N : List Str} {n m : Nat} {a : Addr} {d0 : D} {ds : List D} {vs : List V} (hn : N.length = n + 1 + m) (hl : ds.length = n) (ha : av a) (tr : ∀ b, av b → H b ≠ none) (o : OwRp F H av d0 a) (r : RpL F H av ds vs) (t : LamX.Tabs F.T H) :
    Gd F { oc := fun b => av b ∧ b ≠ a, io := fun b => b = a, H0 := H, n0 := 1 } (fun b => if b = a then some 0 else none) (G0I n m) (d0 :: (ds ++ List.replicate m .non)) (start N (.ref a :: vs)) H := by
  have le : ∀ b, Av { oc := fun b => av b ∧ b ≠ a, io := fun b => b = a, H0 := H, n0 := 1 } (fun b => if b = a then some 0 else none) b → av b := fun b h => h.elim (·.1) fun ⟨i, e⟩ => by
    dsimp only at e
    split at e
    · rename_i q; rw [q]; exact ha
    · cases e
  exact {
  len := by
    have := r.length
    constructor
    · simp [G0I, hl]
    · simp [G0I, L2.start]; omega
  same := fun b o h _ _ => h
  dom := fun b h => h
  trk := fun b h => tr b (le b h)
  wr := fun b i e => by
    split at e
    · rename_i q
      cases e
      subst q
      exact ⟨fun z => z.2 rfl, .inl ⟨rfl, rfl⟩⟩
    · cases e
  tabs := t
  io := fun i h => by
    obtain rfl : i = 0 := Nat.succ.inj h
    rfl
  slot := fun i k e => by
    cases i with
    | zero =>
      have e' : some Knd.ow = some k := e
      cases e'
      exact ⟨a, rfl, by show (if a = a then some 0 else none) = some 0; rw [if_pos rfl], o.le le⟩
    | succ i =>
      have e' : (G0 n m)[i]? = some k := e
      rcases g0_get e' with ⟨hi, rfl⟩ | rfl
      · obtain ⟨v, e1, e2⟩ := rpl_slot r (show i < ds.length by omega)
        refine ⟨v, ?_, ?_⟩
        · have hlt : i < vs.length := (List.getElem?_eq_some_iff.mp e1).1
          unfold L2.start
          rw [List.getElem?_append_left (by simpa using hlt), List.getElem?_map, List.getElem?_cons_succ, e1]
          rfl
        · show Rp F H _ ((ds ++ List.replicate m D.non).getD i D.non) v
          rw [getD_rep]
          exact Rp.le e2 le
      · trivial }
theorem Fun.fnV {x qual : Str} {st : Stmt} {f : Addr} {fd : FuncData} {N ps : List Str} {k n m : Nat} {fr : Bool} {ms : MS} {G' : List Knd} (FF : Fun F.K x qual st f fd) (S : FnScope N ps (defScope st)) (hp : ps.length = n) (hN : N.length = n + m) (hfr : fr = true → ∀ ρ ρ', ms ρ ≠ .nx ρ')
    (hb : ∀ cdv A outer s H E, CtxS F base (cxOf (L2.CX F.P F.w) F.P F.w F.K F.mg base N qual (defScope st) f cdv A outer s H E) E k → ExB F (cxOf (L2.CX F.P F.w) F.P F.w F.K F.mg base N qual (defScope st) f cdv A outer s H E) E fr 0 (G0 n m) (defBody st) ms G') :
    FnOk F.P F.w F.K F.mg base (L2.CX F.P F.w) (k + 1) f fd ps (spV F fr (fnOf n m ms)) := by
  refine FF.okX S (fun vs H Q E h => ?_) fun cdv A outer s H vs Q E hr h => ?_
  · obtain ⟨av, ds, tr, r, t, h⟩ := h
    rw [hp, ← r.length]
    unfold fnOf at h
    by_cases hl : ds.length = n
    · exact hl
    · rw [if_neg hl] at h; exact h.elim
  · obtain ⟨av, ds, tr, r, t, h⟩ := h
    unfold fnOf at h
    by_cases hl : ds.length = n
    · rw [if_pos hl] at h
      have tk : Takes (cxOf (L2.CX F.P F.w) F.P F.w F.K F.mg base N qual (defScope st) f cdv A outer s H E) (fun cls d _ H => E cls d H) := takes_of rfl rfl rfl rfl
      have C : CtxS F base (cxOf (L2.CX F.P F.w) F.P F.w F.K F.mg base N qual (defScope st) f cdv A outer s H E) E k := ⟨⟨⟨rfl, rfl, rfl, rfl⟩, rfl, S.nd, hr, rfl, passes_call tk fun _ _ _ _ h => h⟩, passes_of rfl, tk⟩
      obtain ⟨t1, p, kk⟩ := hb cdv A outer s H E C C.fits
      refine ⟨t1, p, kk { oc := av, io := fun _ => False, H0 := H, n0 := 0 } _ _ _ H _ rfl (gd_start hN hl tr r t) ?_⟩
      have sm : ∀ {ow' : Own} {Gx : List Knd} {ρ' : List D} {σ' : L2.St} {H' : Hp}, Gd F { oc := av, io := fun _ => False, H0 := H, n0 := 0 } ow' Gx ρ' σ' H' → Far H H' := fun g => ⟨fun b o q z => g.same b o q id z, g.dom⟩
      cases em : ms (ds ++ List.replicate m .non) with
      | bad => rw [em] at h; exact h.elim
      | nx ρ' =>
        rw [em] at h
        refine fun σ' H' ow' g _ x => h _ _ (sm g) g.tabs ?_
        cases fr with
        | true => exact (hfr rfl _ _ em).elim
        | false => show Rp F H' av .non .non; rw [Rp]
      | rt d ρ' =>
        rw [em] at h
        refine fun v H' ow' σ' Gx g _ x rr => h _ _ (sm g) g.tabs ?_
        cases fr with
        | true =>
          obtain ⟨a, rfl, h0, no, hn, o⟩ := rr
          exact ⟨a, rfl, h0, no, hn, o.le fun b z => z.imp .inl id⟩
        | false => exact Rp.le rr fun b z => .inl z
      | ex e ρ' =>
        rw [em] at h
        exact fun H' ow' σ' Gx C dx g _ x rr => h _ _ _ (sm g) g.tabs (ex_le (fun b z => .inl z) rr)
    · rw [if_neg hl] at h; exact h.elim
theorem Fun.fnI {x qual : Str} {st : Stmt} {f : Addr} {fd : FuncData} {N ps : List Str} {k n m : Nat} {fr : Bool} {ms : MS} {G' : List Knd} (FF : Fun F.K x qual st f fd) (S : FnScope N ps (defScope st)) (hp : ps.length = n + 1) (hN : N.length = n + 1 + m) (hfr : fr = true → ∀ ρ ρ', ms ρ ≠ .nx ρ')
    (hb : ∀ cdv A outer s H E, CtxS F base (cxOf (L2.CX F.P F.w) F.P F.w F.K F.mg base N qual (defScope st) f cdv A outer s H E) E k → ExB F (cxOf (L2.CX F.P F.w) F.P F.w F.K F.mg base N qual (defScope st) f cdv A outer s H E) E fr 1 (G0I n m) (defBody st) ms G') :
    FnOk F.P F.w F.K F.mg base (L2.CX F.P F.w) (k + 1) f fd ps (spI F fr (fnOf (n + 1) m ms)) := by
  refine FF.okX S (fun vs H Q E h => ?_) fun cdv A outer s H vs Q E hr h => ?_
  · obtain ⟨av, a, d0, ds, us, rfl, ha, tr, o, r, t, h⟩ := h
    rw [hp, List.length_cons, ← r.length]
    unfold fnOf at h
    by_cases hl : (d0 :: ds).length = n + 1
    · exact hl
    · rw [if_neg hl] at h; exact h.elim
  · obtain ⟨av, a, d0, ds, us, rfl, ha, tr, o, r, t, h⟩ := h
    unfold fnOf at h
    by_cases hl' : (d0 :: ds).length = n + 1
    · rw [if_pos hl'] at h
      have hl : ds.length = n := by rw [List.length_cons] at hl'; omega
      have tk : Takes (cxOf (L2.CX F.P F.w) F.P F.w F.K F.mg base N qual (defScope st) f cdv A outer s H E) (fun cls d _ H => E cls d H) := takes_of rfl rfl rfl rfl
      have C : CtxS F base (cxOf (L2.CX F.P F.w) F.P F.w F.K F.mg base N qual (defScope st) f cdv A outer s H E) E k := ⟨⟨⟨rfl, rfl, rfl, rfl⟩, rfl, S.nd, hr, rfl, passes_call tk fun _ _ _ _ h => h⟩, passes_of rfl, tk⟩
      obtain ⟨t1, p, kk⟩ := hb cdv A outer s H E C C.fits
      have g0 := gd_startI (m := m) hN hl ha tr o r t
      refine ⟨t1, p, kk _ _ _ _ H _ rfl g0 ?_⟩
      have fin : ∀ {ow' : Own} {Gx : List Knd} {ρ' : List D} {σ' : L2.St} {H' : Hp}, Gd F { oc := fun b => av b ∧ b ≠ a, io := fun b => b = a, H0 := H, n0 := 1 } ow' Gx ρ' σ' H' →
          Kp { oc := fun b => av b ∧ b ≠ a, io := fun b => b = a, H0 := H, n0 := 1 } (start N (.ref a :: us)) σ' → FarI a H H' ∧ (∀ b, av b → Av { oc := fun b => av b ∧ b ≠ a, io := fun b => b = a, H0 := H, n0 := 1 } ow' b) ∧ OwRp F H' av (ρ'.getD 0 .non) a := fun {ow' Gx ρ' σ' H'} g kp => by
        obtain ⟨c, e1, o1, r1⟩ := g.slot 0 _ (g.io 0 rfl)
        rw [kp 0 rfl] at e1
        have e2 : some (some (V.ref a)) = some (some (V.ref c)) := e1
        cases e2
        have le : ∀ b, av b → Av { oc := fun b => av b ∧ b ≠ a, io := fun b => b = a, H0 := H, n0 := 1 } ow' b := fun b h => by
          by_cases hb : b = a
          · rw [hb]; exact .inr ⟨0, o1⟩
          · exact .inl ⟨h, hb⟩
        exact ⟨⟨fun b o n q z => g.same b o q n z, g.dom⟩, le, r1.le le⟩
      cases em : ms ((d0 :: ds) ++ List.replicate m .non) with
      | bad => rw [em] at h; exact h.elim
      | nx ρ' =>
        rw [em] at h
        have em' : ms (d0 :: (ds ++ List.replicate m .non)) = .nx ρ' := em
        rw [em']
        intro σ' H' ow' g kp x
        obtain ⟨f1, le, ro⟩ := fin g kp
        refine h _ _ f1 g.tabs ro ?_
        cases fr with
        | true => exact (hfr rfl _ _ em).elim
        | false => show Rp F H' av .non .non; rw [Rp]
      | rt d ρ' =>
        rw [em] at h
        have em' : ms (d0 :: (ds ++ List.replicate m .non)) = .rt d ρ' := em
        rw [em']
        intro v H' ow' σ' Gx g kp x rr
        obtain ⟨f1, le, ro⟩ := fin g kp
        refine h _ _ f1 g.tabs ro ?_
        cases fr with
        | true =>
          obtain ⟨c, rfl, h0, no, hn, oc⟩ := rr
          have hca : c ≠ a := fun e => by
            rw [e] at h0
            exact tr a ha h0
          exact ⟨c, rfl, h0, fun z => no ⟨z, hca⟩, hn, oc.le fun b z => z.imp (le b) id⟩
        | false => exact Rp.le rr le
      | ex e ρ' =>
        rw [em] at h
        have em' : ms (d0 :: (ds ++ List.replicate m .non)) = .ex e ρ' := em
        rw [em']
        intro H' ow' σ' Gx C dx g kp x rr
        obtain ⟨f1, le, ro⟩ := fin g kp
        exact h _ _ _ f1 g.tabs ro (ex_le le rr)
    · rw [if_neg hl'] at h; exact h.elim
end
end Hs

namespace Hs
open PySem PySem.Spec PyProof.Rows L2

section
variable {F : Fx} {X : Cx} {E : XK} {fr : Bool} {n0 : Nat} {w : Wd} {ow : Own} {G G' : List Knd} {ρ : List D} {σ : L2.St} {H : Hp} {base : Heap} {k : Nat}
/-- a place that no proof comes to -/
def sBad : MS := fun _ => .bad
theorem x_bad {st : Stmt} : ExS F X E fr n0 G st sBad G' := fun _ => ⟨tNever, ps_never, fun w ow ρ σ H Dn _ _ h => h.elim⟩
theorem tabs_upd {T : List (Addr × Str)} {a : Addr} {o o' : HO} (t : LamX.Tabs T H) (ha : H a = some o) (nt : NoTbl o) (nc : ∀ c q, o ≠ LamX.CodeO c q) : LamX.Tabs T (upd H a o') := fun z hz => by
  obtain ⟨ps, q, m⟩ := t z hz
  have hb : z.1 ≠ a := fun e => by
    rw [e, ha] at q
    cases q
    exact nt _ rfl
  refine ⟨ps, by rw [upd_ne hb]; exact q, m.1, fun pos cv hc => ?_⟩
  obtain ⟨c, e1, e2⟩ := m.2 pos cv hc
  have hb : c ≠ a := fun e => by
    rw [e, ha] at e2
    exact nc _ _ (Option.some.inj e2)
  exact ⟨c, e1, by rw [upd_ne hb]; exact e2⟩
/-- slot i's own list is written -/
theorem Gd.putL {i : Nat} {a : Addr} {vs us : List V} {es : List D} (g : Gd F w ow G ρ σ H) (hk : G[i]? = some .ow) (hs : σ[i]? = some (some (.ref a))) (ha : H a = some (.lst vs)) (r : RpL F H (Av w ow) es us) :
    Gd F w ow G (ρ.set i (.lst es)) σ (upd H a (.lst us)) ∧ Ext (Av w ow) (Av w ow) H (upd H a (.lst us)) := by
  obtain ⟨oa, _⟩ := g.ownObj hk hs
  have x : Ext (Av w ow) (Av w ow) H (upd H a (.lst us)) := ⟨fun b u q nb _ => by
    have hb : b ≠ a := fun z => nb (by rw [z]; exact .inr ⟨i, oa⟩)
    rw [upd_ne hb]; exact q, fun b h => .inl h, fun b e => by
    by_cases hb : b = a
    · subst hb; rw [upd_same] at e; cases e
    · rw [upd_ne hb] at e; exact e⟩
  refine g.farI hk hs ⟨fun b u hb q _ => by rw [upd_ne hb]; exact q, x.there⟩ (tabs_upd g.tabs ha noTbl_lst fun _ _ z => nomatch z) ⟨us, upd_same, RpL.ext x _ _ r⟩
theorem Gd.lstOf {i : Nat} {a : Addr} {ds : List D} (g : Gd F w ow G ρ σ H) (hk : G[i]? = some .ow) (hs : σ[i]? = some (some (.ref a))) (e : ρ.getD i .non = .lst ds) : ∃ vs, H a = some (.lst vs) ∧ RpL F H (Av w ow) ds vs := by
  obtain ⟨b, e1, o, r⟩ := g.slot i _ hk
  rw [hs] at e1
  cases e1
  rw [e] at r
  exact r
def isLst : D → Bool
  | .lst _ => true
  | _ => false
/-- a method of an own list that writes it: f of the list and the argument -/
def mLm (i : Nat) (f : List D → D → Option (D × List D)) (m : M D) : M D := fun ρ => if isLst (ρ.getD i .non) then (m ρ).bind (fun d ρ => match ρ.getD i .non with
  | .lst ds => match f ds d with
    | some (r, ds') => .ok r (ρ.set i (.lst ds'))
    | none => .bad
  | _ => .bad) else .bad
def fApp (ds : List D) (d : D) : Option (D × List D) := if ds.length < SZ then some (.non, ds ++ [d]) else none
theorem isLst_of {d : D} (h : isLst d = true) : ∃ ds, d = .lst ds := by
  cases d with
  | lst ds => exact ⟨ds, rfl⟩
  | _ => cases h
theorem ev_lm {i : Nat} {f : List D → D → Option (D × List D)} {mr : V → List V → Hp → VK → Prop} {name id : String} {y : Str} {e : Expr} {m : M D} {p ap pos : Pos} (slot : Slot "list" (Str.ofString name) id) (hty : typeOf (.builtin id) = pure (.type "method_descriptor")) (hm : Fits F X → MtR X id mr)
    (hf : ∀ (av : Addr → Prop) (H : Hp) (a : Addr) (vs : List V) (ds : List D) (d : D) (v : V) (r : D) (ds' : List D) (Q : VK), H a = some (.lst vs) → RpL F H av ds vs → Rp F H av d v → f ds d = some (r, ds') → (∀ z us, RpL F H av ds' us → Rp F H av r z → Q z (upd H a (.lst us))) → mr (.ref a) [v] H Q)
    (hk : G[i]? = some .ow) (he : EvE F X E G e m) (hN : X.N[i]? = some y := by rfl) (hv : Vis X.env.scope y := by first | exact Or.inl rfl | exact Or.inr (Or.inl rfl) | exact Or.inr (Or.inr rfl)) (hd : (y == ("__debug__" : Str)) = false := by decide) (hcd : (y == ("__classdict__" : Str)) = false := by decide)
    (hs : starEach [e] X.env = (false, eval e X.env) :: starEach [] X.env := by rfl) (hbase : attributeBase (.Name y p) (Str.ofString name) X.env (eval (.Name y p) X.env) = eval (.Name y p) X.env := by rfl)
    (hfew : ((backTo pos (starEach [e] X.env)).all (fun x => !x.1) && (backToKw pos (keywordEach [] X.env)).all (fun x => x.1.isSome)
      && decide (([e] : List Expr).length + ([] : List Keyword).length + (if ([] : List Keyword).isEmpty then 0 else 1) < 30)) = true := by rfl)
    (hline : (ap.endLine == pos.line) = true := by rfl) (hplain : (backTo pos (starEach [] X.env)).any (·.1) = false := by rfl) :
    EvE F X E G (.Call (.Attribute (.Name y p) (Str.ofString name) ap) [e] [] pos) (mLm i f m) := fun hX => by
  obtain ⟨t, pe, kk⟩ := he hX
  refine ⟨_, pe_bm _root_.PySem.F.plainAttrs_list slot hty (hm hX) (pe_var (i := i) hN hv hd hcd) (pa_cons pe pa_nil hs) hbase hfew hline hs hplain, fun w ow ρ σ H Q g h => ?_⟩
  obtain ⟨a, e1, o1, r1⟩ := g.slot i _ hk
  refine ⟨.ref a, e1, ?_⟩
  unfold mLm at h
  cases hl : isLst (ρ.getD i .non) with
  | false => rw [hl] at h; exact h.elim
  | true =>
    rw [hl, if_pos rfl] at h
    obtain ⟨ds0, e0⟩ := isLst_of hl
    obtain ⟨vs0, ha0, _⟩ := g.lstOf hk e1 e0
    refine ⟨.inl ⟨rfl, vs0, .inl (.inl ha0)⟩, kk w ow ρ σ H _ g (Post.mono (Post.split h) fun d ow1 ρ1 H1 _ _ _ ⟨g1, x1, h1⟩ v rv => ?_)⟩
    cases e2 : ρ1.getD i .non with
    | lst ds =>
      rw [e2] at h1
      dsimp only at h1
      cases ef : f ds d with
      | none => rw [ef] at h1; exact h1.elim
      | some p =>
        obtain ⟨r, ds'⟩ := p
        rw [ef] at h1
        obtain ⟨vs, ha, rl⟩ := g1.lstOf hk e1 e2
        refine hf _ H1 a vs ds d v r ds' Q ha rl rv ef fun z us ru rz => ?_
        have pt := g1.putL hk e1 ha ru
        exact h1 _ ow1 pt.1 pt.2 z (Rp.ext pt.2 _ _ rz)
    | _ => rw [e2] at h1; exact h1.elim
/-- x.append(e) -/
theorem ev_append {i : Nat} {y : Str} {e : Expr} {m : M D} {p ap pos : Pos} (hk : G[i]? = some .ow) (he : EvE F X E G e m) (hN : X.N[i]? = some y := by rfl) (hv : Vis X.env.scope y := by first | exact Or.inl rfl | exact Or.inr (Or.inl rfl) | exact Or.inr (Or.inr rfl)) (hd : (y == ("__debug__" : Str)) = false := by decide) (hcd : (y == ("__classdict__" : Str)) = false := by decide)
    (hs : starEach [e] X.env = (false, eval e X.env) :: starEach [] X.env := by rfl) (hbase : attributeBase (.Name y p) "append" X.env (eval (.Name y p) X.env) = eval (.Name y p) X.env := by rfl)
    (hfew : ((backTo pos (starEach [e] X.env)).all (fun x => !x.1) && (backToKw pos (keywordEach [] X.env)).all (fun x => x.1.isSome)
      && decide (([e] : List Expr).length + ([] : List Keyword).length + (if ([] : List Keyword).isEmpty then 0 else 1) < 30)) = true := by rfl)
    (hline : (ap.endLine == pos.line) = true := by rfl) (hplain : (backTo pos (starEach [] X.env)).any (·.1) = false := by rfl) :
    EvE F X E G (.Call (.Attribute (.Name y p) "append" ap) [e] [] pos) (mLm i fApp m) :=
  ev_lm (name := "append") (id := "list.append") _root_.PySem.F.slot_list_append rfl (fun _ => mt_append) (fun av H a vs ds d v r ds' Q ha rl rv ef q => by
    unfold fApp at ef
    split at ef
    · rename_i hz
      cases ef
      exact ⟨a, vs, v, rfl, rfl, ha, by rw [← rl.length, ← SZ_eq]; exact hz, q _ _ (rl.append (RpL.cons rv RpL.nil)) (by rw [Rp])⟩
    · cases ef) hk he hN hv hd hcd hs hbase hfew hline hplain
def sSetIt (i : Nat) (m mi : M D) : MS := fun ρ => (m ρ).rs fun d ρ => (mi ρ).rs fun j ρ => match ρ.getD i .non, j with
  | .lst ds, .int j => match ixN ds.length j with
    | some n => .nx (ρ.set i (.lst (ds.set n d)))
    | none => .bad
  | _, _ => .bad
theorem x_setit {i : Nat} {y : Str} {e ix : Expr} {m mi : M D} {p sp pos : Pos} (hk : G[i]? = some .ow) (he : EvE F X E G e m) (hi : EvE F X E G ix mi) (hN : X.N[i]? = some y := by rfl) (hv : Vis X.env.scope y := by first | exact Or.inl rfl | exact Or.inr (Or.inl rfl) | exact Or.inr (Or.inr rfl)) (hd : (y == ("__debug__" : Str)) = false := by decide) (hcd : (y == ("__classdict__" : Str)) = false := by decide)
    (ha : ∀ v, assign (.Subscript (.Name y p) ix sp) X.env v = (do
      let ov ← holding [v] (eval (.Name y p) X.env)
      let iv ← holding [v, ov] (eval ix X.env)
      standAt sp
      holding [v, ov, iv] (setItem ov iv v)
      release [v, ov, iv] []) := by intro _; rfl)
    (hs : swapsWithSole [.Subscript (.Name y p) ix sp] e pos.line X.env = pure false := by rfl) (hw : swappedStores [.Subscript (.Name y p) ix sp] e X.env = pure none := by rfl)
    (h1 : (assignEach [.Subscript (.Name y p) ix sp] X.env).map (·.2) = [assign (.Subscript (.Name y p) ix sp) X.env] := by rfl) :
    ExS F X E fr n0 G (.Assign [.Subscript (.Name y p) ix sp] e pos) (sSetIt i m mi) G := fun hX => by
  obtain ⟨t, pe, kk⟩ := he hX
  obtain ⟨u, pi, ll⟩ := hi hX
  refine ⟨_, ps_asg pe (pg_sub (pe_var (i := i) hN hv hd hcd) pi set_list ha) hs hw h1, fun w ow ρ σ H Dn hw0 g h => kk w ow ρ σ H _ g (Post.mono (PostS.split h) fun d ow1 ρ1 H1 _ _ _ ⟨g1, x1, h1⟩ v rv => ?_)⟩
  obtain ⟨a, e1, o1, r1⟩ := g1.slot i _ hk
  refine ⟨.ref a, e1, ll w ow1 ρ1 σ H1 _ g1 (Post.mono (PostS.split h1) fun j ow2 ρ2 H2 _ _ _ ⟨g2, x2, h2⟩ vj rj => ?_)⟩
  cases e2 : ρ2.getD i .non with
  | lst ds =>
    rw [e2] at h2
    cases j with
    | int j =>
      dsimp only at h2
      cases ej : ixN ds.length j with
      | none => rw [ej] at h2; exact h2.elim
      | some n =>
        rw [ej] at h2
        obtain ⟨vs, hv2, rl⟩ := g2.lstOf hk e1 e2
        have rj' : vj = .int j := PRp.int (.inl rj)
        subst rj'
        have pt := g2.putL hk e1 hv2 (RpL.set (Rp.ext x2 _ _ rv) n rl)
        exact ⟨a, vs, j, n, rfl, rfl, hv2, by rw [← rl.length]; exact ej, h2 σ _ ow2 pt.1 Kp.refl pt.2⟩
    | _ => exact h2.elim
  | _ => rw [e2] at h2; exact h2.elim
def setsG (G : List Knd) : List Nat → List Bool → List Knd
  | i :: is, k :: ks => (setsG G is ks).set i (if k then .ow else .va)
  | _, _ => G
def setsD {α : Type} (ρ : List α) : List Nat → List α → List α
  | i :: is, d :: ds => (setsD ρ is ds).set i d
  | _, _ => ρ
def PostP (F : Fx) (w : Wd) (ow : Own) (E : XK) (is : List Nat) (ks : List Bool) (G : List Knd) (σ : L2.St) (H : Hp) (r : R (List D)) (Q : List V → Hp → Prop) : Prop := match r with
  | .ok ds ρ' => ∀ H' ow' vs, vs.length = is.length → Gd F w ow' (setsG G is ks) (setsD ρ' is ds) (setsD σ is (vs.map some)) H' → Ext (Av w ow) (Av w ow') H H' → Q vs H'
  | .ex e ρ' => ∀ H' ow' C dx, Gd F w ow' G ρ' σ H' → Ext (Av w ow) (Av w ow') H H' → ExIs F H' (Av w ow') e C dx → E (.ref C) dx H'
  | .bad => False
def EvPs (F : Fx) (X : Cx) (E : XK) (is : List Nat) (ks : List Bool) (G : List Knd) (es : List Expr) (m : M (List D)) : Prop :=
  Fits F X → ∃ t, PA X es t ∧ ∀ w ow ρ σ H Q, (∀ i ∈ is, i + 1 ≠ w.n0) → Gd F w ow G ρ σ H → PostP F w ow E is ks G σ H (m ρ) Q → t σ H Q
def pNil : M (List D) := fun ρ => .ok [] ρ
def pCons (m : M D) (r : M (List D)) : M (List D) := m.bind fun d => r.bind fun ds => M.ret (d :: ds)
theorem ep_nil : EvPs F X E [] [] G [] pNil := fun hX => ⟨_, pa_nil, fun w ow ρ σ H Q _ g h => h H ow [] rfl g Ext.refl⟩
theorem ep_va {i : Nat} {is : List Nat} {ks : List Bool} {e : Expr} {es : List Expr} {m : M D} {ms : M (List D)} (h : EvE F X E G e m) (t : EvPs F X E is ks G es ms) (hs : starEach (e :: es) X.env = (false, eval e X.env) :: starEach es X.env := by rfl) : EvPs F X E (i :: is) (false :: ks) G (e :: es) (pCons m ms) := fun hX => by
  obtain ⟨ta, pa, ka⟩ := h hX
  obtain ⟨tb, pb, kb⟩ := t hX
  refine ⟨_, pa_cons pa pb hs, fun w ow ρ σ H Q hi g h => ?_⟩
  have h' : PostP F w ow E (i :: is) (false :: ks) G σ H ((m ρ).bind fun d => ms.bind fun ds => M.ret (d :: ds)) Q := h
  have ka' := fun Q q => ka w ow ρ σ H Q g q
  cases em : m ρ with
  | bad => rw [em] at h'; exact h'.elim
  | ex e ρ1 =>
    rw [em] at h' ka'
    exact ka' _ h'
  | ok d ρ1 =>
    rw [em] at h' ka'
    refine ka' _ fun H1 ow1 g1 x1 v rv => ?_
    have h2 : PostP F w ow E (i :: is) (false :: ks) G σ H ((ms ρ1).bind fun ds => M.ret (d :: ds)) Q := h'
    refine kb w ow1 ρ1 σ H1 _ (fun j hj => hi j (List.mem_cons_of_mem _ hj)) g1 ?_
    cases er : ms ρ1 with
    | bad => rw [er] at h2; exact h2.elim
    | ex e ρ2 =>
      rw [er] at h2
      exact fun H2 ow2 C dx g2 x2 => h2 H2 ow2 C dx g2 (x1.trans x2)
    | ok ds ρ2 =>
      rw [er] at h2
      intro H2 ow2 vs hl g2 x2
      exact h2 H2 _ (v :: vs) (by simp [hl]) (g2.setV (hi i List.mem_cons_self) (Rp.ext x2 _ _ rv)) ((x1.trans x2).trans ext_unOwn)
theorem ext_plus_minus {a : Addr} {H' : Hp} {ow' : Own} (x : Ext (Av w ow) (Av (w.plus a) ow') H H') : Ext (Av w ow) (Av w ow') H H' := ext_minus x
theorem ep_ow {i : Nat} {is : List Nat} {ks : List Bool} {e : Expr} {es : List Expr} {m : M D} {ms : M (List D)} (h : EvN F X E G e m) (t : EvPs F X E is ks G es ms) (hs : starEach (e :: es) X.env = (false, eval e X.env) :: starEach es X.env := by rfl) : EvPs F X E (i :: is) (true :: ks) G (e :: es) (pCons m ms) := fun hX => by
  obtain ⟨ta, pa, ka⟩ := h hX
  obtain ⟨tb, pb, kb⟩ := t hX
  refine ⟨_, pa_cons pa pb hs, fun w ow ρ σ H Q hi g h => ?_⟩
  have h' : PostP F w ow E (i :: is) (true :: ks) G σ H ((m ρ).bind fun d => ms.bind fun ds => M.ret (d :: ds)) Q := h
  have ka' := fun Q q => ka w ow ρ σ H Q g q
  cases em : m ρ with
  | bad => rw [em] at h'; exact h'.elim
  | ex e ρ1 =>
    rw [em] at h' ka'
    exact ka' _ h'
  | ok d ρ1 =>
    rw [em] at h' ka'
    refine ka' _ fun H1 ow1 a g1 x1 ha0 o1 => ?_
    have h2 : PostP F w ow E (i :: is) (true :: ks) G σ H ((ms ρ1).bind fun ds => M.ret (d :: ds)) Q := h'
    have hobj : ∃ o, H1 a = some o ∧ NoTbl o := by
      cases d with
      | lst ds => obtain ⟨vs, q, _⟩ := o1; exact ⟨_, q, noTbl_lst⟩
      | dct ks ds => obtain ⟨od, q, _⟩ := o1; exact ⟨_, q, noTbl_dO⟩
      | _ => exact o1.elim
    obtain ⟨o, ho, nt⟩ := hobj
    have hw0 : w.H0 a = none := g.dom a ha0
    have na : ¬ w.oc a := fun z => g.trk a (.inl z) ha0
    have gh := g1.held ho
    have xh : Ext (Av w ow) (Av (w.held a o) ow1) H H1 := ⟨x1.keep, x1.av, x1.there⟩
    refine kb (w.held a o) ow1 ρ1 σ H1 _ (fun j hj => hi j (List.mem_cons_of_mem _ hj)) gh ?_
    cases er : ms ρ1 with
    | bad => rw [er] at h2; exact h2.elim
    | ex e ρ2 =>
      rw [er] at h2
      exact fun H2 ow2 C dx g2 x2 q => h2 H2 ow2 C dx (g2.unheld hw0).minus (ext_minus (xh.trans x2)) (ex_le (fun b z => av_plus.mpr (.inl z)) q)
    | ok ds ρ2 =>
      rw [er] at h2
      intro H2 ow2 vs hl g2 x2
      have o2 : OwRp F H2 (Av (w.plus a) ow2) d a := o1.ext x2 ((g2.at_held nt).trans ho.symm)
      have g3 := (g2.unheld hw0).setO (hi i List.mem_cons_self) na hw0 o2
      refine h2 H2 _ (.ref a :: vs) (by simp [hl]) g3 ?_
      have xx := xh.trans x2
      exact ⟨xx.keep, fun b z => xx.av b (av_plus.mpr (av_toOwn z)), xx.there⟩
def sPar (is : List Nat) (m : M (List D)) : MS := fun ρ => (m ρ).rs fun ds ρ => if ds.length = is.length then .nx (setsD ρ is ds) else .bad
theorem PostS.par {is : List Nat} {ks : List Bool} {r : R (List D)} {Dn : Ends} (g : Gd F w ow G ρ σ H) (hi : ∀ i ∈ is, i + 1 ≠ w.n0) (h : PostS F w ow E fr (setsG G is ks) σ H (r.rs fun ds ρ => if ds.length = is.length then .nx (setsD ρ is ds) else .bad) Dn) :
    PostP F w ow E is ks G σ H r (fun vs H' => vs.length = is.length ∧ Dn.nx (setsD σ is (vs.map some)) H') := by
  cases r with
  | ok ds ρ' =>
    intro H' ow' vs hvl g' x
    have h' : PostS F w ow E fr (setsG G is ks) σ H (if ds.length = is.length then .nx (setsD ρ' is ds) else .bad) Dn := h
    split at h'
    · rename_i hl
      refine ⟨hvl, h' _ H' ow' g' ?_ x⟩
      intro j hj
      have key : ∀ (is : List Nat) (us : List (Option V)), (∀ i ∈ is, i + 1 ≠ w.n0) → (setsD σ is us)[j]? = σ[j]? := by
        intro is
        induction is with
        | nil => intro us _; rfl
        | cons i is ih =>
          intro us hi
          cases us with
          | nil => rfl
          | cons u us =>
            have h0 := hi i List.mem_cons_self
            show ((setsD σ is us).set i u)[j]? = _
            rw [List.getElem?_set_ne (by omega)]
            exact ih us fun i' h => hi i' (List.mem_cons_of_mem _ h)
      exact key is _ hi
    · exact h'.elim
  | ex e ρ' => exact fun H' ow' C dx g' x q => h H' ow' σ G C dx g' Kp.refl x q
  | bad => exact h
theorem x_par2 {i j : Nat} {ks : List Bool} {x y : Str} {a b : Expr} {m : M (List D)} {px py pt pos : Pos} {kt k2 pt2} (hc : X.calm = true) (hN : X.N.Nodup) (hi : X.N[i]? = some x) (hj : X.N[j]? = some y) (hij : i ≠ j) (hn : i + 1 ≠ n0 ∧ j + 1 ≠ n0)
    (hx : X.env.scope.names.lookup x = some .local) (hy : X.env.scope.names.lookup y = some .local) (ha : EvPs F X E [i, j] ks G [a, b] m)
    (hw : swappedStores [.Tuple [.Name x px, .Name y py] kt pt] (.Tuple [a, b] k2 pt2) X.env = pure (some [x, y]))
    (hs : swapsWithSole [.Tuple [.Name x px, .Name y py] kt pt] (.Tuple [a, b] k2 pt2) pos.line X.env = pure false := by rfl) :
    ExS F X E fr n0 G (.Assign [.Tuple [.Name x px, .Name y py] kt pt] (.Tuple [a, b] k2 pt2) pos) (sPar [i, j] m) (setsG G [i, j] ks) := fun hX => by
  obtain ⟨t, pa, kk⟩ := ha hX
  have hi2 : ∀ {w : Wd}, w.n0 = n0 → ∀ l ∈ [i, j], l + 1 ≠ w.n0 := fun {w} hw l hl => by
    rcases List.mem_cons.mp hl with rfl | hl
    · omega
    · obtain rfl : l = j := by simpa using hl
      omega
  refine ⟨_, ps_par hc hN hi hj hij hx hy pa hw hs, fun w ow ρ σ H Dn hw0 g h => ?_⟩
  refine kk w ow ρ σ H _ (hi2 hw0) g ?_
  have hp := PostS.par g (hi2 hw0) h
  have mono : ∀ {r : R (List D)} {Q Q' : List V → Hp → Prop}, PostP F w ow E [i, j] ks G σ H r Q → (∀ vs H', Q vs H' → Q' vs H') → PostP F w ow E [i, j] ks G σ H r Q' := fun {r Q Q'} h k => by
    cases r with
    | ok ds ρ' => exact fun H' ow' vs hl g x => k _ _ (h H' ow' vs hl g x)
    | ex e ρ' => exact h
    | bad => exact h
  refine mono hp fun vs H' q => ?_
  obtain ⟨hl, q⟩ := q
  match vs, hl, q with
  | [v, u], _, q =>
    refine ⟨v, u, rfl, ?_⟩
    have q' : Dn.nx ((σ.set j (some u)).set i (some v)) H' := q
    rw [List.set_comm _ _ hij] 
    exact q'
theorem x_par3 {i j l : Nat} {ks : List Bool} {x y z : Str} {a b c : Expr} {m : M (List D)} {px py pz pt pos : Pos} {kt k2 pt2} (hc : X.calm = true) (hN : X.N.Nodup) (hi : X.N[i]? = some x) (hj : X.N[j]? = some y) (hll : X.N[l]? = some z) (hij : i ≠ j) (hil : i ≠ l) (hjl : j ≠ l) (hn : i + 1 ≠ n0 ∧ j + 1 ≠ n0 ∧ l + 1 ≠ n0)
    (hx : X.env.scope.names.lookup x = some .local) (hy : X.env.scope.names.lookup y = some .local) (hz : X.env.scope.names.lookup z = some .local) (ha : EvPs F X E [i, j, l] ks G [a, b, c] m)
    (hw : swappedStores [.Tuple [.Name x px, .Name y py, .Name z pz] kt pt] (.Tuple [a, b, c] k2 pt2) X.env = pure (some [x, y, z]))
    (hs : swapsWithSole [.Tuple [.Name x px, .Name y py, .Name z pz] kt pt] (.Tuple [a, b, c] k2 pt2) pos.line X.env = pure false := by rfl) :
    ExS F X E fr n0 G (.Assign [.Tuple [.Name x px, .Name y py, .Name z pz] kt pt] (.Tuple [a, b, c] k2 pt2) pos) (sPar [i, j, l] m) (setsG G [i, j, l] ks) := fun hX => by
  obtain ⟨t, pa, kk⟩ := ha hX
  have hi2 : ∀ {w : Wd}, w.n0 = n0 → ∀ m ∈ [i, j, l], m + 1 ≠ w.n0 := fun {w} hw m hm => by
    simp only [List.mem_cons, List.not_mem_nil, or_false] at hm
    omega
  refine ⟨_, ps_par3 hc hN hi hj hll hij hil hjl hx hy hz pa hw hs, fun w ow ρ σ H Dn hw0 g h => ?_⟩
  refine kk w ow ρ σ H _ (hi2 hw0) g ?_
  have hp := PostS.par g (hi2 hw0) h
  have mono : ∀ {r : R (List D)} {Q Q' : List V → Hp → Prop}, PostP F w ow E [i, j, l] ks G σ H r Q → (∀ vs H', Q vs H' → Q' vs H') → PostP F w ow E [i, j, l] ks G σ H r Q' := fun {r Q Q'} h k => by
    cases r with
    | ok ds ρ' => exact fun H' ow' vs hl g x => k _ _ (h H' ow' vs hl g x)
    | ex e ρ' => exact h
    | bad => exact h
  refine mono hp fun vs H' q => ?_
  obtain ⟨hl, q⟩ := q
  match vs, hl, q with
  | [v, u, t], _, q =>
    refine ⟨v, u, t, rfl, ?_⟩
    have q' : Dn.nx (((σ.set l (some t)).set j (some u)).set i (some v)) H' := q
    rw [List.set_comm _ _ hij, List.set_comm _ _ hil, List.set_comm _ _ hjl]
    exact q'
end
end Hs

namespace Hs
open PySem PySem.Spec PyProof.Rows L2

section
open PySem.Calls
variable {prog : Program} {w : World} {A : Around} {s : Shared} {E : Value → Shared → Prop}
/-- what stands when l's items were copied -/
def cpHeap (h : Heap) (vs : List Value) : Heap := (h.push (seqObj "list" #[] 0)).update h.objs.size (Obj.mapSeq (· ++ vs.toArray))
theorem grab_tup {l : Addr} {vs : List Value} {Q : List Value → Shared → Prop} {o : Obj} {n : Nat} (ho : s.heap.get? l = some o) (hc : o.cls = .type "tuple") (hd : o.data = .seq vs.toArray n) (h : Q vs { s with heap := cpHeap s.heap vs }) (hz : vs.length ≤ sizeLine) : wpAny (model prog w) A (collect (.ref l)) Q E s := by
  unfold collect
  refine wpAny_bind (wpAny_runValue (codeAny_builtin entry_proto_collect' (by
    show wpAny _ _ (do again (.builtin "list.__iadd__" ⟨[← newList [], .ref l], []⟩)) _ _ s
    exact wpAny_bind (wpAny_newList (wpAny_pure ⟨Code.quiet_builtin _ (by decide +kernel), codeAny_builtin entry_list_iadd' (by
      show wpAny _ _ (Builtin.List.listExtendWith (.ref s.heap.objs.size) (.ref l) (.ref s.heap.objs.size)) _ _ { s with heap := s.heap.push (seqObj "list" #[] 0) }
      have hp : (s.heap.push (seqObj "list" #[] 0)).get? l = some o := Heap.get?_push_of_some _ ho
      have hl0 : (s.heap.push (seqObj "list" #[] 0)).get? s.heap.objs.size = some (seqObj "list" #[] 0) := Heap.get?_push_size _ rfl
      unfold Builtin.List.listExtendWith
      exact wpAny_bind (wpAny_typeOf (T := "tuple") ⟨o, hp, hc⟩ (by
        rw [if_pos (by simp)]
        exact wpAny_bind (listItems_at hp hd (wpAny_bind (listItems_at (xs := #[]) (n := 0) hl0 rfl (by
          rw [if_neg (by simp)]
          exact wpAny_bind (listUpdate_at (xs := #[]) (n := 0) hl0 rfl (wpAny_pure (by
            show wpAny (model prog w) A (load s.heap.objs.size >>= fun o => (match o.data with
              | .seq xs _ => pure xs.toList
              | _ => unsupported "internal:collect")) Q E { s with heap := cpHeap s.heap vs }
            exact wpAny_bind (wpAny_load (get?_update_seq hl0 _) (by
              show wpAny _ _ (pure ((#[] : Array Value) ++ vs.toArray).toList) Q E _
              have e : ((#[] : Array Value) ++ vs.toArray).toList = vs := by simp
              rw [e]
              exact wpAny_pure h)))) (Nat.zero_le _) (by
              have e : (#[] ++ vs.toArray : Array Value).size = vs.length := by simp
              show (#[] ++ vs.toArray : Array Value).size ≤ sizeLine + 1
              omega)))))))))⟩)))))
theorem sort_tup {l : Addr} {vs : List Value} {κ : PyProof.Rows.KeyKind} {Q : Value → Shared → Prop} {o : Obj} {n : Nat} (ho : s.heap.get? l = some o) (hc : o.cls = .type "tuple") (hd : o.data = .seq vs.toArray n) (hz : vs.length ≤ sizeLine)
    (S : PySem.W.SortsAt prog w A.in1.in1 { s with heap := PySem.W.sortingHeap (PySem.W.copyHeap s.heap vs) (s.heap.objs.size + 1) vs } κ vs) (h : Q (.ref (s.heap.objs.size + 1)) { s with heap := sortedAll s.heap vs (PySem.W.sortVals κ false vs vs).toArray }) : wpAny (model prog w) A (call (.builtin "sorted") [.ref l]) Q E s := by
  have e1 : (cpHeap s.heap vs).objs.size = s.heap.objs.size + 1 := by
    unfold cpHeap; rw [Heap.size_update, size_push']
  refine call_function_entry_kw kind_sorted plain_sorted entry_sorted (args_sorted1 _) ?_
  unfold Builtin.«sorted»
  refine wpAny_bind (m := checkCount "sorted" 1 1 _) (wpAny_pure (wpAny_bind (grab_tup ho hc hd ?_ hz)))
  refine wpAny_bind (wpAny_newList ?_ hz)
  show wpAny _ _ _ _ _ { s with heap := PySem.W.copyHeap s.heap vs }
  rw [show (cpHeap s.heap vs).objs.size = s.heap.objs.size + 1 from e1]
  refine wpAny_bind (wpAny_holding (wpAny_call_entry_kw slot_list_sort ⟨_, PySem.W.copyHeap_at s.heap vs, rfl⟩ entry_list_sort ?body (args_list_sort _)))
  case body =>
    show wpAny (model prog w) A.in1.in1 (Builtin.«list.sort» ⟨[.ref (s.heap.objs.size + 1)], []⟩) _ _ _
    have b : ∀ E' : Value → Shared → Prop, wpAny (model prog w) A.in1.in1 (Builtin.«list.sort» ⟨[.ref (s.heap.objs.size + 1)], []⟩) (fun f s' => f = .done (.ret .none) ∧ Q (.ref (s.heap.objs.size + 1)) s') E' { s with heap := PySem.W.copyHeap s.heap vs } := fun _ => PySem.W.list_sort_vals (s := { s with heap := PySem.W.copyHeap s.heap vs }) (PySem.W.copyHeap_at s.heap vs) S hz ⟨rfl, h⟩
    exact wpAny_mono (b _) (fun f s' ⟨e, q⟩ => by subst e; exact ⟨_, rfl, wpAny_pure ⟨_, rfl, q⟩⟩) fun _ _ e => e
theorem sort_tup_data {β : Type} {enc : β → PyData} {R : Value → β → Prop} {bs : List β} {l : Addr} {vs : List Value} {Q : Value → Shared → Prop} {o : Obj} {n : Nat} (ho : s.heap.get? l = some o) (hc : o.cls = .type "tuple") (hd : o.data = .seq vs.toArray n)
    (e : PySem.W.EachIs R vs bs) (er : PySem.W.EachIs (fun v b => ∃ as, Reads s.heap v (enc b) as) vs bs) (hal : PySem.W.AllAlike (bs.map enc)) (hk : PySem.W.Sortable (bs.map enc)) (hL : bs.length ≤ sizeLine) (hu : ∀ b, b ∈ bs → A.units + 2 + (enc b).depth < cLine)
    (h : ∀ out : List Value, out.length = bs.length → PySem.W.EachIs R out (bs.mergeSort (PySem.W.dataLe false enc)) → Q (.ref (s.heap.objs.size + 1)) { s with heap := sortedAll s.heap vs (List.toArray out) }) : wpAny (model prog w) A (call (.builtin "sorted") [.ref l]) Q E s := by
  have er' := er.mono (R' := fun v b => ∃ as, Reads (PySem.W.sortingHeap (PySem.W.copyHeap s.heap vs) (s.heap.objs.size + 1) vs) v (enc b) as) fun _ _ ⟨as, r⟩ => ⟨as, PyProof.Rows.Reads.keeps (fun _ _ => PySem.W.sorting_copy_old) r⟩
  refine sort_tup ho hc hd (by rw [e.length]; exact hL) (PySem.W.SortsAt.data (s := { s with heap := PySem.W.sortingHeap (PySem.W.copyHeap s.heap vs) (s.heap.objs.size + 1) vs }) (PySem.W.each_map enc er') hal hk (PySem.W.bound_map hu)) ?_
  exact h _ ((PySem.W.sortVals_length false rfl).trans e.length) (PySem.W.sortVals_data false e er' hal)
end
section
variable {F : Fx} {X : Cx} {E : XK} {fr : Bool} {n0 : Nat} {w : Wd} {ow : Own} {G G' : List Knd} {ρ : List D} {σ : L2.St} {H : Hp} {base : Heap} {k : Nat}
def alikeL (ds : List D) : Bool := ds.all fun d => ds.all fun e => d.alike e
def tupNe : D → Bool
  | .tup (_ :: _) => true
  | _ => false
def notTN : D → Bool
  | .tup _ => false
  | .non => false
  | _ => true
def canSort (ds : List D) : Bool := D.plainL ds && alikeL ds && (ds.all tupNe || ds.all notTN) && ds.all (fun d => decide (d.depth ≤ 64)) && decide (ds.length ≤ SZ)
def sortD (ds : List D) : List D := ds.mergeSort (PySem.W.dataLe false D.py)
def dSorted : D → Option D
  | .lst ds => if canSort ds then some (.lst (sortD ds)) else none
  | .tup ds => if canSort ds then some (.lst (sortD ds)) else none
  | _ => none
theorem plainL_mem {ds : List D} (h : D.plainL ds = true) : ∀ d ∈ ds, d.plain = true := by
  induction ds with
  | nil => intro d hd; cases hd
  | cons e ds ih =>
    rw [D.plainL, Bool.and_eq_true] at h
    intro d hd
    rcases List.mem_cons.mp hd with rfl | hd
    · exact h.1
    · exact ih h.2 d hd
theorem eachR {av : Addr → Prop} : ∀ {ds : List D} {vs : List V} {us : List Value}, RpL F H av ds vs → Vals vs us → PySem.W.EachIs (fun u d => ∃ v, RelV v u ∧ Rp F H av d v) us ds
  | [], _, _, r, h => by
    rw [RpL] at r; subst r
    cases h
    exact .nil
  | d :: ds, _, _, r, h => by
    rw [RpL] at r
    obtain ⟨v, vs, rfl, r1, r2⟩ := r
    cases h with
    | cons h1 h2 => exact .cons ⟨v, h1, r1⟩ (eachR r2 h2)
theorem eachV {av : Addr → Prop} : ∀ {ds : List D} {us : List Value}, PySem.W.EachIs (fun u d => ∃ v, RelV v u ∧ Rp F H av d v) us ds → ∃ vs, Vals vs us ∧ RpL F H av ds vs
  | [], _, .nil => ⟨[], .nil, RpL.nil⟩
  | d :: ds, _, .cons ⟨v, h1, r1⟩ t => by
    obtain ⟨vs, h2, r2⟩ := eachV t
    exact ⟨v :: vs, .cons h1 h2, RpL.cons r1 r2⟩
theorem eachReads {pins : List (Addr × Obj)} {s : Shared} {av : Addr → Prop} (hX : Fits F X) (I : Inv X pins σ H s) : ∀ {ds : List D} {vs : List V} {us : List Value}, (∀ d ∈ ds, d.plain = true) → RpL F H av ds vs → Vals vs us → PySem.W.EachIs (fun u d => ∃ as, Reads s.heap u (D.py d) as) us ds
  | [], _, _, _, r, h => by
    rw [RpL] at r; subst r
    cases h
    exact .nil
  | d :: ds, _, _, hp, r, h => by
    rw [RpL] at r
    obtain ⟨v, vs, rfl, r1, r2⟩ := r
    cases h with
    | cons h1 h2 =>
      refine .cons (Dp.reads I d.py v _ ?_ h1) (eachReads hX I (fun e he => hp e (List.mem_cons_of_mem _ he)) r2 h2)
      rw [hX.k]
      exact Rp.dp d v (hp d List.mem_cons_self) r1
theorem one1_some {f : D → Option D} {dx : List D} {d : D} (e : one1 f dx = some d) : ∃ x, dx = [x] ∧ f x = some d := by
  match dx, e with
  | [x], e => exact ⟨x, rfl, e⟩
theorem dSorted_some {x d : D} (e : dSorted x = some d) : ∃ ds, (x = .lst ds ∨ x = .tup ds) ∧ canSort ds = true ∧ d = .lst (sortD ds) := by
  cases x with
  | tup ds =>
    have e' : (if canSort ds then some (D.lst (sortD ds)) else none) = some d := e
    by_cases hc : canSort ds = true
    · rw [if_pos hc] at e'
      exact ⟨ds, .inr rfl, hc, (Option.some.inj e').symm⟩
    · rw [if_neg hc] at e'; cases e'
  | lst ds =>
    have e' : (if canSort ds then some (D.lst (sortD ds)) else none) = some d := e
    by_cases hc : canSort ds = true
    · rw [if_pos hc] at e'
      exact ⟨ds, .inl rfl, hc, (Option.some.inj e').symm⟩
    · rw [if_neg hc] at e'; cases e'
  | _ => cases e
theorem o_sorted {n : Nat} (hX : Fits F X) (hr : Room n X.A) : CallR X (.builtin "sorted") (rDL F (one1 dSorted)) := by
  intro pins s σ H xs us Q I r h
  obtain ⟨av, dx, d, tr, p, e, q⟩ := h
  obtain ⟨x, rfl, e⟩ := one1_some e
  obtain ⟨ds, hx, hc, rfl⟩ := dSorted_some e
  · obtain ⟨v, rfl, pv⟩ := p.one
    have hav : ∃ a vs, v = .ref a ∧ (SqL X.K H a vs ∨ SqT X.K H a vs) ∧ RpL F H av ds vs := by
      rcases hx with rfl | rfl
      · obtain ⟨a, vs, rfl, ha, ra⟩ := pv.lst
        exact ⟨a, vs, rfl, .inl (.inl (.inl ha)), ra⟩
      · obtain ⟨a, vs, rfl, ha, _, ra⟩ := pv.tup
        exact ⟨a, vs, rfl, .inr (SqT.of ha), ra⟩
    obtain ⟨a, vs, rfl, ha, ra⟩ := hav
    · unfold canSort at hc
      simp only [Bool.and_eq_true, Bool.or_eq_true, decide_eq_true_eq, List.all_eq_true] at hc
      obtain ⟨⟨⟨⟨h1, h2⟩, h3⟩, h4⟩, h5⟩ := hc
      rw [Vals.ref1 r]
      obtain ⟨its, rv, pl, hz⟩ : ∃ its : List Value, Vals vs its ∧ (s.heap.IsList a its.toArray ∨ IsTup s.heap a its.toArray) ∧ vs.length ≤ sizeLine := by
        rcases ha with ha | ha
        · obtain ⟨its, rv, pl, hz⟩ := I.list ha
          exact ⟨its, rv, .inl pl.isList, hz⟩
        · obtain ⟨its, rv, pl, hz⟩ := I.tuple ha
          exact ⟨its, rv, .inr pl, hz⟩
      have pm := plainL_mem h1
      have al : PySem.W.AllAlike (ds.map D.py) := by
        intro x hx y hy
        obtain ⟨d1, m1, rfl⟩ := List.mem_map.mp hx
        obtain ⟨d2, m2, rfl⟩ := List.mem_map.mp hy
        unfold alikeL at h2
        rw [List.all_eq_true] at h2
        have := h2 d1 m1
        rw [List.all_eq_true] at this
        exact this d2 m2
      have so : PySem.W.Sortable (ds.map D.py) := by
        rcases h3 with h3 | h3
        · left
          intro x hx
          obtain ⟨d1, m1, rfl⟩ := List.mem_map.mp hx
          have := h3 d1 m1
          match d1, this with
          | .tup (y :: ys), _ => exact ⟨y.py, D.pyL ys, by rw [D.py, D.pyL]⟩
        · right
          intro x hx
          obtain ⟨d1, m1, rfl⟩ := List.mem_map.mp hx
          have := h3 d1 m1
          have pl := pm d1 m1
          cases d1 with
          | non => cases this
          | tup ys => cases this
          | bl b => exact ⟨by simp [D.py], fun xs => by simp [D.py]⟩
          | int b => exact ⟨by simp [D.py], fun xs => by simp [D.py]⟩
          | str b => exact ⟨by simp [D.py], fun xs => by simp [D.py]⟩
          | scr b => exact ⟨by simp [D.py], fun xs => by simp [D.py]⟩
          | lst b => exact ⟨by simp [D.py], fun xs => by simp [D.py]⟩
          | _ => exact ⟨by simp [D.py], fun xs => by simp [D.py]⟩
      have hu : X.A.units + 2 + 64 < cLine := by have := hr.un; omega
      have hS : ds.length ≤ sizeLine := by rw [← SZ_eq]; exact h5
      have hdp : ∀ d, d ∈ ds → X.A.units + 2 + d.py.depth < cLine := fun d hd => by
        have z : d.py.depth ≤ 64 := h4 d hd
        omega
      suffices fin : ∀ out : List Value, out.length = ds.length → PySem.W.EachIs (fun u d => ∃ v, RelV v u ∧ Rp F H av d v) out (ds.mergeSort (PySem.W.dataLe false D.py)) → EP X pins σ Q (.ref (s.heap.objs.size + 1)) { s with heap := sortedAll s.heap its out.toArray } by
        rcases pl with pl | ⟨o, ho, hc, n, hd⟩
        · exact PySem.W.sorted_data (vs := its) (bs := ds) (enc := D.py) (R := fun u d => ∃ v, RelV v u ∧ Rp F H av d v) pl (eachR ra rv) (eachReads hX I pm ra rv) al so hS hdp fin
        · exact sort_tup_data (vs := its) (bs := ds) (enc := D.py) (R := fun u d => ∃ v, RelV v u ∧ Rp F H av d v) ho hc hd (eachR ra rv) (eachReads hX I pm ra rv) al so hS hdp fin
      intro out ho eo
      obtain ⟨c, hc⟩ := sortedAll_at s.heap its out.toArray
      obtain ⟨ws, hv, rw'⟩ := eachV eo
      have hlen : ws.length ≤ sizeLine := by
        rw [← rw'.length, List.length_mergeSort, ← SZ_eq]; exact h5
      have hn : H (s.heap.objs.size + 1) = none := I.hok.fresh (Nat.le_succ _)
      refine ⟨.ref (s.heap.objs.size + 1), upd H (s.heap.objs.size + 1) (.lst ws), I.laid (t' := s.toks) (fun b o e => sortedAll_old e) (Nat.le_succ _) ⟨hlen, out, c, hv, hc⟩, rfl, ?_⟩
      exact q _ _ (Grow.upd hn) (Rp.newL tr hn rw')
def ddup : List Int → List Int
  | [] => []
  | x :: xs => if x ∈ xs then ddup xs else x :: ddup xs
theorem ddup_mem : ∀ (ns : List Int) (k : Int), k ∈ ddup ns ↔ k ∈ ns
  | [], k => by simp [ddup]
  | x :: xs, k => by
    rw [ddup]
    split
    · rename_i h
      rw [ddup_mem xs k, List.mem_cons]
      exact ⟨.inr, fun z => z.elim (fun e => by rw [e]; exact h) id⟩
    · rw [List.mem_cons, List.mem_cons, ddup_mem xs k]
theorem ddup_nodup : ∀ ns : List Int, (ddup ns).Nodup
  | [] => by simp [ddup]
  | x :: xs => by
    rw [ddup]
    split
    · exact ddup_nodup xs
    · rename_i h
      exact List.nodup_cons.mpr ⟨fun z => h ((ddup_mem xs x).mp z), ddup_nodup xs⟩
def distinct (ns : List Int) : Nat := (ddup ns).length
def setLen (xs : List D) : Option D := (intsD xs).bind fun ns => if ns.length + 1 < 4096 then some (.int (distinct ns)) else none
def dLenSet : D → Option D
  | .lst xs => setLen xs
  | .tup xs => setLen xs
  | _ => none
theorem setLen_some {xs : List D} {d : D} (e : setLen xs = some d) : ∃ ns, intsD xs = some ns ∧ ns.length + 1 < 4096 ∧ d = .int (distinct ns) := by
  unfold setLen at e
  obtain ⟨ns, e1, e2⟩ := Option.bind_eq_some_iff.mp e
  by_cases hl : ns.length + 1 < 4096
  · rw [if_pos hl] at e2
    exact ⟨ns, e1, hl, (Option.some.inj e2).symm⟩
  · rw [if_neg hl] at e2; cases e2
theorem distinct_of {ns ms : List Int} (hn : ms.Nodup) (hm : ∀ k, k ∈ ms ↔ k ∈ ns) : ms.length = distinct ns := by
  have h2 : ms.Perm (ddup ns) := (List.perm_ext_iff_of_nodup hn (ddup_nodup ns)).mpr fun k => by rw [hm k, ddup_mem]
  exact h2.length_eq
theorem firstMet_nodup' (val : Nat → Int) : ∀ i, (firstMet val i).Nodup
  | 0 => by simp [firstMet_zero]
  | i + 1 => by
    rw [firstMet_succ]
    unfold step_dedup
    split
    · exact firstMet_nodup' val i
    · rename_i h
      refine List.nodup_append.mpr ⟨firstMet_nodup' val i, by simp, fun a ha b hb e => h ?_⟩
      obtain rfl : b = val i := by simpa using hb
      exact List.any_eq_true.mpr ⟨a, ha, by simp [e]⟩
theorem firstMet_dist (ns : List Int) : (firstMet (fun i => ns.getD i 0) ns.length).length = distinct ns := by
  refine distinct_of (firstMet_nodup' _ _) fun k => ?_
  have h := firstMet_any (fun i => ns.getD i 0) ns.length k
  have e : (List.range ns.length).map (fun i => ns.getD i 0) = ns := by
    apply List.ext_getElem (by simp)
    intro i h1 h2
    simp [List.getD_eq_getElem?_getD, h2]
  rw [e] at h
  constructor
  · intro hk
    have : (firstMet (fun i => ns.getD i 0) ns.length).any (· == k) = true := List.any_eq_true.mpr ⟨k, hk, by simp⟩
    rw [h] at this
    obtain ⟨y, hy, e⟩ := List.any_eq_true.mp this
    rw [← beq_iff_eq.mp e]; exact hy
  · intro hk
    have : ns.any (· == k) = true := List.any_eq_true.mpr ⟨k, hk, by simp⟩
    rw [← h] at this
    obtain ⟨y, hy, e⟩ := List.any_eq_true.mp this
    rw [← beq_iff_eq.mp e]; exact hy
theorem setR_dist {ws : World} {h : Heap} {a : Addr} {ns : List Int} {c : Nat} (R : SetR ws h a (fun j => decide (j ∈ ns)) c) : c = distinct ns := by
  obtain ⟨o, es, ep, t, _, _, _, _, nd, mem, _, _, rfl, _⟩ := R
  have := distinct_of (ns := ns) nd fun k => by rw [← mem k]; simp
  rw [List.length_map] at this
  rw [← this]; simp
theorem ev_lenset {a : Expr} {m : M D} {p p2 q pos : Pos} (hc : X.calm = true) (hg : Gl X "len") (hm : F.mg "len" = none) (hg2 : Gl X "set") (hm2 : F.mg "set" = none) (ha : EvE F X E G a m)
    (na : starEach [a] X.env = (false, eval a X.env) :: starEach [] X.env := by rfl) : EvE F X E G (.Call (.Name "len" p) [.Call (.Name "set" p2) [a] [] q] [] pos) (mOp1 dLenSet (oV m)) := fun hX => by
  obtain ⟨ta, pa, ka⟩ := ha hX
  refine ⟨fun σ H Q => ta σ H (fun v H1 => (∃ (l : Addr) (ns : List Int), v = .ref l ∧ (SqL X.K H1 l (ns.map V.int) ∨ SqT X.K H1 l (ns.map V.int)) ∧ ns.length + 1 < 4096 ∧ Q (.int (distinct ns)) H1)), ⟨fun pins s σ H Q I h => ?_⟩, fun w ow ρ σ H Q g h => ?_⟩
  · refine Call_ (ld_blt I hg (by rw [hX.m]; exact hm) PySem.boot_len ?_)
    refine PyProof.Rows.callWith_builtin1 (PyProof.Rows.args_cons ?_ rfl) rfl rfl
    refine Call_ (ld_blt I hg2 (by rw [hX.m]; exact hm2) PyProof.Rows.boot_set ?_)
    refine PyProof.Rows.callWith_type1 (PyProof.Rows.args_cons (thn (pa.run pins s σ H _ I h) fun v s1 ⟨x, H1, I1, r1, q1⟩ => PyProof.Rows.args_nil ?_) na) na rfl
    obtain ⟨l, ns, rfl, hq, h1, q1⟩ := q1
    cases r1
    rcases hq with hq | hq
    · obtain ⟨its, r, pl, hz⟩ := I1.list hq
      have hl : its.toArray.size = ns.length := by rw [List.size_toArray, ← r.length, List.length_map]
      refine call_set_list (I1.ok.hd hc) pl.isList (ns := ns) (by simpa using r.ints) (by unfold scanBound; omega) fun h' tk hS hk => ?_
      rw [hl, firstMet_dist] at hS
      refine PyProof.Rows.args_nil ?_
      obtain ⟨o, es, ep, t, ho, hex, hd, _, _, hsz, hf, hn⟩ := hS
      have I2 : Inv X pins σ H1 { s1 with heap := h', toks := tk } := I1.kept fun b o e => hk b o (Heap.lt_size e) e
      refine call_len_set ho hex hd hf (by unfold scanBound at hsz; omega) ⟨.int (distinct ns), H1, I2.tok _, ⟨_, by rw [hn]⟩, q1⟩
    · obtain ⟨its, r, pl, hz⟩ := I1.tuple hq
      refine call_set_tupI ns (I1.ok.hd hc) (show s1.heap.IsTuple l its.toArray from pl) (by simpa using r.ints) (by unfold scanBound; omega) fun h' tk c hS hcl hk => ?_
      refine PyProof.Rows.args_nil ?_
      have hdc := setR_dist hS
      obtain ⟨o, es, ep, t, ho, hex, hd, _, _, _, hsz, hf, hn, _⟩ := hS
      have I2 : Inv X pins σ H1 { s1 with heap := h', toks := tk } := I1.kept fun b o e => hk b o e
      refine call_len_set ho hex hd hf (by unfold scanBound at hsz; omega) ⟨.int (distinct ns), H1, I2.tok _, ⟨_, by rw [hn, hdc]⟩, q1⟩
  · have h' : Post F w ow E G σ H (((m ρ).bind fun d ρ => .ok (OV.v d) ρ).bind fun x ρ => M.opt (dLenSet (x.get ρ)) ρ) (fun d ow' _ H' => ∀ v, Rp F H' (Av w ow') d v → Q v H') := h
    refine ka w ow ρ σ H _ g ?_
    cases em : m ρ with
    | bad => rw [em] at h'; exact h'.elim
    | ex e ρ1 => rw [em] at h'; exact h'
    | ok d ρ1 =>
      rw [em] at h'
      intro H1 ow1 g1 x1 v rv
      have h2 : Post F w ow E G σ H (M.opt (dLenSet d) ρ1) (fun d ow' _ H' => ∀ v, Rp F H' (Av w ow') d v → Q v H') := h'
      cases d with
      | lst xs =>
        have h3 : Post F w ow E G σ H (M.opt (setLen xs) ρ1) (fun d ow' _ H' => ∀ v, Rp F H' (Av w ow') d v → Q v H') := h2
        rw [Rp] at rv
        obtain ⟨a, vs, rfl, ha, na, r⟩ := rv
        cases es : setLen xs with
        | none => rw [es] at h3; exact h3.elim
        | some d =>
          obtain ⟨ns, ei, hl, rfl⟩ := setLen_some es
          rw [es] at h3
          have := ints_rp r ei
          subst this
          exact ⟨a, ns, rfl, .inl (.inl (.inl ha)), hl, h3 H1 ow1 g1 x1 _ Rp.mkint⟩
      | tup xs =>
        have h3 : Post F w ow E G σ H (M.opt (setLen xs) ρ1) (fun d ow' _ H' => ∀ v, Rp F H' (Av w ow') d v → Q v H') := h2
        rw [Rp] at rv
        obtain ⟨a, vs, rfl, ha, na, r⟩ := rv
        cases es : setLen xs with
        | none => rw [es] at h3; exact h3.elim
        | some d =>
          obtain ⟨ns, ei, hl, rfl⟩ := setLen_some es
          rw [es] at h3
          have := ints_rp r ei
          subst this
          exact ⟨a, ns, rfl, .inr (.inl (.inl ha)), hl, h3 H1 ow1 g1 x1 _ Rp.mkint⟩
      | _ => exact h2.elim
end
end Hs

namespace Hs
open PySem PySem.Spec PyProof.Rows L2

section
variable {F : Fx} {X : Cx} {E : XK} {fr : Bool} {n0 : Nat} {w : Wd} {ow : Own} {G G' : List Knd} {ρ : List D} {σ : L2.St} {H : Hp} {base : Heap} {k : Nat}
def rD3 (F : Fx) (f : D → D → Option D) : V → List V → Hp → VK → Prop := fun x ys H Q => ∃ y av dx dy d, ys = [y] ∧ (∀ b, av b → H b ≠ none) ∧ PRp F H av dx x ∧ PRp F H av dy y ∧ f dx dy = some d ∧ ∀ z H', Grow H H' → Rp F H' av d z → Q z H'
/-- o.m(e) of a list, read alone -/
theorem ev_lr {f : D → D → Option D} {name id : String} {o e : Expr} {mo m : M OV} {ap pos : Pos} (slot : Slot "list" (Str.ofString name) id) (hty : typeOf (.builtin id) = pure (.type "method_descriptor")) (hm : Fits F X → MtR X id (rD3 F f)) (hl : ∀ x y d, f x y = some d → isLst x = true)
    (ho : EvO F X E G o mo) (he : EvO F X E G e m) (hs : starEach [e] X.env = (false, eval e X.env) :: starEach [] X.env := by rfl) (hbase : attributeBase o (Str.ofString name) X.env (eval o X.env) = eval o X.env := by rfl)
    (hfew : ((backTo pos (starEach [e] X.env)).all (fun x => !x.1) && (backToKw pos (keywordEach [] X.env)).all (fun x => x.1.isSome)
      && decide (([e] : List Expr).length + ([] : List Keyword).length + (if ([] : List Keyword).isEmpty then 0 else 1) < 30)) = true := by rfl)
    (hline : (ap.endLine == pos.line) = true := by rfl) (hplain : (backTo pos (starEach [] X.env)).any (·.1) = false := by rfl) :
    EvE F X E G (.Call (.Attribute o (Str.ofString name) ap) [e] [] pos) (mo.bind fun x ρ => if isLst (x.get ρ) then (m ρ).bind (fun y ρ => M.opt (f (x.get ρ) (y.get ρ)) ρ) else .bad) := fun hX => by
  obtain ⟨to, po, ko⟩ := ho hX
  obtain ⟨te, pe, ke⟩ := he hX
  refine ⟨_, pe_bm _root_.PySem.F.plainAttrs_list slot hty (hm hX) po (pa_cons pe pa_nil hs) hbase hfew hline hs hplain, fun w ow ρ σ H Q g h => ?_⟩
  refine ko w ow ρ σ H _ g (Post.mono (Post.split h) fun x ow1 ρ1 H1 _ _ _ ⟨g1, x1, h1⟩ v rv => ?_)
  cases hc : isLst (x.get ρ1) with
  | false => rw [hc] at h1; exact h1.elim
  | true =>
    rw [hc, if_pos rfl] at h1
    have pv := rv.prp g1
    obtain ⟨ds, eds⟩ := isLst_of hc
    rw [eds] at pv
    obtain ⟨a, vs, rfl, ha, ra⟩ := pv.lst
    refine ⟨.inl ⟨rfl, vs, .inl (.inl ha)⟩, ke w ow1 ρ1 σ H1 _ g1 (Post.mono (Post.split h1) fun y ow2 ρ2 H2 _ _ _ ⟨g2, x2, h2⟩ u ru => ?_)⟩
    obtain ⟨d, ed, q⟩ := post_opt g2 h2
    exact ⟨u, Av w ow2, _, _, d, rfl, g2.trk, (rv.ext x2).prp g2, ru.prp g2, ed, q⟩
def mLr (f : D → D → Option D) (mo m : M OV) : M D := mo.bind fun x ρ => if isLst (x.get ρ) then (m ρ).bind (fun y ρ => M.opt (f (x.get ρ) (y.get ρ)) ρ) else .bad
def idxD (ds : List D) (x : D) : Option Nat := ds.findIdx? fun z => z.eqv x
def dIndex (l x : D) : Option D := match l with
  | .lst ds => if (D.lst ds).sh && x.sh then (idxD ds x).map fun i => .int (i : Nat) else none
  | _ => none
theorem m_index {n : Nat} (hX : Fits F X) (hr : Room n X.A) : MtR X "list.index" (rD3 F dIndex) := by
  intro pins s σ H x xs v us Q I rx rxs h
  obtain ⟨y, av, dx, dy, d, rfl, tr, px, py, e, q⟩ := h
  cases dx with
  | lst ds =>
    have e' : (if (D.lst ds).sh && dy.sh then (idxD ds dy).map fun i => D.int (i : Nat) else none) = some d := e
    by_cases hc : ((D.lst ds).sh && dy.sh) = true
    · rw [if_pos hc] at e'
      obtain ⟨j, ej, rfl⟩ := Option.map_eq_some_iff.mp e'
      obtain ⟨h1, h2⟩ : (D.lst ds).sh = true ∧ dy.sh = true := by rwa [Bool.and_eq_true] at hc
      have dpx := px.dp (plain_of_sh h1)
      have dpy := py.dp (plain_of_sh h2)
      obtain ⟨a, vs, rfl, ha, ra⟩ := px.lst
      unfold idxD at ej
      have hj := List.findIdx?_eq_some_iff_getElem.mp ej
      obtain ⟨hlt, hit, hno⟩ := hj
      rw [py_lst] at dpx
      have sh1 : SeqAt.shaped (.list (ds.map D.py)) = true := by rw [← py_lst]; exact h1
      rw [← hX.k] at dpx dpy
      refine mt_indexD (by have := hr.un; omega) pins s σ H _ _ v us Q I rx rxs ⟨a, y, dy.py, ds.map D.py, j, ds[j].py, rfl, rfl, dpx, dpy, sh1, h2, by simp [hlt], hit, fun m z' hm hz => ?_, q _ H Grow.refl Rp.mkint⟩
      rw [List.getElem?_map] at hz
      obtain ⟨z, ez, rfl⟩ := Option.map_eq_some_iff.mp hz
      have hml : m < ds.length := by omega
      have := hno m hm
      rw [List.getElem?_eq_getElem hml] at ez
      cases ez
      simpa [D.eqv] using this
    · rw [if_neg hc] at e'; cases e'
  | _ => cases e
theorem ev_index {n : Nat} {o e : Expr} {mo m : M OV} {ap pos : Pos} (hr : Room n X.A) (ho : EvO F X E G o mo) (he : EvO F X E G e m) (hs : starEach [e] X.env = (false, eval e X.env) :: starEach [] X.env := by rfl) (hbase : attributeBase o "index" X.env (eval o X.env) = eval o X.env := by rfl)
    (hfew : ((backTo pos (starEach [e] X.env)).all (fun x => !x.1) && (backToKw pos (keywordEach [] X.env)).all (fun x => x.1.isSome)
      && decide (([e] : List Expr).length + ([] : List Keyword).length + (if ([] : List Keyword).isEmpty then 0 else 1) < 30)) = true := by rfl)
    (hline : (ap.endLine == pos.line) = true := by rfl) (hplain : (backTo pos (starEach [] X.env)).any (·.1) = false := by rfl) :
    EvE F X E G (.Call (.Attribute o "index" ap) [e] [] pos) (mLr dIndex mo m) :=
  ev_lr (name := "index") (id := "list.index") _root_.PySem.F.slot_list_index _root_.PySem.F.type_list_index (fun hX => m_index hX hr) (fun x y d e => by cases x <;> first | rfl | cases e) ho he hs hbase hfew hline hplain
def dCount (l x : D) : Option D := match l, x with
  | .lst ds, .int k => (intsD ds).map fun ns => .int (ns.count k : Nat)
  | _, _ => none
theorem m_count (hX : Fits F X) : MtR X "list.count" (rD3 F dCount) := by
  intro pins s σ H x xs v us Q I rx rxs h
  obtain ⟨y, av, dx, dy, d, rfl, tr, px, py, e, q⟩ := h
  cases dx with
  | lst ds =>
    cases dy with
    | int k =>
      obtain ⟨ns, en, rfl⟩ := Option.map_eq_some_iff.mp (show (intsD ds).map (fun ns => D.int (ns.count k : Nat)) = some d from e)
      obtain ⟨a, vs, rfl, ha, ra⟩ := px.lst
      have := ints_rp ra en
      subst this
      exact mt_lcount pins s σ H _ _ v us Q I rx rxs ⟨a, ns, k, rfl, by rw [py.int], .inl (.inl ha), q _ H Grow.refl Rp.mkint⟩
    | _ => cases e
  | _ => cases e
theorem ev_count {o e : Expr} {mo m : M OV} {ap pos : Pos} (ho : EvO F X E G o mo) (he : EvO F X E G e m) (hs : starEach [e] X.env = (false, eval e X.env) :: starEach [] X.env := by rfl) (hbase : attributeBase o "count" X.env (eval o X.env) = eval o X.env := by rfl)
    (hfew : ((backTo pos (starEach [e] X.env)).all (fun x => !x.1) && (backToKw pos (keywordEach [] X.env)).all (fun x => x.1.isSome)
      && decide (([e] : List Expr).length + ([] : List Keyword).length + (if ([] : List Keyword).isEmpty then 0 else 1) < 30)) = true := by rfl)
    (hline : (ap.endLine == pos.line) = true := by rfl) (hplain : (backTo pos (starEach [] X.env)).any (·.1) = false := by rfl) :
    EvE F X E G (.Call (.Attribute o "count" ap) [e] [] pos) (mLr dCount mo m) :=
  ev_lr (name := "count") (id := "list.count") _root_.PySem.F.slot_list_count _root_.PySem.F.type_list_count (fun hX => m_count hX) (fun x y d e => by cases x <;> first | rfl | (cases y <;> cases e)) ho he hs hbase hfew hline hplain
def wkL : List Knd → List Knd → Bool
  | [], [] => true
  | a :: as, b :: bs => (decide (b = .un) || decide (b = a)) && wkL as bs
  | _, _ => false
def owL (n : Nat) (G : List Knd) : Bool := match n with
  | 0 => true
  | n + 1 => decide (G[n]? = some .ow)
theorem wkL_of : ∀ {G G' : List Knd}, wkL G G' = true → G'.length = G.length ∧ ∀ (i : Nat) (k : Knd), G'[i]? = some k → k = Knd.un ∨ G[i]? = some k
  | [], [], _ => ⟨rfl, fun i k e => by simp at e⟩
  | a :: as, b :: bs, h => by
    rw [wkL, Bool.and_eq_true, Bool.or_eq_true, decide_eq_true_eq, decide_eq_true_eq] at h
    obtain ⟨l, q⟩ := wkL_of h.2
    refine ⟨by simp [l], fun i k e => ?_⟩
    cases i with
    | zero =>
      have e' : some b = some k := e
      cases e'
      rcases h.1 with z | z
      · exact .inl z
      · right; rw [z]; rfl
    | succ i => exact q i k e
  | [], _ :: _, h => by cases h
  | _ :: _, [], h => by cases h
theorem owL_of {n : Nat} {G : List Knd} (h : owL n G = true) : ∀ i, i + 1 = n → G[i]? = some Knd.ow := fun i hi => by
  subst hi
  exact of_decide_eq_true h
theorem w1_of (h : wkL G G' = true) (h2 : owL n0 G' = true) : G'.length = G.length ∧ (∀ (i : Nat) (k : Knd), G'[i]? = some k → k = Knd.un ∨ G[i]? = some k) ∧ ∀ i : Nat, i + 1 = n0 → G'[i]? = some Knd.ow := ⟨(wkL_of h).1, (wkL_of h).2, owL_of h2⟩
theorem w2_of (h : wkL G G' = true) : G'.length = G.length ∧ (∀ (i : Nat) (k : Knd), G'[i]? = some k → k = Knd.un ∨ G[i]? = some k) := wkL_of h
theorem b_weak {G1 G2 : List Knd} {st : List Stmt} {ms : MS} (h : ExB F X E fr n0 G st ms G1) (hw : wkL G1 G2 = true) (h2 : owL n0 G2 = true) : ExB F X E fr n0 G st ms G2 := fun hX => by
  obtain ⟨t, p, k⟩ := h hX
  refine ⟨t, p, fun w ow ρ σ H Dn hn g h => k w ow ρ σ H Dn hn g ?_⟩
  cases e : ms ρ with
  | nx ρ' =>
    rw [e] at h
    have z := w1_of hw h2
    exact fun σ' H' ow' g' kp x => h σ' H' ow' (g'.weak z.1 z.2.1 (fun i hi => z.2.2 i (by omega))) kp x
  | rt d ρ' => rw [e] at h; exact h
  | ex e ρ' => rw [e] at h; exact h
  | bad => rw [e] at h; exact h
/-- ahead of a block -/
theorem b_pre {G1 : List Knd} {st : List Stmt} {ms : MS} (h : ExB F X E fr n0 G1 st ms G') (hw : wkL G G1 = true) (h2 : owL n0 G1 = true) : ExB F X E fr n0 G st ms G' := fun hX => by
  obtain ⟨t, p, k⟩ := h hX
  have z := w1_of hw h2
  exact ⟨t, p, fun w ow ρ σ H Dn hn g h => k w ow ρ σ H Dn hn (g.weak z.1 z.2.1 (fun i hi => z.2.2 i (by omega))) h⟩
theorem ev_gstr {x z : Str} {pos : Pos} (hg : Gl X x) (hm : ∃ t, F.mg x = some (.str z t)) (hdb : (x == ("__debug__" : Str)) = false := by decide) : EvE F X E G (.Name x pos) (mC (.str z)) :=
  let ⟨t, e⟩ := hm
  ev_glob hg e (v := .str z) ⟨t, rfl⟩ (fun _ _ => Rp.mkstr) hdb
theorem ev_gint {x : Str} {z : Int} {pos : Pos} (hg : Gl X x) (hm : ∃ t, F.mg x = some (.int z t)) (hdb : (x == ("__debug__" : Str)) = false := by decide) : EvE F X E G (.Name x pos) (mC (.int z)) :=
  let ⟨t, e⟩ := hm
  ev_glob hg e (v := .int z) ⟨t, rfl⟩ (fun _ _ => Rp.mkint) hdb
end
end Hs

namespace Hs
open PySem PySem.Spec PyProof.Rows L2

section
variable {F : Fx} {X : Cx} {E : XK} {fr : Bool} {n0 : Nat} {w : Wd} {ow : Own} {G G' : List Knd} {ρ : List D} {σ : L2.St} {H : Hp} {base : Heap} {k : Nat} {tg : Expr}
def cN (F : Fx) (E : XK) (G : List Knd) (m : M D) : TE := fun σ H Q => ∃ w ow ρ, Gd F w ow G ρ σ H ∧ PostN F w ow E G σ H (m ρ) Q
theorem EvN.can {e : Expr} {m : M D} (h : EvN F X E G e m) (hX : Fits F X) : PE X e (cN F E G m) := by
  obtain ⟨t, p, k⟩ := h hX
  exact ⟨fun pins s σ H Q I ⟨w, ow, ρ, g, q⟩ => p.run pins s σ H Q I (k w ow ρ σ H Q g q)⟩
/-- new rows: they are new ahead of Hs, and differ -/
structure Rows (Hs : Hp) (as : List Addr) : Prop where
  nd : as.Nodup
  nw : ∀ a ∈ as, Hs a = none
def PostR (F : Fx) (w : Wd) (ow : Own) (E : XK) (G : List Knd) (σ : L2.St) (H : Hp) (r : R (List D)) (Q : VK) : Prop := match r with
  | .ok ds ρ' => ∀ H' ow' a as, Gd F (w.plus a) ow' G ρ' σ H' → Ext (Av w ow) (Av (w.plus a) ow') H H' → H a = none → H' a = some (.lst (as.map V.ref)) → RpL F H' (Av (w.plus a) ow') ds (as.map V.ref) → Rows H as → Q (.ref a) H'
  | .ex e ρ' => ∀ H' ow' C dx, Gd F w ow' G ρ' σ H' → Ext (Av w ow) (Av w ow') H H' → ExIs F H' (Av w ow') e C dx → E (.ref C) dx H'
  | .bad => False
def EvR (F : Fx) (X : Cx) (E : XK) (G : List Knd) (e : Expr) (m : M (List D)) : Prop :=
  Fits F X → ∃ t, PE X e t ∧ ∀ w ow ρ σ H Q, Gd F w ow G ρ σ H → PostR F w ow E G σ H (m ρ) Q → t σ H Q
theorem lc_loopR {vs : List Nat} {Gt : List Knd} {mg : MG} {mt : M Bool} {me : M D} {J : It} {ds xs ρf acc0 : List D} {avb : Addr → Prop} {Hb H1 Hs : Hp} {ow1 : Own} {ρ1 : List D} {Da : Addr} {as0 : List Addr} {Qd : Hp → Prop}
    (W : WalkD F avb Hb J ds) (hx : Ext avb (Av (w.held Da (.lst (as0.map V.ref))) ow1) Hb H1) (hv : ∀ i ∈ vs, i + 1 ≠ w.n0) (hG : wipeG Gt vs = wipeG G vs) (h0 : w.H0 Da = none) (hHs : ∀ b, H1 b = none → Hs b = none)
    (g1 : Gd F (w.held Da (.lst (as0.map V.ref))) ow1 (wipeG G vs) ρ1 (L2.wipe σ vs) H1) (r1 : RpL F H1 (Av (w.held Da (.lst (as0.map V.ref))) ow1) acc0 (as0.map V.ref)) (rw0 : Rows Hs as0) (ex0 : ∀ a ∈ as0, H1 a ≠ none) (ec : compL vs mg mt me ds ρ1 = .ok xs ρf) (hz : (acc0 ++ xs).length ≤ SZ)
    (hd : ∀ H' ow' as, Gd F (w.held Da (.lst (as.map V.ref))) ow' (wipeG G vs) ρf (L2.wipe σ vs) H' → Ext (Av (w.held Da (.lst (as0.map V.ref))) ow1) (Av (w.held Da (.lst (as.map V.ref))) ow') H1 H' → RpL F H' (Av (w.held Da (.lst (as.map V.ref))) ow') (acc0 ++ xs) (as.map V.ref) → Rows Hs as → (∀ j ∈ vs, ρf.getD j .non = ρ1.getD j .non) → Qd H') :
    ∃ W : Nat → Nat → Hp → Prop, (∃ m, W 0 m H1) ∧ ∀ i m H, W i m H → (J.stop i H ∧ Qd H) ∨ (J.go i H ∧ ∃ Nx : Hp → Prop, (∀ H', Nx H' → ∃ m', m' < m ∧ W (i + 1) m' H') ∧ ∀ x H', J.yld i H x H' → cG F vs (wipeG G vs) mg Gt x (L2.wipe σ vs) H' fun σ2 H2 => L2.wipe σ2 vs = L2.wipe σ vs ∧ cTs F EF Gt mt σ2 H2 fun b H3 =>
      if b = true then cN F EF Gt me σ2 H3 fun y H4 => ∃ acc, H4 Da = some (.lst acc) ∧ acc.length < sizeLine ∧ Nx (upd H4 Da (.lst (acc ++ [y]))) else Nx H3) := by
  have a3 : Gt.length = G.length := by
    have := congrArg List.length hG
    rw [wipeG_len, wipeG_len] at this
    exact this
  -- what stands at a turn's start
  let Pv : Nat → Hp → Prop := fun i H' => ∃ ow' ρ' acc as rest, Gd F (w.held Da (.lst (as.map V.ref))) ow' (wipeG G vs) ρ' (L2.wipe σ vs) H' ∧ Ext (Av (w.held Da (.lst (as0.map V.ref))) ow1) (Av (w.held Da (.lst (as.map V.ref))) ow') H1 H' ∧ RpL F H' (Av (w.held Da (.lst (as.map V.ref))) ow') acc (as.map V.ref) ∧ Rows Hs as ∧ (∀ a ∈ as, H' a ≠ none) ∧
          compL vs mg mt me (ds.drop i) ρ' = .ok rest ρf ∧ acc ++ rest = acc0 ++ xs ∧ ∀ j ∈ vs, ρ'.getD j .non = ρ1.getD j .non
  refine ⟨fun i m H' => m = ds.length - i ∧ i ≤ ds.length ∧ Pv i H', ⟨ds.length, by simp, Nat.zero_le _, ow1, ρ1, acc0, as0, xs, g1, Ext.refl, r1, rw0, ex0, ec, rfl, fun _ _ => rfl⟩, ?_⟩
  rintro i m H' ⟨rfl, hile, ow', ρ', acc, as, rest, g', x', ra, rws, exs, e', ea, es⟩
  by_cases hi : i < ds.length
  · refine .inr ⟨W.goes i H' _ (hx.trans x') hi, Pv (i + 1), fun H2 q => ⟨ds.length - (i + 1), by omega, rfl, hi, q⟩, fun x H'' y => ?_⟩
    obtain ⟨gr, d, ed, rd⟩ := W.yields i H' _ x H'' (hx.trans x') g'.trk hi y
    rw [List.drop_eq_getElem_cons hi, show ds[i] = d from by rw [List.getElem?_eq_getElem hi] at ed; exact Option.some.inj ed, compL] at e'
    cases e1 : mg d ρ' with
    | none => rw [e1] at e'; cases e'
    | some ρ2 =>
      rw [e1] at e'
      dsimp only at e'
      refine ⟨w.held Da (.lst (as.map V.ref)), ow', ρ', d, ρ2, g'.grow gr, rd, e1, fun σ2 ow2 g2 k2 x2 s2 => ?_⟩
      have hσ : L2.wipe σ2 vs = L2.wipe σ vs := wipe_eq (by
        have a1 := g2.len
        have a2 := g'.len
        rw [wipe_length, wipeG_len] at a2
        omega) s2
      have xx : Ext (Av (w.held Da (.lst (as0.map V.ref))) ow1) (Av (w.held Da (.lst (as.map V.ref))) ow2) H1 H'' := (x'.trans gr.ext).trans x2
      have ra2 : RpL F H'' (Av (w.held Da (.lst (as.map V.ref))) ow2) acc (as.map V.ref) := RpL.ext (gr.ext.trans x2) _ _ ra
      have ex2 : ∀ a ∈ as, H'' a ≠ none := fun a ha z => exs a ha (by
        cases q : H' a with
        | none => rfl
        | some u => rw [gr a u q] at z; cases z)
      refine ⟨hσ, w.held Da (.lst (as.map V.ref)), ow2, ρ2, g2, ?_⟩
      cases e2 : mt ρ2 with
      | ex _ _ => rw [e2] at e'; cases e'
      | bad => rw [e2] at e'; cases e'
      | ok b ρ3 =>
        rw [e2] at e'
        intro H3 ow3 g3 x3
        have fin : ∀ {H4 : Hp} {ow4 : Own} {ρ4 : List D} {as' : List Addr} {acc' rest' : List D}, Gd F (w.held Da (.lst (as'.map V.ref))) ow4 Gt ρ4 σ2 H4 → Ext (Av (w.held Da (.lst (as0.map V.ref))) ow1) (Av (w.held Da (.lst (as'.map V.ref))) ow4) H1 H4 → RpL F H4 (Av (w.held Da (.lst (as'.map V.ref))) ow4) acc' (as'.map V.ref) → Rows Hs as' → (∀ a ∈ as', H4 a ≠ none) →
            compL vs mg mt me (ds.drop (i + 1)) (restore ρ' ρ4 vs) = .ok rest' ρf → acc' ++ rest' = acc0 ++ xs → Pv (i + 1) H4 := fun {H4 ow4 ρ4 as' acc' rest'} g4 x4 r4 rw4 ex4 e4 a4 => by
          have l4 : ρ4.length = ρ'.length := by
            have a1 := g4.len.1
            have a2 := g'.len.1
            rw [wipeG_len] at a2
            omega
          have g5 := g4.wipe vs (fun i hi => by have := hv i hi; show i + 1 ≠ w.n0; omega)
          rw [hG, hσ] at g5
          exact ⟨ow4, restore ρ' ρ4 vs, acc', as', rest', g5.reset vs (restore_len vs) (fun i hi => restore_out hi), x4, r4, rw4, ex4, e4, a4, fun j hj => (restore_same l4 j hj).trans (es j hj)⟩
        have ex3 : ∀ a ∈ as, H3 a ≠ none := fun a ha z => ex2 a ha (x3.there a z)
        cases b with
        | false =>
          simp only [Bool.false_eq_true, if_false]
          exact fin g3 (xx.trans x3) (RpL.ext x3 _ _ ra2) rws ex3 e' ea
        | true =>
          simp only [if_true]
          dsimp only at e'
          refine ⟨w.held Da (.lst (as.map V.ref)), ow3, ρ3, g3, ?_⟩
          cases e3 : me ρ3 with
          | ex _ _ => rw [e3] at e'; cases e'
          | bad => rw [e3] at e'; cases e'
          | ok z ρ4 =>
            rw [e3] at e'
            dsimp only at e'
            intro H4 ow4 a g4 x4 ha o
            cases e5 : compL vs mg mt me (ds.drop (i + 1)) (restore ρ' ρ4 vs) with
            | ex _ _ => rw [e5] at e'; cases e'
            | bad => rw [e5] at e'; cases e'
            | ok rest' ρ5 =>
              rw [e5] at e'
              cases e'
              have nav : ¬ Av (w.held Da (.lst (as.map V.ref))) ow4 a := g4.notOwn fun z => g3.trk a (.inl z) ha
              have rv : Rp F H4 (Av (w.held Da (.lst (as.map V.ref))) ow4) z (.ref a) := (o.le fun b h => av_plus.mpr (.inl h)).rp nav
              have x4' : Ext (Av (w.held Da (.lst (as.map V.ref))) ow3) (Av (w.held Da (.lst (as.map V.ref))) ow4) H3 H4 := ext_minus x4
              have g4' := g4.minus
              have r4 : RpL F H4 (Av (w.held Da (.lst (as.map V.ref))) ow4) acc (as.map V.ref) := RpL.ext (x3.trans x4') _ _ ra2
              have lz : (as.map V.ref).length < sizeLine := by
                rw [← r4.length, ← SZ_eq]
                rw [← ea] at hz
                simp only [List.length_append, List.length_cons] at hz
                omega
              have em : (as ++ [a]).map V.ref = as.map V.ref ++ [V.ref a] := by simp
              have pt := g4'.put (o' := .lst ((as ++ [a]).map V.ref)) h0 noTbl_lst noTbl_lst (fun _ _ z => nomatch z)
              have na : a ∉ as := fun hm => ex3 a hm ha
              have xall := ((xx.trans x3).trans x4').trans pt.2
              refine ⟨as.map V.ref, g4'.at_held noTbl_lst, lz, ?_⟩
              rw [← em]
              refine fin (acc' := acc ++ [z]) pt.1 xall ?_ ⟨?_, ?_⟩ ?_ e5 (by rw [← ea, List.append_assoc]; rfl)
              · rw [em]
                have q := RpL.ext pt.2 _ _ (RpL.append r4 (RpL.cons rv RpL.nil))
                rw [em] at q
                exact q
              · exact List.nodup_append.mpr ⟨rws.nd, by simp, fun b hb c hc e => na (by
                  obtain rfl : c = a := by simpa using hc
                  rw [← e]; exact hb)⟩
              · intro b hb
                rcases List.mem_append.mp hb with hb | hb
                · exact rws.nw b hb
                · obtain rfl : b = a := by simpa using hb
                  exact hHs b (xx.there b (x3.there b ha))
              · intro b hb z
                have z' := pt.2.there b z
                rcases List.mem_append.mp hb with hb | hb
                · exact ex3 b hb (x4'.there b z')
                · obtain rfl : b = a := by simpa using hb
                  exact g4.trk b (av_plus.mpr (.inr rfl)) z'
  · have hie : i = ds.length := by omega
    subst hie
    rw [List.drop_length, compL] at e'
    cases e'
    rw [List.append_nil] at ea
    subst ea
    exact .inl ⟨W.stops H' _ (hx.trans x'), hd H' ow' as g' x' ra rws es⟩
def mLcR (vs : List Nat) (mi : M (List D)) (mg : MG) (mt : M Bool) (me : M D) : M (List D) := mi.bind fun ds => (M.bind (compL vs mg mt me ds) fun xs => M.opt (if xs.length ≤ SZ then some xs else none))
theorem er_lc {elt iter : Expr} {ifs : List Expr} {scope : Scope} {own : List (Str × Nat)} {pos : Pos} {Gt : List Knd} {mi : M (List D)} {mg : MG} {mt : M Bool} {me : M D} (hc : X.calm = true) (hN : X.N.Nodup) (hi : EvI F X E G tg iter mi) (ok : BlkOk X.N X.env.scope scope own)
    (hg : ∀ s H C cl fp, EvG F (Blk X scope s H C cl fp) (own.map (·.2)) (wipeG G (own.map (·.2))) tg mg Gt) (ht : ∀ s H C cl fp, EvTs F (Blk X scope s H C cl fp) EF Gt ifs mt) (he : ∀ s H C cl fp, EvN F (Blk X scope s H C cl fp) EF Gt elt me)
    (ho : ∀ i ∈ own.map (·.2), G[i]? ≠ some .ow) (hG : wipeG Gt (own.map (·.2)) = wipeG G (own.map (·.2)) := by rfl) (hs : ∀ x, foldedSetIterable iter X.env x = pure x := by intro _; rfl) : EvR F X E G (.ListComp elt [⟨tg, iter, ifs, 0⟩] scope pos) (mLcR (own.map (·.2)) mi mg mt me) := fun hX => by
  obtain ⟨t, p, ki⟩ := hi hX
  refine ⟨_, pe_lc hc hN p ok (fun s H C cl fp => (hg s H C cl fp).can (fits_blk hX)) (fun s H C cl fp => (ht s H C cl fp).can (fits_blk hX)) (fun s H C cl fp => (he s H C cl fp).can (fits_blk hX)) hs, fun w ow ρ σ H Q g h => ?_⟩
  generalize own.map (·.2) = vs at *
  have hv : ∀ i ∈ vs, i + 1 ≠ w.n0 := fun i hi => fun z => ho i hi (g.io i z)
  have h' : PostR F w ow E G σ H ((mi ρ).bind fun ds => (M.bind (compL vs mg mt me ds) fun xs => M.opt (if xs.length ≤ SZ then some xs else none))) Q := h
  have ki' := fun R q => ki w ow ρ σ H R g q
  cases em : mi ρ with
  | bad => rw [em] at h'; exact h'.elim
  | ex e ρ1 => rw [em] at h' ki'; exact ki' _ h'
  | ok ds ρ1 =>
    rw [em] at h' ki'
    refine ki' _ fun H1 ow1 g1 x1 J W Da hD => ?_
    have h2 : PostR F w ow E G σ H ((compL vs mg mt me ds ρ1).bind fun xs => M.opt (if xs.length ≤ SZ then some xs else none)) Q := h'
    cases ec : compL vs mg mt me ds ρ1 with
    | bad => rw [ec] at h2; exact h2.elim
    | ex e ρf => exact (compL_nox _ _ _ _ ec).elim
    | ok xs ρf =>
      rw [ec] at h2
      have h3 : PostR F w ow E G σ H (M.opt (if xs.length ≤ SZ then some xs else none) ρf) Q := h2
      by_cases hz : xs.length ≤ SZ
      · rw [if_pos hz] at h3
        have hn' : w.H0 Da = none := g1.dom Da hD
        have gD : Gd F (w.held Da (.lst [])) ow1 G ρ1 σ (upd H1 Da (.lst [])) := (g1.plus (Grow.upd hD) hD (by rw [upd_same]; simp)).held upd_same
        have xD : Ext (Av w ow1) (Av (w.held Da (.lst [])) ow1) H1 (upd H1 Da (.lst [])) := ⟨(Grow.upd hD).ext.keep, fun b z => (av_plus.mp z).elim .inl fun e => .inr (by rw [e]; exact hD), (Grow.upd hD).ext.there (av := Av w ow1)⟩
        refine lc_loopR (acc0 := []) (as0 := []) (Hs := H) W xD hv hG hn' (fun b z => x1.there b (xD.there b z)) (gD.wipe vs hv) RpL.nil ⟨by simp, by simp⟩ (by simp) ec (by simpa using hz) fun H' ow' as g' x' ra rws es => ?_
        have g2 : Gd F (w.held Da (.lst (as.map V.ref))) ow' G ρf σ H' := Gd.unwipe vs hv ho g1 (xD.trans x') g' es
        exact h3 H' ow' Da as (g2.unheld hn') (x1.trans (xD.trans ⟨x'.keep, x'.av, x'.there⟩)) (x1.there _ hD) (g'.at_held noTbl_lst) ra rws
      · rw [if_neg hz] at h3; exact h3.elim
/-- what a def keeps that gives new rows -/
inductive RW where
  | ok (ds : List D)
  | ex (e : Ex)
  | bad
def spR (F : Fx) (fn : List D → RW) : Sp := fun vs H Q E => ∃ av ds, (∀ b, av b → H b ≠ none) ∧ RpL F H av ds vs ∧ LamX.Tabs F.T H ∧
  match fn ds with
  | .ok rs => ∀ a as H', Far H H' → LamX.Tabs F.T H' → H a = none → H' a = some (.lst (as.map V.ref)) → RpL F H' av rs (as.map V.ref) → Rows H as → Q (.ref a) H'
  | .ex e => ∀ C dx H', Far H H' → LamX.Tabs F.T H' → ExIs F H' av e C dx → E (.ref C) dx H'
  | .bad => False
def rowOf (n m : Nat) (r : M (List D)) : List D → RW := fun ds => if ds.length = n then (match r (ds ++ List.replicate m .non) with
  | .ok rs _ => .ok rs
  | .ex e _ => .ex e
  | .bad => .bad) else .bad
structure FnRd (F : Fx) (base : Heap) (k : Nat) (x : Str) (fn : List D → RW) : Prop where
  ex : ∃ (f : Addr) (fd : FuncData) (ps : List Str), FnOk F.P F.w F.K F.mg base (L2.CX F.P F.w) k f fd ps (spR F fn) ∧ F.mg x = some (.ref f) ∧ PySem.W.keepIn F.K (.ref f) = true ∧ Binds F.K fd ps []
theorem Fun.fnR {x qual : Str} {st : Stmt} {f : Addr} {fd : FuncData} {N ps : List Str} {k n m : Nat} {e : Expr} {pos : Pos} {r : M (List D)} (FF : Fun F.K x qual st f fd) (S : FnScope N ps (defScope st)) (hp : ps.length = n) (hN : N.length = n + m) (hbody : defBody st = [.Return (some e) pos])
    (hb : ∀ cdv A outer s H E, CtxS F base (cxOf (L2.CX F.P F.w) F.P F.w F.K F.mg base N qual (defScope st) f cdv A outer s H E) E k → EvR F (cxOf (L2.CX F.P F.w) F.P F.w F.K F.mg base N qual (defScope st) f cdv A outer s H E) E (G0 n m) e r) :
    FnOk F.P F.w F.K F.mg base (L2.CX F.P F.w) (k + 1) f fd ps (spR F (rowOf n m r)) := by
  refine FF.okX S (fun vs H Q E h => ?_) fun cdv A outer s H vs Q E hr h => ?_
  · obtain ⟨av, ds, tr, r, t, h⟩ := h
    rw [hp, ← r.length]
    unfold rowOf at h
    by_cases hl : ds.length = n
    · exact hl
    · rw [if_neg hl] at h; exact h.elim
  · obtain ⟨av, ds, tr, rr, t, h⟩ := h
    unfold rowOf at h
    by_cases hl : ds.length = n
    · rw [if_pos hl] at h
      have tk : Takes (cxOf (L2.CX F.P F.w) F.P F.w F.K F.mg base N qual (defScope st) f cdv A outer s H E) (fun cls d _ H => E cls d H) := takes_of rfl rfl rfl rfl
      have C : CtxS F base (cxOf (L2.CX F.P F.w) F.P F.w F.K F.mg base N qual (defScope st) f cdv A outer s H E) E k := ⟨⟨⟨rfl, rfl, rfl, rfl⟩, rfl, S.nd, hr, rfl, passes_call tk fun _ _ _ _ h => h⟩, passes_of rfl, tk⟩
      obtain ⟨t1, p, kk⟩ := hb cdv A outer s H E C C.fits
      have sm : ∀ {w' : Wd} {ow' : Own} {Gx : List Knd} {ρ' : List D} {σ' : L2.St} {H' : Hp} {a : Addr}, Gd F (Wd.plus { oc := av, io := fun _ => False, H0 := H, n0 := 0 } a) ow' Gx ρ' σ' H' → Far H H' := fun g => ⟨fun b o q z => g.same b o q id z, g.dom⟩
      rw [hbody]
      refine ⟨_, pss_one (ps_ret p), kk { oc := av, io := fun _ => False, H0 := H, n0 := 0 } (fun _ => none) (ds ++ List.replicate m .non) _ H _ (gd_start hN hl tr rr t) ?_⟩
      cases em : r (ds ++ List.replicate m .non) with
      | bad => rw [em] at h; exact h.elim
      | ok rs ρ' =>
        rw [em] at h
        intro H' ow' a as g x ha hH rp rws
        exact h a as H' ⟨fun b o q z => g.same b o q id z, g.dom⟩ g.tabs ha hH (rp.le fun b z => .inl (.inl z)) rws
      | ex e ρ' =>
        rw [em] at h
        exact fun H' ow' C dx g x rr => h _ _ _ ⟨fun b o q z => g.same b o q id z, g.dom⟩ g.tabs (ex_le (fun b z => .inl z) rr)
    · rw [if_neg hl] at h; exact h.elim
end
end Hs

namespace Hs
open PySem PySem.Spec PyProof.Rows L2

section
variable {F : Fx} {X : Cx} {E : XK} {n0 : Nat} {w : Wd} {ow : Own} {G G' : List Knd} {ρ : List D} {σ : L2.St} {H : Hp} {base : Heap} {k : Nat}
def D.atom : D → Bool
  | .non => true
  | .bl _ => true
  | .int _ => true
  | .str _ => true
  | _ => false
def rowOk : D → Bool
  | .lst xs => xs.all D.atom
  | _ => false
theorem atom_any {H' : Hp} {av av' : Addr → Prop} : ∀ {d : D} {v : V}, d.atom = true → Rp F H av d v → Rp F H' av' d v
  | .non, _, _, r => r
  | .bl _, _, _, r => r
  | .int _, _, _, r => r
  | .str _, _, _, r => r
  | .scr _, _, h, _ => by cases h
  | .lst _, _, h, _ => by cases h
  | .tup _, _, h, _ => by cases h
  | .dct _ _, _, h, _ => by cases h
  | .exc _ _, _, h, _ => by cases h
  | .ins _, _, h, _ => by cases h
theorem atoms_any {H' : Hp} {av av' : Addr → Prop} : ∀ {ds : List D} {vs : List V}, ds.all D.atom = true → RpL F H av ds vs → RpL F H' av' ds vs
  | [], _, _, r => r
  | d :: ds, _, h, r => by
    rw [RpL] at r ⊢
    rw [List.all_cons, Bool.and_eq_true] at h
    obtain ⟨v, vs, e, r1, r2⟩ := r
    exact ⟨v, vs, e, atom_any h.1 r1, atoms_any h.2 r2⟩
theorem atom_noref {av : Addr → Prop} : ∀ {d : D} {a : Addr}, d.atom = true → Rp F H av d (.ref a) → False
  | .non, _, _, r => by rw [Rp] at r; cases r
  | .bl _, _, _, r => by rw [Rp] at r; cases r
  | .int _, _, _, r => by rw [Rp] at r; cases r
  | .str _, _, _, r => by rw [Rp] at r; cases r
  | .scr _, _, h, _ => by cases h
  | .lst _, _, h, _ => by cases h
  | .tup _, _, h, _ => by cases h
  | .dct _ _, _, h, _ => by cases h
  | .exc _ _, _, h, _ => by cases h
  | .ins _, _, h, _ => by cases h
def forO (i : Nat) (b : MS) : List D → MS
  | [], ρ => .nx ρ
  | d :: ds, ρ => match b (ρ.set i d) with
    | .nx ρ2 => forO i b ds ρ2
    | .rt d ρ2 => .rt d ρ2
    | .ex e ρ2 => .ex e ρ2
    | .bad => .bad
def sForO (i : Nat) (fn : List D → RW) (ms : M (List OV)) (b : MS) : MS := fun ρ => (ms ρ).rs fun os ρ => if noSlot os then (match fn (os.map (OV.get ρ)) with
  | .ok rs => if rs.all rowOk then forO i b rs ρ else .bad
  | .ex e => .ex e ρ
  | .bad => .bad) else .bad
def noOw (G : List Knd) : Bool := G.all fun k => decide (k ≠ .ow)
theorem noOw_of (h : noOw G = true) (i : Nat) : G[i]? ≠ some .ow := fun e => by
  have hm : Knd.ow ∈ G := List.mem_of_getElem? e
  unfold noOw at h
  rw [List.all_eq_true] at h
  have := h _ hm
  simp at this
/-- while the rows as stand: those from place j on as they were at H2 -/
def Wd.rows (w : Wd) (as : List Addr) (H2 : Hp) (j : Nat) : Wd := { oc := fun b => w.oc b ∨ b ∈ as, io := fun b => w.io b ∧ b ∉ as, H0 := fun b => if b ∈ as.drop j then H2 b else w.H0 b, n0 := w.n0 }
def Wd.turn (w : Wd) (as : List Addr) (H2 : Hp) (j i : Nat) (a : Addr) : Wd := { oc := fun b => w.oc b ∨ (b ∈ as ∧ b ≠ a), io := fun b => w.io b ∧ b ∉ as, H0 := fun b => if b ∈ as.drop (j + 1) then H2 b else w.H0 b, n0 := i + 1 }
theorem x_forO {i j : Nat} {x y : Str} {fn : List D → RW} {e : Expr} {es : List Expr} {ms : M (List OV)} {b : MS} {GL Gb : List Knd} {body : List Stmt} {p cp py pos : Pos} (C : CtxS F base X E k) (FD : FnRd F base j x fn) (hj : j ≤ k) (hg : Gl X x) (ha : EvA F X E G (e :: es) ms)
    (hi : X.N[i]? = some y) (hy : Loc X.env.scope y) (hb : ExB F X E false (i + 1) (GL.set i .ow) body b Gb) (hil : i < GL.length) (w1 : wkL G GL = true) (w2 : wkL Gb GL = true) (w3 : noOw GL = true)
    (hf : X.fn y = true ∨ X.env.scope.names.lookup y = some .local := by first | exact .inl rfl | exact .inr rfl)
    (hs : ∀ v, foldedSetIterable (.Call (.Name x p) (e :: es) [] cp) X.env v = pure v := by intro _; rfl)
    (hdb : (x == ("__debug__" : Str)) = false := by decide) (he : starEach (e :: es) X.env = (false, eval e X.env) :: starEach es X.env := by rfl) (hpl : (backTo cp (starEach es X.env)).any (·.1) = false := by rfl) :
    ExS F X E false 0 G (.For (.Name y py) (.Call (.Name x p) (e :: es) [] cp) body [] pos) (sForO i fn ms b) GL := fun hX => by
  obtain ⟨t, pa, ka⟩ := ha hX
  obtain ⟨f, fd, ps, FO, hm, hk, hbd⟩ := FD.ex
  rw [← hX.p, ← hX.w, ← hX.k, ← hX.m, ← C.base] at FO
  rw [← hX.m] at hm
  rw [← hX.k] at hk hbd
  obtain ⟨tb, pb, kb⟩ := hb hX
  have z1 := wkL_of w1
  have z2 := wkL_of w2
  refine ⟨_, ps_for C.own C.calm (pi_list (pe_call FO (C.room.mono hj) hg hm hk hbd .nil C.pass pa hdb he hpl)) (pg_name C.nd hi hy hf) pb hs, fun w ow ρ σ H Dn hw0 g h => ?_⟩
  refine ka w ow ρ σ H _ g (Post.mono (PostS.split h) fun os ow1 ρ1 H1 _ _ _ ⟨g1, x1, h1⟩ vs rv => ?_)
  show spR F fn (vs ++ []) H1 _ E
  rw [List.append_nil]
  cases hns : noSlot os with
  | false => rw [hns, if_neg Bool.false_ne_true] at h1; exact h1.elim
  | true =>
    rw [hns, if_pos rfl] at h1
    have la := lent_args (bs := adsOf os vs) g1 rv (fun _ h => h)
    rw [ads_no hns] at la
    refine ⟨Av w ow1, os.map (OV.get ρ1), g1.trk, la.le fun b z => ⟨z, by simp⟩, g1.tabs, ?_⟩
    cases ef : fn (os.map (OV.get ρ1)) with
    | bad => rw [ef] at h1; exact h1.elim
    | ex e =>
      rw [ef] at h1
      exact fun C dx H2 fa tb r => h1 H2 ow1 σ G C dx (g1.far fa tb) Kp.refl (far_ext fa) r
    | ok rs =>
      rw [ef] at h1
      intro aL as H2 fa tb hL hL2 rr rws
      have hro : rs.all rowOk = true := by
        cases q : rs.all rowOk with
        | true => rfl
        | false => have h2 : PostS F w ow1 E false GL σ H1 (if rs.all rowOk = true then forO i b rs ρ1 else .bad) Dn := h1; rw [q, if_neg Bool.false_ne_true] at h2; exact h2.elim
      have h1 : PostS F w ow1 E false GL σ H1 (forO i b rs ρ1) Dn := by
        have h2 : PostS F w ow1 E false GL σ H1 (if rs.all rowOk = true then forO i b rs ρ1 else .bad) Dn := h1
        rw [if_pos hro] at h2
        exact h2
      refine ⟨aL, rfl, ⟨as.map V.ref, .inl (.inl hL2)⟩, ?_⟩
      have rlen : rs.length = as.length := by have := rr.length; simpa using this
      -- each row
      have row : ∀ m (hm : m < as.length), ∃ xs vs, rs[m]? = some (.lst xs) ∧ xs.all D.atom = true ∧ H2 as[m] = some (.lst vs) ∧ RpL F H2 (Av w ow1) xs vs := fun m hm => by
        obtain ⟨d, e1, r1⟩ := rr.getV (i := m) (v := .ref as[m]) (by simp [hm])
        have hd : rowOk d = true := List.all_eq_true.mp hro d (List.mem_of_getElem? e1)
        cases d with
        | lst xs =>
          rw [Rp] at r1
          obtain ⟨c, vs, ec, q, _, r⟩ := r1
          cases ec
          exact ⟨xs, vs, e1, hd, q, r⟩
        | _ => cases hd
      have newW : ∀ a ∈ as, w.H0 a = none := fun a ha => g1.dom a (rws.nw a ha)
      have nocW : ∀ a ∈ as, ¬ w.oc a := fun a ha z => g1.trk a (.inl z) (rws.nw a ha)
      have nLas : aL ∉ as := fun hm => by
        obtain ⟨m, hm, e⟩ := List.getElem_of_mem hm
        obtain ⟨xs, vs, _, hat, hrow, rrow⟩ := row m hm
        rw [e, hL2] at hrow
        have ev : as.map V.ref = vs := by cases hrow; rfl
        subst ev
        match as, hm, rrow with
        | a :: as, _, rrow =>
          cases xs with
          | nil => rw [RpL] at rrow; cases rrow
          | cons x xs =>
            rw [RpL] at rrow
            obtain ⟨v, r, e, r1, _⟩ := rrow
            cases e
            rw [List.all_cons, Bool.and_eq_true] at hat
            exact atom_noref hat.1 r1
      -- the state of the rest, from a turn's state
      have under : ∀ {j' : Nat} {a : Addr} {ow3 : Own} {Gx : List Knd} {ρ3 : List D} {σ3 : L2.St} {H3 : Hp}, Gd F (w.turn as H2 j' i a) ow3 Gx ρ3 σ3 H3 → Gd F w (fun _ => none) (List.replicate Gx.length .un) ρ3 σ3 H3 := fun {j' a ow3 Gx ρ3 σ3 H3} g3 =>
        ⟨by simpa using g3.len, fun b o e nb nt => g3.same b o (by
          show (if b ∈ as.drop (j' + 1) then H2 b else w.H0 b) = some o
          rw [if_neg fun hm => by rw [newW b (List.mem_of_mem_drop hm)] at e; cases e]
          exact e) (fun z => nb z.1) nt, fun b e => by
          have q : (if b ∈ as.drop (j' + 1) then H2 b else w.H0 b) = none := g3.dom b e
          by_cases hm : b ∈ as
          · exact newW b hm
          · rw [if_neg fun z => hm (List.mem_of_mem_drop z)] at q
            exact q, fun b z => g3.trk b (.inl (by
          rcases z with z | ⟨_, z⟩
          · exact .inl z
          · cases z)), fun b i e => (by cases e), g3.tabs, fun i hi => by omega, fun m k e => by
          rw [List.getElem?_replicate] at e
          split at e
          · cases e; trivial
          · cases e⟩
      let Inv0 : Nat → L2.St → Hp → Prop := fun m σ' H' => ∃ ρ', Gd F (w.rows as H2 m) (fun _ => none) GL ρ' σ' H' ∧ Ext (Av w ow1) (Av (w.rows as H2 m) (fun _ => none)) H1 H' ∧ H' aL = some (.lst (as.map V.ref)) ∧ PostS F w ow1 E false GL σ H1 (forO i b (rs.drop m) ρ') Dn
      have avRows : ∀ {m : Nat} {b : Addr}, Av (w.rows as H2 m) (fun _ => none) b ↔ w.oc b ∨ b ∈ as := fun {m b} => ⟨fun z => z.elim id (fun ⟨_, z⟩ => by cases z), fun z => Or.inl z⟩
      have start : Inv0 0 σ H2 := by
        have gf := g1.far fa tb
        have ex : Ext (Av w ow1) (Av (w.rows as H2 0) (fun _ => none)) H1 H2 := ⟨(far_ext (av := Av w ow1) fa).keep, fun b z => (avRows.mp z).elim (fun q => .inl (.inl q)) fun q => .inr (rws.nw b q), fa.2⟩
        refine ⟨ρ1, ⟨⟨by rw [z1.1]; exact g1.len.1, by rw [z1.1]; exact g1.len.2⟩, fun b o e nb nt => ?_, fun b e => ?_, fun b z => ?_, fun b i e => (by cases e), tb, fun i hi => (by have : i + 1 = w.n0 := hi; omega), fun m kd e => ?_⟩, ex, hL2, h1⟩
        · have e' : (if b ∈ as.drop 0 then H2 b else w.H0 b) = some o := e
          by_cases hm : b ∈ as.drop 0
          · rw [if_pos hm] at e'; exact e'
          · rw [if_neg hm] at e'
            exact gf.same b o e' (fun z => nb ⟨z, fun q => hm (by simpa using q)⟩) nt
        · show (if b ∈ as.drop 0 then H2 b else w.H0 b) = none
          split
          · exact e
          · exact gf.dom b e
        · rcases avRows.mp z with z | z
          · exact gf.trk b (.inl z)
          · intro q
            obtain ⟨m, hm, rfl⟩ := List.getElem_of_mem z
            obtain ⟨xs, vs, _, _, q', _⟩ := row m hm
            rw [q] at q'; cases q'
        · rcases z1.2 m kd e with z | z
          · subst z; trivial
          · have s := g1.slot m kd z
            cases kd with
            | un => trivial
            | va =>
              obtain ⟨v, e1, r⟩ := s
              exact ⟨v, e1, Rp.ext ex _ _ r⟩
            | ow => exact (noOw_of w3 m e).elim
      refine for_it (n := rs.length) (Walk.mono (walk_list (K := X.K) (a := aL) (xs := as.map V.ref)) (G' := fun H' => H' aL = some (.lst (as.map V.ref))) (fun H' q => .inl (.inl q)) (fun i H x H' hi q y => y) |> fun W => (by rw [List.length_map, ← rlen] at W; exact W)) Inv0 start (fun m σ' H' _ ⟨ρ', _, _, q, _⟩ => q) ?_ ?_
      · rintro m v σ' H' H'' hm ⟨ρ', g', x', hL', h'⟩ ⟨eH, ev⟩
        subst eH
        have hma : m < as.length := by omega
        obtain rfl : v = .ref as[m] := by simpa [hma] using ev.symm
        obtain ⟨xs, vs, ed, hat, hrow, rrow⟩ := row m hma
        have hin : as[m] ∈ as.drop m := by rw [List.drop_eq_getElem_cons hma]; exact List.mem_cons_self
        have hmem : as[m] ∈ as := List.getElem_mem hma
        have hnot : as[m] ∉ as.drop (m + 1) := by
          have nd := rws.nd
          rw [← List.take_append_drop m as, List.drop_eq_getElem_cons hma] at nd
          exact (List.nodup_cons.mp (List.nodup_append.mp nd).2.1).1
        have hrow' : H'' as[m] = some (.lst vs) := g'.same _ _ (by
          show (if as[m] ∈ as.drop m then H2 as[m] else w.H0 as[m]) = _
          rw [if_pos hin]; exact hrow) (fun z => z.2 hmem) noTbl_lst
        have hds : rs.drop m = .lst xs :: rs.drop (m + 1) := by
          rw [List.drop_eq_getElem_cons hm]
          congr 1
          rw [List.getElem?_eq_getElem hm] at ed
          exact Option.some.inj ed
        rw [hds, forO] at h'
        -- the turn's state
        have avT : ∀ {b : Addr}, Av ((w.turn as H2 m i as[m]).plus as[m]) (fun _ => none) b ↔ Av (w.rows as H2 m) (fun _ => none) b := fun {b} => by
          rw [avRows, av_plus]
          constructor
          · rintro ((z | z) | z)
            · rcases z with z | z
              · exact .inl z
              · exact .inr z.1
            · obtain ⟨_, z⟩ := z; cases z
            · rw [z]; exact .inr hmem
          · rintro (z | z)
            · exact .inl (.inl (.inl z))
            · by_cases hb : b = as[m]
              · exact .inr hb
              · exact .inl (.inl (.inr ⟨z, hb⟩))
        have gT : Gd F ((w.turn as H2 m i as[m]).plus as[m]) (fun _ => none) GL ρ' σ' H'' ∨ True := .inr trivial
        have hset : Gd F (w.turn as H2 m i as[m]) (fun b => if b = as[m] then some i else none) (GL.set i .ow) (ρ'.set i (.lst xs)) (σ'.set i (some (.ref as[m]))) H'' := by
          have le : ∀ b, Av (w.turn as H2 m i as[m]) (fun b => if b = as[m] then some i else none) b → Av (w.rows as H2 m) (fun _ => none) b := fun b z => avRows.mpr (by
            rcases z with z | ⟨l, z⟩
            · exact z.elim .inl fun q => .inr q.1
            · dsimp only at z
              split at z
              · rename_i q; rw [q]; exact .inr hmem
              · cases z)
          refine ⟨by simp [g'.len.1, g'.len.2]; exact g'.len.1 ▸ g'.len.2, fun b o e nb nt => g'.same b o ?_ nb nt, fun b e => ?_, fun b z => g'.trk b (le b z), fun b l e => ?_, g'.tabs, fun l hl => ?_, fun l kd e => ?_⟩
          · have e' : (if b ∈ as.drop (m + 1) then H2 b else w.H0 b) = some o := e
            show (if b ∈ as.drop m then H2 b else w.H0 b) = some o
            by_cases hb : b ∈ as.drop (m + 1)
            · rw [if_pos hb] at e'
              rw [if_pos (by rw [List.drop_eq_getElem_cons hma]; exact List.mem_cons_of_mem _ hb)]
              exact e'
            · rw [if_neg hb] at e'
              rw [if_neg fun z => by rw [newW b (List.mem_of_mem_drop z)] at e'; cases e']
              exact e'
          · have q : (if b ∈ as.drop m then H2 b else w.H0 b) = none := g'.dom b e
            show (if b ∈ as.drop (m + 1) then H2 b else w.H0 b) = none
            by_cases hb : b ∈ as.drop (m + 1)
            · rw [if_pos hb]
              rw [if_pos (by rw [List.drop_eq_getElem_cons hma]; exact List.mem_cons_of_mem _ hb)] at q
              exact q
            · rw [if_neg hb]
              by_cases hb2 : b ∈ as
              · exact newW b hb2
              · rw [if_neg fun z => hb2 (List.mem_of_mem_drop z)] at q
                exact q
          · split at e
            · rename_i q
              cases e
              subst q
              exact ⟨fun z => z.elim (nocW _ hmem) fun q => q.2 rfl, .inr (by
                show (if as[m] ∈ as.drop (m + 1) then H2 as[m] else w.H0 as[m]) = none
                rw [if_neg hnot]
                exact newW _ hmem)⟩
            · cases e
          · have hl' : l + 1 = i + 1 := hl
            obtain rfl : l = i := by omega
            rw [List.getElem?_set_self hil]
          · by_cases hli : i = l
            · subst hli
              rw [List.getElem?_set_self hil] at e
              cases e
              rw [getD_set_eq (by rw [← g'.len.1]; exact hil), List.getElem?_set_self (by rw [← g'.len.2]; exact hil)]
              exact ⟨as[m], rfl, by show (if as[m] = as[m] then some i else none) = some i; rw [if_pos rfl], vs, hrow', atoms_any hat rrow⟩
            · rw [List.getElem?_set_ne hli] at e
              rw [getD_set_ne hli, List.getElem?_set_ne hli]
              have s := g'.slot l kd e
              cases kd with
              | un => trivial
              | va =>
                obtain ⟨v, e1, r⟩ := s
                exact ⟨v, e1, r.le le⟩
              | ow => exact (noOw_of w3 l e).elim
        have xT : Ext (Av w ow1) (Av (w.turn as H2 m i as[m]) (fun b => if b = as[m] then some i else none)) H1 H'' := ⟨x'.keep, fun b z => x'.av b (avRows.mpr (by
            rcases z with z | ⟨l, z⟩
            · exact z.elim .inl fun q => .inr q.1
            · dsimp only at z
              split at z
              · rename_i q; rw [q]; exact .inr hmem
              · cases z)), x'.there⟩
        have nL : ¬ Av (w.turn as H2 m i as[m]) (fun b => if b = as[m] then some i else none) aL ∨ True := .inr trivial
        refine kb (w.turn as H2 m i as[m]) _ _ _ H'' _ rfl hset ?_
        have leW : ∀ {ow3 : Own} {b : Addr}, Av w (fun _ => none) b → Av (w.turn as H2 m i as[m]) ow3 b := fun {ow3 b} z => by
          rcases z with z | ⟨_, z⟩
          · exact .inl (.inl z)
          · cases z
        cases eb : b (ρ'.set i (.lst xs)) with
        | bad => rw [eb] at h'; exact h'.elim
        | rt d ρ3 =>
          rw [eb] at h'
          intro v3 H3 ow3 σ3 Gx g3 k3 x3 r3
          have xx := xT.trans x3
          exact h' v3 H3 _ σ3 _ (under g3) (fun l hl => by omega) ⟨xx.keep, fun b z => xx.av b (leW z), xx.there⟩ (Rp.le r3 fun b z => leW z)
        | ex e ρ3 =>
          rw [eb] at h'
          intro H3 ow3 σ3 Gx Cc dx g3 k3 x3 r3
          have xx := xT.trans x3
          exact h' H3 _ σ3 _ Cc dx (under g3) (fun l hl => by omega) ⟨xx.keep, fun b z => xx.av b (leW z), xx.there⟩ (ex_le (fun b z => leW z) r3)
        | nx ρ3 =>
          rw [eb] at h'
          intro σ3 H3 ow3 g3 k3 x3
          have xx := xT.trans x3
          -- the row's slot is as it was
          obtain ⟨c, e1, o1, _⟩ := g3.slot i _ (g3.io i rfl)
          rw [k3 i rfl, List.getElem?_set_self (by rw [← g'.len.2]; exact hil)] at e1
          have ec : c = as[m] := by cases e1; rfl
          subst ec
          have leR : ∀ b, Av (w.rows as H2 (m + 1)) (fun _ => none) b → Av (w.turn as H2 m i as[m]) ow3 b := fun b z => by
            rcases avRows.mp z with z | z
            · exact .inl (.inl z)
            · by_cases hb : b = as[m]
              · rw [hb]; exact .inr ⟨i, o1⟩
              · exact .inl (.inr ⟨z, hb⟩)
          refine ⟨ρ3, ⟨⟨by rw [z2.1]; exact g3.len.1, by rw [z2.1]; exact g3.len.2⟩, g3.same, g3.dom, fun b z => g3.trk b (leR b z), fun b l e => (by cases e), g3.tabs, fun l hl => (by have : l + 1 = w.n0 := hl; omega), fun l kd e => ?_⟩, ⟨xx.keep, fun b z => xx.av b (leR b z), xx.there⟩, ?_, ?_⟩
          · rcases z2.2 l kd e with z | z
            · subst z; trivial
            · have s := g3.slot l kd z
              cases kd with
              | un => trivial
              | va =>
                obtain ⟨v, e1, r⟩ := s
                exact ⟨v, e1, r.le leR⟩
              | ow => exact (noOw_of w3 l e).elim
          · refine x3.keep aL _ hL' (fun z => ?_) noTbl_lst
            have q : Av (w.rows as H2 m) (fun _ => none) aL := avRows.mpr (by
              rcases z with z | ⟨l, z⟩
              · exact z.elim .inl fun q => .inr q.1
              · dsimp only at z
                split at z
                · rename_i q; rw [q]; exact .inr hmem
                · cases z)
            rcases avRows.mp q with q | q
            · exact g1.trk aL (.inl q) hL
            · exact nLas q
          · exact h'
      · rintro σ' H' ⟨ρ', g', x', hL', h'⟩
        rw [List.drop_length, forO] at h'
        have leW : ∀ b, Av w (fun _ => none) b → Av (w.rows as H2 rs.length) (fun _ => none) b := fun b z => avRows.mpr (by
          rcases z with z | ⟨_, z⟩
          · exact .inl z
          · cases z)
        have hdr : ∀ b, b ∉ as.drop rs.length := fun b z => by rw [rlen, List.drop_length] at z; cases z
        refine h' σ' H' (fun _ => none) ⟨g'.len, fun b o e nb nt => g'.same b o (by
          show (if b ∈ as.drop rs.length then H2 b else w.H0 b) = some o
          rw [if_neg (hdr b)]; exact e) (fun z => nb z.1) nt, fun b e => by
          have q : (if b ∈ as.drop rs.length then H2 b else w.H0 b) = none := g'.dom b e
          rw [if_neg (hdr b)] at q
          exact q, fun b z => g'.trk b (leW b z), fun b l e => (by cases e), g'.tabs, fun l hl => (by omega), fun l kd e => ?_⟩ (fun l hl => by omega) ⟨x'.keep, fun b z => x'.av b (leW b z), x'.there⟩
        have s := g'.slot l kd e
        cases kd with
        | un => trivial
        | va =>
          obtain ⟨v, e1, r⟩ := s
          exact ⟨v, e1, r.le leW⟩
        | ow => exact (noOw_of w3 l e).elim
end
end Hs

namespace Hs
open PySem PySem.Spec PyProof.Rows L2

theorem bb_len : bootBuiltins "len" = some (.builtin "len") := by decide +kernel
theorem bb_all : bootBuiltins "all" = some (.builtin "all") := by decide +kernel
theorem bb_any : bootBuiltins "any" = some (.builtin "any") := by decide +kernel
theorem bb_sum : bootBuiltins "sum" = some (.builtin "sum") := by decide +kernel
theorem bb_max : bootBuiltins "max" = some (.builtin "max") := by decide +kernel
theorem bb_min : bootBuiltins "min" = some (.builtin "min") := by decide +kernel
theorem bb_sorted : bootBuiltins "sorted" = some (.builtin "sorted") := by decide +kernel
theorem bb_list : bootBuiltins "list" = some (.type "list") := by decide +kernel
theorem bb_tuple : bootBuiltins "tuple" = some (.type "tuple") := by decide +kernel
theorem bb_int : bootBuiltins "int" = some (.type "int") := by decide +kernel
theorem bb_str : bootBuiltins "str" = some (.type "str") := by decide +kernel
theorem bb_bool : bootBuiltins "bool" = some (.type "bool") := by decide +kernel
theorem bb_dict : bootBuiltins "dict" = some (.type "dict") := by decide +kernel
/-- the local names of a scope, either way kept -/
theorem locL {sc : Scope} {x : Str} (h : sc.names.lookup x = some .local) : Loc sc x := .inl h
theorem locC {sc : Scope} {x : Str} (h : sc.names.lookup x = some .cell) : Loc sc x := .inr h
end Hs

namespace Hs
open PySem PySem.Spec PyProof.Rows L2

def isTupD : D → Bool
  | .tup _ => true
  | _ => false
def isLeafD : D → Bool
  | .int _ => true
  | .str _ => true
  | _ => false
def lkN {α : Type} : List NestedKey → List α → NestedKey → Option α
  | q :: qs, v :: vs, k => if q = k then some v else lkN qs vs k
  | _, _, _ => none
def putN {α : Type} : List NestedKey → List α → NestedKey → α → List α
  | q :: qs, v :: vs, k, x => (if q = k then x else v) :: putN qs vs k x
  | _, vs, _, _ => vs
def kok (ks : List D) (k : D) (q : NestedKey) : Bool := (isTupD k && ks.all isTupD && decide (q.depth ≤ 8)) || (isLeafD k && ks.all isLeafD)
def dGetO (ks ds : List D) (k : D) : Option (Option D) := match k.nk, D.nkL ks with
  | some q, some qs => if kok ks k q then some (lkN qs ds q) else none
  | _, _ => none
def dPutO (ks ds : List D) (k v : D) : Option (List D × List D) := match k.nk, D.nkL ks with
  | some q, some qs => if kok ks k q && decide (ks.length < SZ) then some (if (lkN qs ds q).isSome then (ks, putN qs ds q v) else (ks ++ [k], ds ++ [v])) else none
  | _, _ => none
def dDIn (k : D) : D → Option D
  | .dct ks ds => (dGetO ks ds k).map fun o => .bl o.isSome
  | _ => none
def dDNotIn (k : D) : D → Option D
  | .dct ks ds => (dGetO ks ds k).map fun o => .bl (!o.isSome)
  | _ => none
def dDIx : D → D → Option D
  | .dct ks ds, k => (dGetO ks ds k).bind id
  | _, _ => none
def dDGet (d k x : D) : Option D := match d with
  | .dct ks ds => (dGetO ks ds k).map fun o => o.getD x
  | _ => none

section
variable {F : Fx} {H : Hp} {av : Addr → Prop} {v : V} {ks ds : List D} {a : Addr}
/-- the dict at a -/
def DR (F : Fx) (H : Hp) (av : Addr → Prop) (ks ds : List D) (a : Addr) : Prop := ∃ od, H a = some (dO a od) ∧
  ((∃ kl, LeafD F a od kl ∧ ks = kl.map (fun p => keyD p.1) ∧ RpL F H av ds (kl.map (·.2))) ∨
    ∃ xs, NestD F a od xs ∧ D.nkL ks = some (xs.map (·.1)) ∧ RpL F H av ks (xs.map fun x => V.ref x.2.1) ∧ RpL F H av ds (xs.map (·.2.2)))
theorem PRp.dct (h : PRp F H av (.dct ks ds) v) : ∃ a, v = .ref a ∧ DR F H av ks ds a := by
  rcases h with h | ⟨a, e, od, q, r⟩
  · rw [Rp] at h
    obtain ⟨a, od, e, q, _, r⟩ := h
    exact ⟨a, e, od, q, r⟩
  · exact ⟨a, e, od, q, r⟩
theorem dict_of_empty {P : Program} {w : World} {od : Obj} {K : Type} [DecidableEq K] (knd : PySem.KeyKind P w K) (h : od.IsDictOf knd []) : ∃ ep, od.ExactDict ∧ od.data = .dict #[] ep := by
  obtain ⟨es, ep, h1, h2, _, h4, _⟩ := h
  have : es = #[] := by
    have : es.toList = [] := by
      generalize es.toList = l at h4
      cases h4
      rfl
    exact Array.toList_eq_nil_iff.mp this
  subst this
  exact ⟨ep, h1, h2⟩
theorem dict_empty_of {P : Program} {w : World} {od : Obj} {ep : Nat} {K : Type} [DecidableEq K] (knd : PySem.KeyKind P w K) (h : od.ExactDict) (h2 : od.data = .dict #[] ep) : od.IsDictOf knd [] :=
  ⟨#[], ep, h, h2, (fun e z => absurd z (Array.not_mem_empty e)), .nil, List.nodup_nil⟩
theorem LeafD.nest {od : Obj} (h : LeafD F a od []) : NestD F a od [] := by
  obtain ⟨h1, h2, vs, h3, h4⟩ := h
  obtain rfl : vs = [] := by cases h3; rfl
  obtain ⟨ep, e1, e2⟩ := dict_of_empty _ h4
  exact ⟨h1, h2, (fun x z => absurd z List.not_mem_nil), [], .nil, #[], ep, e1, e2, rfl, List.nodup_nil⟩
theorem NestD.leaf {od : Obj} (h : NestD F a od []) : LeafD F a od [] := by
  obtain ⟨h1, h2, _, ys, h3, es, ep, e1, e2, e3, _⟩ := h
  obtain rfl : ys = [] := by cases h3; rfl
  have : es = #[] := Array.toList_eq_nil_iff.mp e3
  subst this
  exact ⟨h1, h2, [], .nil, dict_empty_of _ e1 e2⟩
theorem DR.nest (h : DR F H av ks ds a) (t : ks.all isTupD = true) : ∃ od xs, H a = some (dO a od) ∧ NestD F a od xs ∧ D.nkL ks = some (xs.map (·.1)) ∧ RpL F H av ks (xs.map fun x => V.ref x.2.1) ∧ RpL F H av ds (xs.map (·.2.2)) := by
  obtain ⟨od, q, ⟨kl, l1, l2, l3⟩ | ⟨xs, r⟩⟩ := h
  · cases kl with
    | nil =>
      subst l2
      exact ⟨od, [], q, l1.nest, rfl, RpL.nil, l3⟩
    | cons p kl =>
      subst l2
      obtain ⟨k, u⟩ := p
      cases k <;> simp [keyD, isTupD] at t
  · exact ⟨od, xs, q, r⟩
theorem DR.leaf (h : DR F H av ks ds a) (t : ks.all isLeafD = true) : ∃ od kl, H a = some (dO a od) ∧ LeafD F a od kl ∧ ks = kl.map (fun p => keyD p.1) ∧ RpL F H av ds (kl.map (·.2)) := by
  obtain ⟨od, q, ⟨kl, r⟩ | ⟨xs, l1, l2, l3, l4⟩⟩ := h
  · exact ⟨od, kl, q, r⟩
  · cases xs with
    | nil =>
      have : ks = [] := List.eq_nil_of_length_eq_zero (by simpa using l3.length)
      subst this
      exact ⟨od, [], q, l1.leaf, rfl, l4⟩
    | cons x xs =>
      cases ks with
      | nil => rw [RpL] at l3; cases l3
      | cons k ks =>
        rw [List.map_cons, RpL] at l3
        obtain ⟨v, r, e, r1, _⟩ := l3
        obtain ⟨rfl, rfl⟩ := List.cons.inj e
        simp only [List.all_cons, Bool.and_eq_true] at t
        cases k <;> simp [isLeafD] at t
        · rw [Rp] at r1; cases r1
        · rw [Rp] at r1; cases r1

mutual
theorem nk_is {P : Program} {w : World} {h : Heap} (ok : HOk P w H h) : ∀ (d : D) (v : V) (k : NestedKey) (u : Value), Rp F H av d v → d.nk = some k → RelV v u → NestedIs h k u
  | .non, _, _, _, r, e, rv => by
    rw [Rp] at r; subst r; cases e
    obtain rfl : _ = Value.none := rv
    exact .none
  | .bl b, _, _, _, r, e, rv => by
    rw [Rp] at r; subst r; cases e
    obtain rfl : _ = Value.bool b := rv
    exact .bool rfl
  | .int i, _, _, _, r, e, rv => by
    rw [Rp] at r; subst r; cases e
    obtain ⟨t, rfl⟩ := rv
    exact .int i t
  | .str x, _, _, _, r, e, rv => by
    rw [Rp] at r; subst r; cases e
    obtain ⟨t, rfl⟩ := rv
    exact .text x t
  | .tup ds, _, k, _, r, e, rv => by
    rw [Rp] at r
    obtain ⟨a, vs, rfl, q, _, r⟩ := r
    obtain rfl : _ = Value.ref a := rv
    rw [D.nk] at e
    obtain ⟨ks, e1, rfl⟩ := Option.map_eq_some_iff.mp e
    obtain ⟨_, its, rvs, o, ho, hc, n, hd⟩ := (show ObjOk P w H h a (.tup vs) from ok a _ q)
    exact .tup ho hc hd (by rw [List.toList_toArray]; exact nk_isL ok ds vs ks its r e1 rvs)
  | .scr _, _, _, _, _, e, _ => by cases e
  | .lst _, _, _, _, _, e, _ => by cases e
  | .dct _ _, _, _, _, _, e, _ => by cases e
  | .exc _ _, _, _, _, _, e, _ => by cases e
  | .ins _, _, _, _, _, e, _ => by cases e
theorem nk_isL {P : Program} {w : World} {h : Heap} (ok : HOk P w H h) : ∀ (ds : List D) (vs : List V) (ks : List NestedKey) (us : List Value), RpL F H av ds vs → D.nkL ds = some ks → Vals vs us → NestedAll h ks us
  | [], vs, ks, us, r, e, rv => by
    rw [RpL] at r; subst r
    rw [D.nkL] at e; cases e
    cases rv
    exact .nil
  | d :: ds, vs, ks, us, r, e, rv => by
    rw [RpL] at r
    obtain ⟨v, r', rfl, r1, r2⟩ := r
    cases rv with
    | cons h1 h2 =>
      rw [D.nkL] at e
      cases e1 : d.nk with
      | none => rw [e1] at e; cases e
      | some k1 =>
        cases e2 : D.nkL ds with
        | none => rw [e1, e2] at e; cases e
        | some k2 =>
          rw [e1, e2] at e
          cases e
          exact .cons (nk_is ok d v k1 _ r1 e1 h1) (nk_isL ok ds r' k2 _ r2 e2 h2)
end
/-- what is read of a dict: the datum, the value -/
def RelDO (F : Fx) (H : Hp) (av : Addr → Prop) : Option D → Option Value → Prop
  | some d, some u => ∃ v, Rp F H av d v ∧ RelV v u
  | none, none => True
  | _, _ => False
theorem RelDO.isSome {o : Option D} {u : Option Value} (h : RelDO F H av o u) : o.isSome = u.isSome := by
  cases o <;> cases u <;> first | rfl | exact h.elim
abbrev NPair (xs : List (NestedKey × Addr × V)) (ys : List (NestedKey × Addr × Value)) : Prop := Paired (fun (p : NestedKey × Addr × V) (q : NestedKey × Addr × Value) => p.1 = q.1 ∧ p.2.1 = q.2.1 ∧ RelV p.2.2 q.2.2) xs ys
theorem lk_nest {xs : List (NestedKey × Addr × V)} {ys : List (NestedKey × Addr × Value)} (p : NPair xs ys) (q : NestedKey) : ∀ {ds : List D}, RpL F H av ds (xs.map (·.2.2)) → RelDO F H av (lkN (xs.map (·.1)) ds q) ((atKey ys q).map (·.2)) := by
  induction p with
  | nil => intro ds r; rw [List.map_nil] at r ⊢; cases ds with
    | nil => exact trivial
    | cons d ds => rw [RpL] at r; obtain ⟨_, _, e, _⟩ := r; cases e
  | @cons x y xs ys h t ih =>
    intro ds r
    cases ds with
    | nil => rw [RpL] at r; cases r
    | cons d ds =>
      rw [List.map_cons, RpL] at r
      obtain ⟨v, r', e, r1, r2⟩ := r
      obtain ⟨rfl, rfl⟩ := List.cons.inj e
      obtain ⟨h1, h2, h3⟩ := h
      rw [List.map_cons, lkN]
      by_cases hk : x.1 = q
      · have hk' : y.1 = q := h1.symm.trans hk
        rw [if_pos hk]
        have b : atKey (y :: ys) q = some y.2 := by simp [atKey, List.find?_cons, hk']
        rw [b]
        exact ⟨x.2.2, r1, h3⟩
      · have hk' : ¬ y.1 = q := fun z => hk (h1.trans z)
        rw [if_neg hk]
        have b : atKey (y :: ys) q = atKey ys q := by simp [atKey, List.find?_cons, hk']
        rw [b]
        exact ih r2
def nkey : Key → NestedKey
  | .inl i => .num i
  | .inr x => .text x
theorem nkey_inj {a b : Key} (h : nkey a = nkey b) : a = b := by
  cases a <;> cases b <;> first | (cases h; rfl) | cases h
theorem keyD_nk (k : Key) : (keyD k).nk = some (nkey k) := by cases k <;> rfl
theorem nkL_keys : ∀ kl : List (Key × V), D.nkL (kl.map fun p => keyD p.1) = some (kl.map fun p => nkey p.1)
  | [] => rfl
  | p :: kl => by rw [List.map_cons, D.nkL, keyD_nk, nkL_keys kl]; rfl
theorem lk_leaf (k : Key) : ∀ {kl : List (Key × V)} {vs : List (Key × Value)} {ds : List D}, KV kl vs → RpL F H av ds (kl.map (·.2)) → RelDO F H av (lkN (kl.map fun p => nkey p.1) ds (nkey k)) (valueAt vs k) := by
  intro kl vs ds kv
  induction kv generalizing ds with
  | nil => intro r; rw [List.map_nil] at r ⊢; cases ds with
    | nil => exact trivial
    | cons d ds => rw [RpL] at r; obtain ⟨_, _, e, _⟩ := r; cases e
  | @cons x y xs ys h t ih =>
    intro r
    cases ds with
    | nil => rw [RpL] at r; cases r
    | cons d ds =>
      rw [List.map_cons, RpL] at r
      obtain ⟨v, r', e, r1, r2⟩ := r
      obtain ⟨rfl, rfl⟩ := List.cons.inj e
      obtain ⟨h1, h2⟩ := h
      rw [List.map_cons, lkN]
      by_cases hk : x.1 = k
      · have hk' : y.1 = k := h1.symm.trans hk
        rw [if_pos (by rw [hk])]
        have b : valueAt (y :: ys) k = some y.2 := by simp [valueAt, List.find?_cons, hk']
        rw [b]
        exact ⟨x.2, r1, h2⟩
      · have hk' : ¬ y.1 = k := fun z => hk (h1.trans z)
        rw [if_neg fun z => hk (nkey_inj z)]
        have b : valueAt (y :: ys) k = valueAt ys k := by simp [valueAt, List.find?_cons, hk']
        rw [b]
        exact ih r2
end
/-- a look-up at a dict, as the heap has it -/
def GetAt (F : Fx) (H : Hp) (av : Addr → Prop) (P : Program) (w : World) (h : Heap) (a : Addr) (u : Value) (o : Option D) : Prop := (a == sysModules) = false ∧
  ((∃ (k : Key) (vs : List (Key × Value)), (mixKind P w).is k u = true ∧ h.DictOf (mixKind P w) a vs ∧ RelDO F H av o (valueAt vs k)) ∨
    ∃ (b : Addr) (q : NestedKey) (ys : List (NestedKey × Addr × Value)), u = .ref b ∧ (nestedKind P w).is h q b ∧ h.DictOfH (nestedKind P w) a ys ∧ RelDO F H av o ((atKey ys q).map (·.2)))
section
variable {F : Fx} {X : Cx} {pins : List (Addr × Obj)} {s : Shared} {σ : L2.St} {H : Hp} {av : Addr → Prop} {ks ds : List D} {a : Addr}
theorem npair_len {xs : List (NestedKey × Addr × V)} {ys : List (NestedKey × Addr × Value)} (p : NPair xs ys) : xs.length = ys.length := Paired.length p
/-- the nested view of the heap -/
theorem nest_at (hX : Fits F X) (I : Inv X pins σ H s) {od : Obj} {xs : List (NestedKey × Addr × V)} (q : H a = some (dO a od)) (n : NestD F a od xs) (e : D.nkL ks = some (xs.map (·.1))) (r : RpL F H av ks (xs.map fun x => V.ref x.2.1)) :
    ∃ ys, NPair xs ys ∧ s.heap.DictOfH (nestedKind X.prog X.w) a ys := by
  obtain ⟨n1, n2, n3, ys, n4, es, ep, e1, e2, e3, e4⟩ := n
  have ho : s.heap.get? a = some od := (show ObjOk X.prog X.w H s.heap a (dO a od) from I.hok a _ q).1
  have hall : ∀ {xs : List (NestedKey × Addr × V)} {ys : List (NestedKey × Addr × Value)} {ks : List D}, NPair xs ys → D.nkL ks = some (xs.map (·.1)) → RpL F H av ks (xs.map fun x => V.ref x.2.1) → (∀ x ∈ xs, x.1.depth ≤ 8) → ∀ y ∈ ys, (nestedKind X.prog X.w).is s.heap y.1 y.2.1 := by
    intro xs ys ks p
    induction p generalizing ks with
    | nil => intro _ _ _ y hy; exact nomatch hy
    | @cons x y xs ys h t ih =>
      intro e r dp z hz
      cases ks with
      | nil => rw [RpL] at r; cases r
      | cons k ks =>
        rw [List.map_cons, RpL] at r
        obtain ⟨v, r', ev, r1, r2⟩ := r
        obtain ⟨rfl, rfl⟩ := List.cons.inj ev
        rw [D.nkL] at e
        cases e5 : k.nk with
        | none => rw [e5] at e; cases e
        | some k1 =>
          cases e6 : D.nkL ks with
          | none => rw [e5, e6] at e; cases e
          | some k2 =>
            rw [e5, e6] at e
            have e' : k1 :: k2 = x.1 :: xs.map (·.1) := Option.some.inj e
            obtain ⟨rfl, rfl⟩ := List.cons.inj e'
            rcases List.mem_cons.mp hz with rfl | hz
            · refine ⟨?_, ?_⟩
              · have := nk_is I.hok k _ x.1 (.ref x.2.1) r1 e5 rfl
                rw [← h.1, ← h.2.1]
                exact this
              · rw [← h.1]
                exact dp x List.mem_cons_self
            · exact ih e6 r2 (fun x hx => dp x (List.mem_cons_of_mem _ hx)) z hz
  refine ⟨ys, n4, od, es, ep, ho, e1, e2, ?_, hall n4 e r n3, e4⟩
  rw [e3, hX.p, hX.w]
theorem leaf_at (hX : Fits F X) (I : Inv X pins σ H s) {od : Obj} {kl : List (Key × V)} (q : H a = some (dO a od)) (n : LeafD F a od kl) : ∃ vs, KV kl vs ∧ s.heap.DictOf (mixKind X.prog X.w) a vs := by
  obtain ⟨n1, n2, vs, n3, es, ep, n4⟩ := n
  have ho : s.heap.get? a = some od := (show ObjOk X.prog X.w H s.heap a (dO a od) from I.hok a _ q).1
  exact ⟨vs, n3, od, es, ep, ho, by rw [hX.p, hX.w]; exact n4⟩
theorem get_at (hX : Fits F X) (I : Inv X pins σ H s) {k : D} {y : V} {u : Value} {o : Option D} (h : DR F H av ks ds a) (pk : PRp F H av k y) (ry : RelV y u) (e : dGetO ks ds k = some o) : GetAt F H av X.prog X.w s.heap a u o := by
  unfold dGetO at e
  cases e1 : k.nk with
  | none => rw [e1] at e; cases e
  | some q =>
    cases e2 : D.nkL ks with
    | none => rw [e1, e2] at e; cases e
    | some qs =>
      rw [e1, e2] at e
      dsimp only at e
      by_cases hk : kok ks k q = true
      · rw [if_pos hk] at e
        cases e
        unfold kok at hk
        rw [Bool.or_eq_true, Bool.and_eq_true, Bool.and_eq_true, Bool.and_eq_true, decide_eq_true_eq] at hk
        rcases hk with ⟨⟨hk, ht⟩, hd⟩ | ⟨hk, ht⟩
        · obtain ⟨od, xs, h1, h2, h3, h4, h5⟩ := h.nest ht
          obtain ⟨ys, p, hh⟩ := nest_at hX I h1 h2 h3 h4
          rw [e2] at h3
          cases h3
          cases k with
          | tup kd =>
            obtain ⟨b, vs, rfl, hb, nb, rb⟩ := pk.tup
            obtain rfl : u = Value.ref b := ry
            have hn : NestedIs s.heap q (.ref b) := nk_is (F := F) (av := av) I.hok (.tup kd) (.ref b) q _ (by rw [Rp]; exact ⟨b, vs, rfl, hb, nb, rb⟩) e1 rfl
            exact ⟨h2.2.1, .inr ⟨b, q, ys, rfl, ⟨hn, hd⟩, hh, lk_nest p q h5⟩⟩
          | _ => cases hk
        · obtain ⟨od, kl, h1, h2, h3, h5⟩ := h.leaf ht
          obtain ⟨vs, p, hh⟩ := leaf_at hX I h1 h2
          subst h3
          rw [nkL_keys] at e2
          cases e2
          have : ∃ kk : Key, k = keyD kk ∧ y = kV kk := by
            cases k with
            | int i => exact ⟨.inl i, rfl, pk.int⟩
            | str i => exact ⟨.inr i, rfl, pk.str⟩
            | _ => cases hk
          obtain ⟨kk, rfl, rfl⟩ := this
          rw [keyD_nk] at e1
          cases e1
          exact ⟨h2.2.1, .inl ⟨kk, vs, kV_is ry, hh, lk_leaf kk p h5⟩⟩
      · rw [if_neg hk] at e; cases e
end
end Hs

namespace Hs
open PySem PySem.Spec PyProof.Rows L2

section
variable {F : Fx} {X : Cx} {E : XK} {fr : Bool} {n0 : Nat} {w : Wd} {ow : Own} {G G' : List Knd} {ρ : List D} {σ : L2.St} {H : Hp} {base : Heap} {k : Nat} {av : Addr → Prop} {ks ds : List D} {a : Addr}
theorem nroom {n : Nat} {A : Around} (hr : Room n A) {P : Program} {w : World} : (nestedKind P w).room A.in1 := by
  show A.units + 1 + 8 < cLine
  have := hr.un
  omega
theorem GetAt.typeIs {s : Shared} {u : Value} {o : Option D} {P : Program} {w : World} (g : GetAt F H av P w s.heap a u o) : s.TypeIs (.ref a) "dict" := by
  obtain ⟨_, ⟨_, _, _, dd, _⟩ | ⟨_, _, _, _, _, dd, _⟩⟩ := g
  · exact dd.typeIs
  · exact dd.typeIs
theorem o_din {n : Nat} (hX : Fits F X) (hr : Room n X.A) : OpR X (compareOp .In) (rD2 F dDIn) := by
  intro pins s σ H x y v u Q I rx ry h
  obtain ⟨av, dx, dy, d, tr, px, py, e, q⟩ := h
  cases dy with
  | dct ks ds =>
    obtain ⟨o, eo, rfl⟩ := Option.map_eq_some_iff.mp e
    obtain ⟨a, rfl, dr⟩ := py.dct
    obtain rfl : u = Value.ref a := ry
    have fin : ∀ s', Inv X pins σ H s' → EP X pins σ Q (.bool o.isSome) s' := fun s' I' => ⟨.bl o.isSome, H, I', rfl, q _ H Grow.refl Rp.mkbl⟩
    obtain ⟨hs, ⟨kk, vs, h1, h2, h3⟩ | ⟨b, qq, ys, rfl, h1, h2, h3⟩⟩ := get_at hX I dr px rx eo
    · refine wpAny_in_of h1 hs h2.mapOf ?_
      rw [← h3.isSome]
      exact fin _ (I.tok _)
    · refine wpAny_in_heap (nroom hr) h1 hs h2 ?_
      have z := h3.isSome
      rw [Option.isSome_map] at z
      rw [← z]
      exact fin _ (I.tok _)
  | _ => cases e
theorem o_dnotin {n : Nat} (hX : Fits F X) (hr : Room n X.A) : OpR X (compareOp .NotIn) (rD2 F dDNotIn) := by
  intro pins s σ H x y v u Q I rx ry h
  obtain ⟨av, dx, dy, d, tr, px, py, e, q⟩ := h
  cases dy with
  | dct ks ds =>
    obtain ⟨o, eo, rfl⟩ := Option.map_eq_some_iff.mp e
    obtain ⟨a, rfl, dr⟩ := py.dct
    obtain rfl : u = Value.ref a := ry
    have fin : ∀ s', Inv X pins σ H s' → EP X pins σ Q (.bool (!o.isSome)) s' := fun s' I' => ⟨.bl (!o.isSome), H, I', rfl, q _ H Grow.refl Rp.mkbl⟩
    obtain ⟨hs, ⟨kk, vs, h1, h2, h3⟩ | ⟨b, qq, ys, rfl, h1, h2, h3⟩⟩ := get_at hX I dr px rx eo
    · refine wpAny_notIn_of h1 hs h2.mapOf ?_
      rw [← h3.isSome]
      exact fin _ (I.tok _)
    · refine wpAny_notIn_heap (nroom hr) h1 hs h2 ?_
      have z := h3.isSome
      rw [Option.isSome_map] at z
      rw [← z]
      exact fin _ (I.tok _)
  | _ => cases e
theorem o_dix {n : Nat} (hX : Fits F X) (hr : Room n X.A) : IxR X (rD2 F dDIx) := by
  intro value slice pins s σ H x y v u Q I rx ry h hs
  obtain ⟨av, dx, dy, d, tr, px, py, e, q⟩ := h
  cases dx with
  | dct ks ds =>
    obtain ⟨o, eo, rfl⟩ := Option.bind_eq_some_iff.mp e
    obtain ⟨a, rfl, dr⟩ := px.dct
    obtain rfl : v = Value.ref a := rx
    have g := get_at hX I dr py ry eo
    obtain ⟨_, ⟨kk, vs, h1, h2, h3⟩ | ⟨b, qq, ys, rfl, h1, h2, h3⟩⟩ := id g
    · cases ev : valueAt vs kk with
      | none => rw [ev] at h3; exact h3.elim
      | some z =>
        rw [ev] at h3
        obtain ⟨vz, r1, r2⟩ := h3
        exact subscriptTail_builtinR (x := z) g.typeIs PySem.F.slot_dict_getitem.lookup (wpAny_getItem_of (Q := fun r s' => r = z ∧ EP X pins σ Q r s') h1 h2.mapOf ev ⟨rfl, vz, H, I.tok _, r2, q _ H Grow.refl r1⟩) hs
    · cases ev : atKey ys qq with
      | none => rw [ev] at h3; exact h3.elim
      | some z =>
        rw [ev] at h3
        obtain ⟨vz, r1, r2⟩ := h3
        exact subscriptTail_builtinR (x := z.2) g.typeIs PySem.F.slot_dict_getitem.lookup (wpAny_getItem_heap (Q := fun r s' => r = z.2 ∧ EP X pins σ Q r s') (nroom hr) h1 h2 ev ⟨rfl, vz, H, I.tok _, r2, q _ H Grow.refl r1⟩) hs
  | _ => cases e
def IsDO (H : Hp) (a : Addr) : Prop := ∃ od, H a = some (dO a od) ∧ od.cls = .type "dict" ∧ od.dict = none
theorem DR.isDO (h : DR F H av ks ds a) : IsDO H a := by
  obtain ⟨od, q, ⟨kl, ⟨_, _, vs, _, es, ep, l1, _⟩, _, _⟩ | ⟨xs, ⟨_, _, _, ys, _, es, ep, l1, _⟩, _, _, _⟩⟩ := h
  · exact ⟨od, q, l1.1, l1.2.1⟩
  · exact ⟨od, q, l1.1, l1.2.1⟩
theorem isDO_at {pins : List (Addr × Obj)} {s : Shared} (I : Inv X pins σ H s) (d : IsDO H a) : s.TypeIs (.ref a) "dict" ∧ (∀ b, Value.ref a = .ref b → ∃ ob, s.heap.get? b = some ob ∧ ob.dict = none) := by
  obtain ⟨od, q, h1, h2⟩ := d
  have ho : s.heap.get? a = some od := (show ObjOk X.prog X.w H s.heap a (dO a od) from I.hok a _ q).1
  exact ⟨⟨od, ho, h1⟩, fun b e => by cases e; exact ⟨od, ho, h2⟩⟩
theorem m_dget {n : Nat} (hX : Fits F X) (hr : Room n X.A) {pins : List (Addr × Obj)} {s : Shared} (I : Inv X pins σ H s) {kd xd : D} {y z : V} {u r : Value} {o : Option D} (tr : ∀ b, av b → H b ≠ none) (h : DR F H av ks ds a) (pk : PRp F H av kd y) (ry : RelV y u) (e : dGetO ks ds kd = some o) (rx : Rp F H av xd z) (rz : RelV z r) {Q : VK} (q : ∀ z H', Grow H H' → Rp F H' av (o.getD xd) z → Q z H') (l : List Value) (hl : l = [.ref a, u, r] ∨ (l = [.ref a, u] ∧ r = .none)) :
    wpAny (model X.prog X.w) X.A (call (.builtin "dict.get") l) (EP X pins σ Q) X.xe s := by
  have fin : ∀ (w : Option Value) (s' : Shared), Inv X pins σ H s' → RelDO F H av o w → EP X pins σ Q (w.getD r) s' := fun w s' I' rw => by
    cases o with
    | none =>
      cases w with
      | none => exact ⟨z, H, I', rz, q _ H Grow.refl rx⟩
      | some _ => exact rw.elim
    | some d =>
      cases w with
      | none => exact rw.elim
      | some w =>
        obtain ⟨v, r1, r2⟩ := rw
        exact ⟨v, H, I', r2, q _ H Grow.refl r1⟩
  have g := get_at hX I h pk ry e
  obtain ⟨hd, ⟨kk, vs, h1, h2, h3⟩ | ⟨b, qq, ys, rfl, h1, h2, h3⟩⟩ := id g
  · rcases hl with rfl | ⟨rfl, rfl⟩
    · exact call_meetsIn PySem.F.slot_dict_get g.typeIs PySem.F.entry_dict_get (PySem.F.args_dict_get_3 _ _ _) (meets_dict_get_default (mixKind X.prog X.w) a h1 hd r) ⟨_, h2.mapOf, fin _ _ (I.tok _) h3⟩
    · exact call_meetsIn PySem.F.slot_dict_get g.typeIs PySem.F.entry_dict_get (PySem.F.args_dict_get_2 _ _) (meets_dict_get (mixKind X.prog X.w) a h1 hd) ⟨_, h2.mapOf, fin _ _ (I.tok _) h3⟩
  · rcases hl with rfl | ⟨rfl, rfl⟩
    · exact call_meetsIn PySem.F.slot_dict_get g.typeIs PySem.F.entry_dict_get (PySem.F.args_dict_get_3 _ _ _) (meetsH_dict_get_default (nestedKind X.prog X.w) a b hd r) ⟨nroom hr, qq, ys, h1, h2, fin _ _ (I.tok _) h3⟩
    · exact call_meetsIn PySem.F.slot_dict_get g.typeIs PySem.F.entry_dict_get (PySem.F.args_dict_get_2 _ _) (meetsH_dict_get (nestedKind X.prog X.w) a b hd) ⟨nroom hr, qq, ys, h1, h2, fin _ _ (I.tok _) h3⟩
def tDM (td ta : TE) (r : V → V → Hp → VK → Prop) : TE := fun σ H Q => td σ H fun x H1 => ∃ a, x = .ref a ∧ IsDO H1 a ∧ ta σ H1 fun y H2 => r x y H2 Q
def tDM2 (td ta tb : TE) (r : V → V → V → Hp → VK → Prop) : TE := fun σ H Q => td σ H fun x H1 => ∃ a, x = .ref a ∧ IsDO H1 a ∧ ta σ H1 fun y H2 => tb σ H2 fun z H3 => r x y z H3 Q
def DM1R (X : Cx) (id : String) (r : V → V → Hp → VK → Prop) : Prop := ∀ (pins : List (Addr × Obj)) (s : Shared) (σ : L2.St) (H : Hp) (x y : V) (v u : Value) (Q : VK), Inv X pins σ H s → RelV x v → RelV y u → r x y H Q →
  wpAny (model X.prog X.w) X.A (call (.builtin id) [v, u]) (EP X pins σ Q) X.xe s
def DM2R (X : Cx) (id : String) (r : V → V → V → Hp → VK → Prop) : Prop := ∀ (pins : List (Addr × Obj)) (s : Shared) (σ : L2.St) (H : Hp) (x y z : V) (v u t : Value) (Q : VK), Inv X pins σ H s → RelV x v → RelV y u → RelV z t → r x y z H Q →
  wpAny (model X.prog X.w) X.A (call (.builtin id) [v, u, t]) (EP X pins σ Q) X.xe s
theorem pe_dm {o e : Expr} {name : Str} {id : String} {apos cpos : Pos} {td ta : TE} {r : V → V → Hp → VK → Prop} (slot : Slot "dict" name id) (hty : typeOf (.builtin id) = pure (.type "method_descriptor")) (hm : DM1R X id r) (ho : PE X o td) (he : PE X e ta) (m : M1 X o name apos e cpos) :
    PE X (.Call (.Attribute o name apos) [e] [] cpos) (tDM td ta r) := by
  refine ⟨fun pins s σ H Q I h => wpAny_Call_method m.base m.few m.line PySem.F.plainAttrs_dict slot hty (thn (ho.run pins s σ H _ I h) fun u s1 ⟨x, H1, I1, rx, a, ex, d, q1⟩ => ?_)⟩
  subst ex
  obtain rfl : u = Value.ref a := rx
  obtain ⟨t1, t2⟩ := isDO_at I1 d
  refine ⟨t1, t2, ?_⟩
  rw [m.trees]
  refine Calls.callWith_builtin rfl (Calls.evalArgs_plain (Calls.spliced_cons (thn (he.run pins s1 σ H1 _ I1 q1) fun iv s2 z2 => ?_)))
  obtain ⟨y, H2, I2, ry, q2⟩ := z2
  exact Calls.spliced_nil (hm pins s2 σ H2 (.ref a) y _ iv Q I2 rfl ry q2)
theorem pe_dm2 {o e f : Expr} {name : Str} {id : String} {apos cpos : Pos} {td ta tb : TE} {r : V → V → V → Hp → VK → Prop} (slot : Slot "dict" name id) (hty : typeOf (.builtin id) = pure (.type "method_descriptor")) (hm : DM2R X id r) (ho : PE X o td) (he : PE X e ta) (hf : PE X f tb) (m : M2 X o name apos e f cpos) :
    PE X (.Call (.Attribute o name apos) [e, f] [] cpos) (tDM2 td ta tb r) := by
  refine ⟨fun pins s σ H Q I h => wpAny_Call_method m.base m.few m.line PySem.F.plainAttrs_dict slot hty (thn (ho.run pins s σ H _ I h) fun u s1 ⟨x, H1, I1, rx, a, ex, d, q1⟩ => ?_)⟩
  subst ex
  obtain rfl : u = Value.ref a := rx
  obtain ⟨t1, t2⟩ := isDO_at I1 d
  refine ⟨t1, t2, ?_⟩
  rw [m.trees]
  refine Calls.callWith_builtin rfl (Calls.evalArgs_plain (Calls.spliced_cons (thn (he.run pins s1 σ H1 _ I1 q1) fun iv s2 z2 => ?_)))
  obtain ⟨y, H2, I2, ry, q2⟩ := z2
  refine Calls.spliced_cons (thn (hf.run pins s2 σ H2 _ I2 q2) fun fv s3 z3 => ?_)
  obtain ⟨z, H3, I3, rz, q3⟩ := z3
  exact Calls.spliced_nil (hm pins s3 σ H3 (.ref a) y z _ iv fv Q I3 rfl ry rz q3)
def isDct : D → Bool
  | .dct _ _ => true
  | _ => false
theorem isDct_of {d : D} (h : isDct d = true) : ∃ ks ds, d = .dct ks ds := by
  cases d with
  | dct ks ds => exact ⟨ks, ds, rfl⟩
  | _ => cases h
def mDGet (mo m : M OV) : M D := mo.bind fun x ρ => if isDct (x.get ρ) then (m ρ).bind (fun y ρ => M.opt (dDGet (x.get ρ) (y.get ρ) .non) ρ) else .bad
def mDGetX (mo m : M OV) (mx : M D) : M D := mo.bind fun x ρ => if isDct (x.get ρ) then (m ρ).bind (fun y ρ => (mx ρ).bind fun z ρ => M.opt (dDGet (x.get ρ) (y.get ρ) z) ρ) else .bad
theorem ev_dget {n : Nat} {o e : Expr} {mo m : M OV} {ap pos : Pos} (hr : Room n X.A) (ho : EvO F X E G o mo) (he : EvO F X E G e m) (hm : M1 X o "get" ap e pos := by exact ⟨rfl, rfl, rfl, rfl⟩) :
    EvE F X E G (.Call (.Attribute o "get" ap) [e] [] pos) (mDGet mo m) := fun hX => by
  obtain ⟨to, po, ko⟩ := ho hX
  obtain ⟨te, pe, ke⟩ := he hX
  refine ⟨_, pe_dm (r := fun x y H Q => ∃ av a ks ds kd o, x = .ref a ∧ (∀ b, av b → H b ≠ none) ∧ DR F H av ks ds a ∧ PRp F H av kd y ∧ dGetO ks ds kd = some o ∧ ∀ z H', Grow H H' → Rp F H' av (o.getD .non) z → Q z H') PySem.F.slot_dict_get PySem.F.type_dict_get (fun pins s σ H x y v u Q I rx ry ⟨av, a, ks, ds, kd, o, ex, tr, dr, pk, eo, q⟩ => by
    subst ex
    obtain rfl : v = Value.ref a := rx
    exact m_dget hX hr I tr dr pk ry eo (xd := .non) (z := .non) Rp.mknon rfl q _ (.inr ⟨rfl, rfl⟩)) po pe hm, fun w ow ρ σ H Q g h => ko w ow ρ σ H _ g (Post.mono (Post.split h) fun x ow1 ρ1 H1 _ _ _ ⟨g1, x1, h1⟩ v rv => ?_)⟩
  cases hc : isDct (x.get ρ1) with
  | false => rw [hc] at h1; exact h1.elim
  | true =>
    rw [hc, if_pos rfl] at h1
    have pv := rv.prp g1
    obtain ⟨ks, ds, eds⟩ := isDct_of hc
    rw [eds] at pv
    obtain ⟨a, rfl, dr⟩ := pv.dct
    refine ⟨a, rfl, dr.isDO, ke w ow1 ρ1 σ H1 _ g1 (Post.mono (Post.split h1) fun y ow2 ρ2 H2 _ _ _ ⟨g2, x2, h2⟩ u ru => ?_)⟩
    obtain ⟨d, ed, q⟩ := post_opt g2 h2
    have pv2 := (rv.ext x2).prp g2
    cases e2 : x.get ρ2 with
    | dct ks2 ds2 =>
      rw [e2] at pv2 ed
      obtain ⟨a2, ea, dr2⟩ := pv2.dct
      cases ea
      obtain ⟨o, eo, rfl⟩ := Option.map_eq_some_iff.mp ed
      exact ⟨Av w ow2, a, ks2, ds2, _, o, rfl, g2.trk, dr2, ru.prp g2, eo, q⟩
    | _ => rw [e2] at ed; cases ed
theorem ev_dgetx {n : Nat} {o e f : Expr} {mo m : M OV} {mx : M D} {ap pos : Pos} (hr : Room n X.A) (ho : EvO F X E G o mo) (he : EvO F X E G e m) (hf : EvE F X E G f mx) (hm : M2 X o "get" ap e f pos := by exact ⟨rfl, rfl, rfl, rfl⟩) :
    EvE F X E G (.Call (.Attribute o "get" ap) [e, f] [] pos) (mDGetX mo m mx) := fun hX => by
  obtain ⟨to, po, ko⟩ := ho hX
  obtain ⟨te, pe, ke⟩ := he hX
  obtain ⟨tf, pf, kf⟩ := hf hX
  refine ⟨_, pe_dm2 (r := fun x y z H Q => ∃ av a ks ds kd xd o, x = .ref a ∧ (∀ b, av b → H b ≠ none) ∧ DR F H av ks ds a ∧ PRp F H av kd y ∧ Rp F H av xd z ∧ dGetO ks ds kd = some o ∧ ∀ z H', Grow H H' → Rp F H' av (o.getD xd) z → Q z H') PySem.F.slot_dict_get PySem.F.type_dict_get (fun pins s σ H x y z v u t Q I rx ry rz ⟨av, a, ks, ds, kd, xd, o, ex, tr, dr, pk, px, eo, q⟩ => by
    subst ex
    obtain rfl : v = Value.ref a := rx
    exact m_dget hX hr I tr dr pk ry eo px rz q _ (.inl rfl)) po pe pf hm, fun w ow ρ σ H Q g h => ko w ow ρ σ H _ g (Post.mono (Post.split h) fun x ow1 ρ1 H1 _ _ _ ⟨g1, x1, h1⟩ v rv => ?_)⟩
  cases hc : isDct (x.get ρ1) with
  | false => rw [hc] at h1; exact h1.elim
  | true =>
    rw [hc, if_pos rfl] at h1
    have pv := rv.prp g1
    obtain ⟨ks, ds, eds⟩ := isDct_of hc
    rw [eds] at pv
    obtain ⟨a, rfl, dr⟩ := pv.dct
    refine ⟨a, rfl, dr.isDO, ke w ow1 ρ1 σ H1 _ g1 (Post.mono (Post.split h1) fun y ow2 ρ2 H2 _ _ _ ⟨g2, x2, h2⟩ u ru => kf w ow2 ρ2 σ H2 _ g2 (Post.mono (Post.split h2) fun xd ow3 ρ3 H3 _ _ _ ⟨g3, x3, h3⟩ t rt => ?_))⟩
    obtain ⟨d, ed, q⟩ := post_opt g3 h3
    have pv2 := ((rv.ext x2).ext x3).prp g3
    cases e2 : x.get ρ3 with
    | dct ks2 ds2 =>
      rw [e2] at pv2 ed
      obtain ⟨a2, ea, dr2⟩ := pv2.dct
      cases ea
      obtain ⟨o, eo, rfl⟩ := Option.map_eq_some_iff.mp ed
      exact ⟨Av w ow3, a, ks2, ds2, _, xd, o, rfl, g3.trk, dr2, (ru.ext x3).prp g3, rt, eo, q⟩
    | _ => rw [e2] at ed; cases ed
end
end Hs

namespace Hs
open PySem PySem.Spec PyProof.Rows L2

section
variable {F : Fx} {H : Hp} {av : Addr → Prop} {ks ds : List D} {a : Addr}
theorem lk_none {q : NestedKey} : ∀ {qs : List NestedKey} {ds : List D}, qs.length = ds.length → lkN qs ds q = none → ∀ x ∈ qs, x ≠ q
  | [], [], _, _, x, hx => nomatch hx
  | p :: qs, d :: ds, hl, e, x, hx => by
    rw [lkN] at e
    by_cases h : p = q
    · rw [if_pos h] at e; cases e
    · rw [if_neg h] at e
      rcases List.mem_cons.mp hx with rfl | hx
      · exact h
      · exact lk_none (by simpa using hl) e x hx
theorem put_rp {q : NestedKey} {x : D} {u : V} (hx : Rp F H av x u) {α : Type} (key : α → NestedKey) (val : α → V) : ∀ {xs : List α} {ds : List D}, RpL F H av ds (xs.map val) → RpL F H av (putN (xs.map key) ds q x) (xs.map fun z => if key z = q then u else val z)
  | [], [], r => by simpa [putN] using r
  | [], d :: ds, r => by rw [List.map_nil, RpL] at r; obtain ⟨_, _, e, _⟩ := r; cases e
  | z :: xs, [], r => by rw [RpL] at r; cases r
  | z :: xs, d :: ds, r => by
    rw [List.map_cons, RpL] at r
    obtain ⟨v, r', e, r1, r2⟩ := r
    obtain ⟨rfl, rfl⟩ := List.cons.inj e
    rw [List.map_cons, List.map_cons, putN, RpL]
    refine ⟨_, _, rfl, ?_, put_rp hx key val r2⟩
    by_cases h : key z = q
    · rw [if_pos h, if_pos h]; exact hx
    · rw [if_neg h, if_neg h]; exact r1
theorem npair_repl {q : NestedKey} {v : V} {u : Value} (rv : RelV v u) {xs : List (NestedKey × Addr × V)} {ys : List (NestedKey × Addr × Value)} (p : NPair xs ys) : NPair (xs.map fun x => (x.1, x.2.1, if x.1 = q then v else x.2.2)) (ys.map (putAt q u)) := by
  induction p with
  | nil => exact .nil
  | @cons x y xs ys h t ih =>
    refine .cons ?_ ih
    obtain ⟨h1, h2, h3⟩ := h
    unfold putAt
    dsimp only
    by_cases e : x.1 = q
    · rw [if_pos e, if_pos (h1.symm.trans e)]; exact ⟨h1, h2, rv⟩
    · rw [if_neg e, if_neg fun z => e (h1.trans z)]; exact ⟨h1, h2, h3⟩
theorem ext_own {od : HO} (ha : av a) : Ext av av H (upd H a od) := ⟨fun b u q nb _ => by
    have hb : b ≠ a := fun z => nb (by rw [z]; exact ha)
    rw [upd_ne hb]; exact q, fun b h => .inl h, fun b e => by
    by_cases hb : b = a
    · subst hb; rw [upd_same] at e; cases e
    · rw [upd_ne hb] at e; exact e⟩
end
section
variable {F : Fx} {X : Cx} {E : XK} {fr : Bool} {n0 : Nat} {w : Wd} {ow : Own} {G G' : List Knd} {ρ : List D} {σ : L2.St} {H : Hp} {av : Addr → Prop} {ks ds : List D} {a : Addr}
theorem inv_put {pins : List (Addr × Obj)} {s : Shared} {h' : Heap} {t' : Nat} {od od' : Obj} (I : Inv X pins σ H s) (q : H a = some (dO a od)) (hs : Heap.SameBut a s.heap h') (he : h'.get? a = some od') : Inv X pins σ (upd H a (dO a od')) { s with heap := h', toks := t' } :=
  d_write I (by rw [q]; exact True.intro) hs ⟨od', he⟩ ⟨he, ⟨od', he⟩, fun h1 h2 e1 k => k _ e1⟩
theorem out_put {od : Obj} {es : Array DictEntry} {ep : Nat} {xs : List (NestedKey × Addr × V)} (h1 : xs.length ≤ sizeLine) (h2 : (a == sysModules) = false) (h3 : ∀ x ∈ xs, x.1.depth ≤ 8) {ys : List (NestedKey × Addr × Value)} (p : NPair xs ys) (hx : od.ExactDict) (hd : od.data = .dict es ep) (he : es.toList = ys.map (entryOfKey (nestedKind F.P F.w))) (hn : (ys.map (·.1)).Nodup) : NestD F a od xs := ⟨h1, h2, h3, ys, p, es, ep, hx, hd, he, hn⟩
/-- a store in an own dict, whatever stores: the call to make, by its two ways -/
theorem put_at (hX : Fits F X) {pins : List (Addr × Obj)} {s : Shared} (I : Inv X pins σ H s) (hav : av a) {k d : D} {y v : V} {u r : Value} {p : List D × List D} (h : DR F H av ks ds a) (pk : Rp F H av k y) (ry : RelV y u) (pd : Rp F H av d v) (rv : RelV v r) (e : dPutO ks ds k d = some p) :
    (a == sysModules) = false ∧ ((∃ (kk : Key) (vs : List (Key × Value)), (mixKind X.prog X.w).is kk u = true ∧ s.heap.DictOf (mixKind X.prog X.w) a vs ∧ vs.length ≤ sizeLine ∧ (∃ o, dGetO ks ds k = some o ∧ RelDO F H av o (valueAt vs kk)) ∧
        ∀ h' t', h'.DictOf (mixKind X.prog X.w) a (stored vs kk r) → Heap.SameBut a s.heap h' → ∃ od', Inv X pins σ (upd H a (dO a od')) { s with heap := h', toks := t' } ∧ DR F (upd H a (dO a od')) av p.1 p.2 a) ∨
      ∃ (b : Addr) (q : NestedKey) (ys : List (NestedKey × Addr × Value)), u = .ref b ∧ (nestedKind X.prog X.w).is s.heap q b ∧ s.heap.DictOfH (nestedKind X.prog X.w) a ys ∧ ys.length ≤ sizeLine ∧ (∃ o, dGetO ks ds k = some o ∧ RelDO F H av o ((atKey ys q).map (·.2))) ∧
        ∀ h' t', h'.DictOfH (nestedKind X.prog X.w) a (storedH ys q b r) → Heap.SameBut a s.heap h' → ∃ od', Inv X pins σ (upd H a (dO a od')) { s with heap := h', toks := t' } ∧ DR F (upd H a (dO a od')) av p.1 p.2 a) := by
  unfold dPutO at e
  cases e1 : k.nk with
  | none => rw [e1] at e; cases e
  | some q =>
    cases e2 : D.nkL ks with
    | none => rw [e1, e2] at e; cases e
    | some qs =>
      rw [e1, e2] at e
      dsimp only at e
      have eg : ∀ (hk : kok ks k q = true), dGetO ks ds k = some (lkN qs ds q) := fun hk => by unfold dGetO; rw [e1, e2]; dsimp only; rw [if_pos hk]
      by_cases hc : (kok ks k q && decide (ks.length < SZ)) = true
      · rw [if_pos hc] at e
        rw [Bool.and_eq_true, decide_eq_true_eq] at hc
        obtain ⟨hk0, hz⟩ := hc
        have hk := hk0
        unfold kok at hk
        rw [Bool.or_eq_true, Bool.and_eq_true, Bool.and_eq_true, Bool.and_eq_true, decide_eq_true_eq] at hk
        rcases hk with ⟨⟨hk, ht⟩, hd⟩ | ⟨hk, ht⟩
        · obtain ⟨od, xs, h1, h2, h3, h4, h5⟩ := h.nest ht
          obtain ⟨ys, np, hh⟩ := nest_at hX I h1 h2 h3 h4
          rw [e2] at h3
          cases h3
          cases k with
          | tup kd =>
            obtain ⟨b, vs, rfl, hb, nb, rb⟩ := PRp.tup (.inl pk)
            obtain rfl : u = Value.ref b := ry
            have hn : NestedIs s.heap q (.ref b) := nk_is I.hok (.tup kd) (.ref b) q _ pk e1 rfl
            have hlk := lk_nest np q h5
            have lx : xs.length = ys.length := npair_len np
            have lk : ks.length = xs.length := by simpa using h4.length
            refine ⟨h2.2.1, .inr ⟨b, q, ys, rfl, ⟨hn, hd⟩, hh, by rw [← lx]; exact h2.1, ⟨_, eg hk0, hlk⟩, fun h' t' dd hs => ?_⟩⟩
            obtain ⟨o, es, ep, ho, hx, hdat, hes, his, hnd⟩ := dd
            have x := ext_own (H := H) (od := dO a o) hav
            refine ⟨o, inv_put I h1 hs ho, ?_⟩
            have hdp : ∀ x ∈ xs, x.1.depth ≤ 8 := h2.2.2.1
            have hes' : es.toList = (storedH ys q b r).map (entryOfKey (nestedKind F.P F.w)) := by rw [hes, hX.p, hX.w]
            by_cases hl : (lkN (xs.map (·.1)) ds q).isSome = true
            · rw [if_pos hl] at e
              cases e
              have hat : (atKey ys q).isSome = true := by
                have z := hlk.isSome
                rw [Option.isSome_map] at z
                rw [← z]; exact hl
              have es1 : storedH ys q b r = ys.map (putAt q r) := by unfold storedH; rw [if_pos hat]
              rw [es1] at hes' hnd
              refine ⟨o, upd_same, .inr ⟨xs.map fun x => (x.1, x.2.1, if x.1 = q then v else x.2.2), out_put (by rw [List.length_map]; exact h2.1) h2.2.1 (fun z hz => ?_) (npair_repl rv np) hx hdat hes' hnd, ?_, ?_, ?_⟩⟩
              · obtain ⟨z', hz', rfl⟩ := List.mem_map.mp hz
                exact hdp z' hz'
              · rw [List.map_map]; exact e2
              · rw [List.map_map]
                exact RpL.ext x _ _ h4
              · rw [List.map_map]
                exact RpL.ext x _ _ (put_rp pd (fun z : NestedKey × Addr × V => z.1) (fun z => z.2.2) h5)
            · rw [if_neg hl] at e
              cases e
              have hat : ¬ (atKey ys q).isSome = true := by
                have z := hlk.isSome
                rw [Option.isSome_map] at z
                rw [← z]; exact hl
              have es1 : storedH ys q b r = ys ++ [(q, b, r)] := by unfold storedH; rw [if_neg hat]
              rw [es1] at hes' hnd
              refine ⟨o, upd_same, .inr ⟨xs ++ [(q, b, v)], out_put (by rw [List.length_append, List.length_singleton, ← lk]; rw [← SZ_eq]; omega) h2.2.1 (fun z hz => ?_) (Paired.snoc np ⟨rfl, rfl, rv⟩) hx hdat hes' hnd, ?_, ?_, ?_⟩⟩
              · rcases List.mem_append.mp hz with hz | hz
                · exact hdp z hz
                · rw [List.mem_singleton] at hz; subst hz; exact hd
              · rw [List.map_append]
                have : ∀ (as : List D) (qs : List NestedKey), D.nkL as = some qs → D.nkL (as ++ [.tup kd]) = some (qs ++ [q]) := by
                  intro as
                  induction as with
                  | nil => intro qs e; cases e; show D.nkL [.tup kd] = _; rw [D.nkL, e1]; rfl
                  | cons c as ih =>
                    intro qs e
                    rw [D.nkL] at e
                    cases f1 : c.nk with
                    | none => rw [f1] at e; cases e
                    | some c1 =>
                      cases f2 : D.nkL as with
                      | none => rw [f1, f2] at e; cases e
                      | some c2 =>
                        rw [f1, f2] at e
                        cases e
                        rw [List.cons_append, D.nkL, f1, ih _ f2]
                        rfl
                exact this ks _ e2
              · rw [List.map_append]
                exact RpL.append (RpL.ext x _ _ h4) (RpL.cons (Rp.ext x _ _ pk) RpL.nil)
              · rw [List.map_append]
                exact RpL.append (RpL.ext x _ _ h5) (RpL.cons (Rp.ext x _ _ pd) RpL.nil)
          | _ => cases hk
        · obtain ⟨od, kl, h1, h2, h3, h5⟩ := h.leaf ht
          obtain ⟨vs, kv, hh⟩ := leaf_at hX I h1 h2
          subst h3
          rw [nkL_keys] at e2
          cases e2
          have : ∃ kk : Key, k = keyD kk ∧ y = kV kk := by
            cases k with
            | int i => exact ⟨.inl i, rfl, PRp.int (.inl pk)⟩
            | str i => exact ⟨.inr i, rfl, PRp.str (.inl pk)⟩
            | _ => cases hk
          obtain ⟨kk, rfl, rfl⟩ := this
          rw [keyD_nk] at e1
          cases e1
          have hlk := lk_leaf kk kv h5
          have lx : kl.length = vs.length := kv.length
          refine ⟨h2.2.1, .inl ⟨kk, vs, kV_is ry, hh, by rw [← lx]; exact h2.1, ⟨_, eg hk0, hlk⟩, fun h' t' dd hs => ?_⟩⟩
          obtain ⟨o, ho, hdo⟩ := Heap.dictOf_iff.mp dd
          have x := ext_own (H := H) (od := dO a o) hav
          refine ⟨o, inv_put I h1 hs ho, o, upd_same, .inl ⟨putK kl kk v, ⟨?_, h2.2.1, _, kv.put kk rv, by rw [← hX.p, ← hX.w]; exact hdo⟩, ?_⟩⟩
          · have := length_putK kl kk v
            rw [List.length_map] at hz
            rw [← SZ_eq]
            omega
          · have ha : (kl.any fun kv => decide (kv.1 = kk)) = (lkN (kl.map fun p => nkey p.1) ds (nkey kk)).isSome := by
              rw [valV_any, (kv.val kk).isSome_eq, hlk.isSome]
            unfold putK
            rw [ha]
            by_cases hl : (lkN (kl.map fun p => nkey p.1) ds (nkey kk)).isSome = true
            · rw [if_pos hl] at e ⊢
              cases e
              rw [List.map_map, List.map_map]
              refine ⟨List.map_congr_left fun z _ => ?_, ?_⟩
              · show keyD z.1 = keyD (if z.1 = kk then (z.1, v) else z).1
                split <;> rfl
              · have := RpL.ext x _ _ (put_rp (q := nkey kk) pd (fun p : Key × V => nkey p.1) (·.2) h5)
                have e3 : (kl.map fun z => if nkey z.1 = nkey kk then v else z.2) = kl.map ((fun x => x.2) ∘ fun kv => if kv.1 = kk then (kv.1, v) else kv) := List.map_congr_left fun z _ => by
                  show _ = (if z.1 = kk then (z.1, v) else z).2
                  by_cases hz : z.1 = kk
                  · rw [if_pos hz, if_pos (by rw [hz])]
                  · rw [if_neg hz, if_neg fun h => hz (nkey_inj h)]
                rw [e3] at this
                exact this
            · rw [if_neg hl] at e ⊢
              cases e
              rw [List.map_append, List.map_append]
              exact ⟨rfl, RpL.append (RpL.ext x _ _ h5) (RpL.cons (Rp.ext x _ _ pd) RpL.nil)⟩
      · rw [if_neg hc] at e; cases e
/-- d[k] = v -/
def rPutD (F : Fx) : V → V → V → Hp → (Hp → Prop) → Prop := fun o i v H Q => ∃ av a ks ds k d p, o = .ref a ∧ av a ∧ DR F H av ks ds a ∧ Rp F H av k i ∧ Rp F H av d v ∧ dPutO ks ds k d = some p ∧ ∀ od', DR F (upd H a (dO a od')) av p.1 p.2 a → Q (upd H a (dO a od'))
theorem set_dict {n : Nat} (hX : Fits F X) (hr : Room n X.A) : PSet X (rPutD F) := by
  intro pins s σ H o i v ov iv u Q I ro ri rv h
  obtain ⟨av, a, ks, ds, k, d, p, rfl, hav, dr, pk, pd, e, q⟩ := h
  obtain rfl : ov = Value.ref a := ro
  obtain ⟨hd, ⟨kk, vs, h1, h2, h3, _, h4⟩ | ⟨b, qq, ys, rfl, h1, h2, h3, _, h4⟩⟩ := put_at hX I hav dr pk ri pd rv e
  · refine wpAny_setItem_pairs (hsz := h3) h1 h2 fun h' dd hs => ?_
    obtain ⟨od', I', r'⟩ := h4 h' _ dd hs
    exact ⟨_, I', q od' r'⟩
  · refine wpAny_setItem_heap (hsz := h3) (nroom hr) h1 h2 fun h' dd hs => ?_
    obtain ⟨od', I', r'⟩ := h4 h' _ dd hs
    exact ⟨_, I', q od' r'⟩
theorem dO_ne {od : Obj} (hd : ∃ es ep, od.data = .dict es ep) (q : Str) : dO a od ≠ LamX.CodeO a q := fun z => by
  obtain ⟨es, ep, hd⟩ := hd
  have z' : (HO.ext fun h => h.get? a = some od) = HO.ext fun h => ∃ (oc : Obj) (vs : Array Value) (t : Tok), h.get? a = some oc ∧ oc.data = .fields vs ∧ vs[1]? = some (.str q t) := z
  have e := congrFun (HO.ext.inj z') ⟨Array.replicate (a + 1) od, {}⟩
  have g : (⟨Array.replicate (a + 1) od, {}⟩ : Heap).get? a = some od := by
    unfold Heap.get?
    have : (Array.replicate (a + 1) od)[a]? = some od := by simp
    dsimp only
    rw [this]
    cases od with
    | mk c d dat sl => subst hd; rfl
  rw [g] at e
  obtain ⟨oc, vs, t, e1, e2, _⟩ := e.mp rfl
  cases e1
  rw [hd] at e2
  cases e2
theorem DR.data (h : DR F H av ks ds a) : ∃ od, H a = some (dO a od) ∧ ∃ es ep, od.data = .dict es ep := by
  obtain ⟨od, q, ⟨kl, ⟨_, _, vs, _, es, ep, l1, l2, _⟩, _, _⟩ | ⟨xs, ⟨_, _, _, ys, _, es, ep, l1, l2, _⟩, _, _, _⟩⟩ := h
  · exact ⟨od, q, es, ep, l2⟩
  · exact ⟨od, q, es, ep, l2⟩
theorem tabs_updD {T : List (Addr × Str)} {o o' : HO} (t : LamX.Tabs T H) (ha : H a = some o) (nt : NoTbl o) (nc : ∀ q, o ≠ LamX.CodeO a q) : LamX.Tabs T (upd H a o') := fun z hz => by
  obtain ⟨ps, q, m1, m2⟩ := t z hz
  have hb : z.1 ≠ a := fun e => by
    rw [e, ha] at q
    exact nt _ (Option.some.inj q)
  refine ⟨ps, by rw [upd_ne hb]; exact q, m1, fun pos cv hc => ?_⟩
  obtain ⟨c, e1, e2⟩ := m2 pos cv hc
  refine ⟨c, e1, ?_⟩
  by_cases hca : c = a
  · subst hca
    rw [ha] at e2
    exact (nc _ (Option.some.inj e2)).elim
  · rw [upd_ne hca]; exact e2
/-- slot i's own dict is written -/
theorem Gd.putD {i : Nat} {a : Addr} {od od' : Obj} {ks ds : List D} (g : Gd F w ow G ρ σ H) (hk : G[i]? = some .ow) (hs : σ[i]? = some (some (.ref a))) (ha : H a = some (dO a od)) (hdat : ∃ es ep, od.data = .dict es ep) (r : DR F (upd H a (dO a od')) (Av w ow) ks ds a) :
    Gd F w ow G (ρ.set i (.dct ks ds)) σ (upd H a (dO a od')) ∧ Ext (Av w ow) (Av w ow) H (upd H a (dO a od')) := by
  obtain ⟨oa, _⟩ := g.ownObj hk hs
  have x : Ext (Av w ow) (Av w ow) H (upd H a (dO a od')) := ext_own (.inr ⟨i, oa⟩)
  exact g.farI hk hs ⟨fun b u hb q _ => by rw [upd_ne hb]; exact q, x.there⟩ (tabs_updD g.tabs ha noTbl_dO (dO_ne hdat)) r
theorem Gd.dctOf {i : Nat} {a : Addr} {ks ds : List D} (g : Gd F w ow G ρ σ H) (hk : G[i]? = some .ow) (hs : σ[i]? = some (some (.ref a))) (e : ρ.getD i .non = .dct ks ds) : DR F H (Av w ow) ks ds a ∧ Av w ow a := by
  obtain ⟨b, e1, o, r⟩ := g.slot i _ hk
  rw [hs] at e1
  cases e1
  rw [e] at r
  exact ⟨r, .inr ⟨i, o⟩⟩
def sDSet (i : Nat) (m mi : M D) : MS := fun ρ => (m ρ).rs fun d ρ => (mi ρ).rs fun j ρ => match ρ.getD i .non with
  | .dct ks ds => match dPutO ks ds j d with
    | some p => .nx (ρ.set i (.dct p.1 p.2))
    | none => .bad
  | _ => .bad
theorem x_dset {n : Nat} {i : Nat} {y : Str} {e ix : Expr} {m mi : M D} {p sp pos : Pos} (hr : Room n X.A) (hk : G[i]? = some .ow) (he : EvE F X E G e m) (hi : EvE F X E G ix mi) (hN : X.N[i]? = some y := by rfl) (hv : Vis X.env.scope y := by first | exact Or.inl rfl | exact Or.inr (Or.inl rfl) | exact Or.inr (Or.inr rfl)) (hd : (y == ("__debug__" : Str)) = false := by decide) (hcd : (y == ("__classdict__" : Str)) = false := by decide)
    (ha : ∀ v, assign (.Subscript (.Name y p) ix sp) X.env v = (do
      let ov ← holding [v] (eval (.Name y p) X.env)
      let iv ← holding [v, ov] (eval ix X.env)
      standAt sp
      holding [v, ov, iv] (setItem ov iv v)
      release [v, ov, iv] []) := by intro _; rfl)
    (hs : swapsWithSole [.Subscript (.Name y p) ix sp] e pos.line X.env = pure false := by rfl) (hw : swappedStores [.Subscript (.Name y p) ix sp] e X.env = pure none := by rfl)
    (h1 : (assignEach [.Subscript (.Name y p) ix sp] X.env).map (·.2) = [assign (.Subscript (.Name y p) ix sp) X.env] := by rfl) :
    ExS F X E fr n0 G (.Assign [.Subscript (.Name y p) ix sp] e pos) (sDSet i m mi) G := fun hX => by
  obtain ⟨t, pe, kk⟩ := he hX
  obtain ⟨u, pi, ll⟩ := hi hX
  refine ⟨_, ps_asg pe (pg_sub (pe_var (i := i) hN hv hd hcd) pi (set_dict hX hr) ha) hs hw h1, fun w ow ρ σ H Dn hw0 g h => kk w ow ρ σ H _ g (Post.mono (PostS.split h) fun d ow1 ρ1 H1 _ _ _ ⟨g1, x1, h1⟩ v rv => ?_)⟩
  obtain ⟨a, e1, o1, r1⟩ := g1.slot i _ hk
  refine ⟨.ref a, e1, ll w ow1 ρ1 σ H1 _ g1 (Post.mono (PostS.split h1) fun j ow2 ρ2 H2 _ _ _ ⟨g2, x2, h2⟩ vj rj => ?_)⟩
  cases e2 : ρ2.getD i .non with
  | dct ks ds =>
    rw [e2] at h2
    dsimp only at h2
    cases ep : dPutO ks ds j d with
    | none => rw [ep] at h2; exact h2.elim
    | some p =>
      rw [ep] at h2
      obtain ⟨dr, hav⟩ := g2.dctOf hk e1 e2
      obtain ⟨od, hod, hdat⟩ := dr.data
      refine ⟨Av w ow2, a, ks, ds, j, d, p, rfl, hav, dr, rj, Rp.ext x2 _ _ rv, ep, fun od' dr' => ?_⟩
      have pt := g2.putD hk e1 hod hdat dr'
      exact h2 σ _ ow2 pt.1 Kp.refl pt.2
  | _ => rw [e2] at h2; exact h2.elim
end
end Hs

namespace Hs
open PySem PySem.Spec PyProof.Rows L2

/-- turns that a while may take -/
@[irreducible] def FU : Nat := 40000
theorem FU_ge {n : Nat} (h : n ≤ 40000) : n ≤ FU := by unfold FU; exact h
section
variable {F : Fx} {X : Cx} {E : XK} {fr : Bool} {n0 : Nat} {w : Wd} {ow : Own} {G G' : List Knd} {ρ : List D} {σ : L2.St} {H : Hp} {av : Addr → Prop} {ks ds : List D} {a : Addr}
def oDct : Obj := { cls := .type "dict", data := .dict #[] }
def tDNewO : TE := fun _ H Q => ∀ p, H p = none → (p == sysModules) = false → Q (.ref p) (upd H p (dO p oDct))
theorem pe_dnewO {pos : Pos} : PE X (.Dict [] [] pos) tDNewO := ⟨fun pins s σ H Q I h => by
  have hg : (s.heap.push oDct).get? s.heap.objs.size = some oDct := Heap.get?_push_size _ rfl
  have ok : ObjOk X.prog X.w (upd H s.heap.objs.size (dO s.heap.objs.size oDct)) (s.heap.push oDct) s.heap.objs.size (dO s.heap.objs.size oDct) := ⟨hg, ⟨oDct, hg⟩, fun h1 h2 e1 k => k _ e1⟩
  exact wpAny_Dict_empty ⟨.ref s.heap.objs.size, _, I.laid (a := s.heap.objs.size) (o := dO s.heap.objs.size oDct) (t' := s.toks) (fun _ _ q => Heap.get?_push_of_some _ q) (Nat.le_refl _) ok, rfl, h _ (I.hok.fresh (Nat.le_refl _)) (beq_eq_false_iff_ne.mpr (Ne.symm (Nat.ne_of_lt I.big)))⟩⟩
def mDct0 : M D := fun ρ => .ok (.dct [] []) ρ
theorem oDct_leaf {p : Addr} (h : (p == sysModules) = false) : LeafD F p oDct [] := ⟨Nat.zero_le _, h, [], .nil, dict_empty_of (ep := 0) _ ⟨rfl, rfl, rfl⟩ rfl⟩
theorem en_dct0 {pos : Pos} : EvN F X E G (.Dict [] [] pos) mDct0 := fun hX => ⟨_, pe_dnewO, fun w ow ρ σ H Q g h a ha hs =>
  PostN.fin g Ext.refl (Grow.upd ha) ha (by rw [upd_same]; simp) h ⟨oDct, upd_same, .inl ⟨[], oDct_leaf hs, rfl, RpL.nil⟩⟩⟩
def mDSetd (i : Nat) (mk mx : M D) : M D := fun ρ => if isDct (ρ.getD i .non) then (mk ρ).bind (fun k ρ => (mx ρ).bind fun x ρ => match ρ.getD i .non with
  | .dct ks ds => if isTupD k then (match dGetO ks ds k, dPutO ks ds k x with
    | some (some d), some _ => .ok d ρ
    | some none, some p => .ok x (ρ.set i (.dct p.1 p.2))
    | _, _ => .bad) else .bad
  | _ => .bad) else .bad
theorem keyIs_ref {P : Program} {w : World} {k : Key} {b : Addr} : (mixKind P w).is k (.ref b) = true → False := fun h => by
  rcases keyIs_shape h with ⟨i, t, _, e⟩ | ⟨x, t, _, e⟩ <;> cases e
def rSetd (F : Fx) (x y z : V) (H : Hp) (Q : VK) : Prop := ∃ av a ks ds k xd o p, x = .ref a ∧ av a ∧ DR F H av ks ds a ∧ Rp F H av k y ∧ Rp F H av xd z ∧ isTupD k = true ∧ dGetO ks ds k = some o ∧ dPutO ks ds k xd = some p ∧
  (∀ d, o = some d → ∀ v, Rp F H av d v → Q v H) ∧ (o = none → ∀ od', DR F (upd H a (dO a od')) av p.1 p.2 a → Q z (upd H a (dO a od')))
theorem m_setd {n : Nat} (hX : Fits F X) (hr : Room n X.A) : DM2R X "dict.setdefault" (rSetd F) := by
  intro pins s σ H x y z v u t Q I rx ry rz h
  obtain ⟨av, a, ks, ds, k, xd, o, p, rfl, hav, dr, pk, pd, hk, eo, ep, q1, q2⟩ := h
  obtain rfl : v = Value.ref a := rx
  obtain ⟨hd, ⟨kk, vs, h1, _⟩ | ⟨b, qq, ys, rfl, h1, h2, h3, ⟨o2, eo2, ho⟩, h4⟩⟩ := put_at hX I hav dr pk ry pd rz ep
  · cases k with
    | tup kd =>
      obtain ⟨b, vs', rfl, _⟩ := PRp.tup (.inl pk)
      obtain rfl : u = Value.ref b := ry
      exact (keyIs_ref h1).elim
    | _ => cases hk
  · rw [eo] at eo2
    cases eo2
    refine call_setdefault_heap (hsz := h3) (nroom hr) h1 hd h2 (fun p hp => ?_) fun hn h' dd hs => ?_
    · rw [hp] at ho
      cases o with
      | none => exact ho.elim
      | some d =>
        obtain ⟨vz, r1, r2⟩ := ho
        exact ⟨vz, H, I.tok _, r2, q1 d rfl vz r1⟩
    · rw [hn] at ho
      cases o with
      | none =>
        obtain ⟨od', I', r'⟩ := h4 h' _ dd hs
        exact ⟨z, _, I', rz, q2 rfl od' r'⟩
      | some d => exact ho.elim
theorem ev_setd {n : Nat} {i : Nat} {y : Str} {e f : Expr} {mk mx : M D} {p ap pos : Pos} (hr : Room n X.A) (hk : G[i]? = some .ow) (he : EvE F X E G e mk) (hf : EvE F X E G f mx) (hN : X.N[i]? = some y := by rfl) (hv : Vis X.env.scope y := by first | exact Or.inl rfl | exact Or.inr (Or.inl rfl) | exact Or.inr (Or.inr rfl)) (hd : (y == ("__debug__" : Str)) = false := by decide) (hcd : (y == ("__classdict__" : Str)) = false := by decide)
    (hm : M2 X (.Name y p) "setdefault" ap e f pos := by exact ⟨rfl, rfl, rfl, rfl⟩) :
    EvE F X E G (.Call (.Attribute (.Name y p) "setdefault" ap) [e, f] [] pos) (mDSetd i mk mx) := fun hX => by
  obtain ⟨te, pe, ke⟩ := he hX
  obtain ⟨tf, pf, kf⟩ := hf hX
  refine ⟨_, pe_dm2 PySem.F.slot_dict_setdefault PySem.F.type_dict_setdefault (m_setd hX hr) (pe_var (i := i) hN hv hd hcd) pe pf hm, fun w ow ρ σ H Q g h => ?_⟩
  obtain ⟨a, e1, o1, r1⟩ := g.slot i _ hk
  refine ⟨.ref a, e1, ?_⟩
  unfold mDSetd at h
  cases hl : isDct (ρ.getD i .non) with
  | false => rw [hl] at h; exact h.elim
  | true =>
    rw [hl, if_pos rfl] at h
    obtain ⟨ks0, ds0, e0⟩ := isDct_of hl
    refine ⟨a, rfl, (g.dctOf hk e1 e0).1.isDO, ke w ow ρ σ H _ g (Post.mono (Post.split h) fun k ow1 ρ1 H1 _ _ _ ⟨g1, x1, h1⟩ v rv => kf w ow1 ρ1 σ H1 _ g1 (Post.mono (Post.split h1) fun xd ow2 ρ2 H2 _ _ _ ⟨g2, x2, h2⟩ u ru => ?_))⟩
    cases e2 : ρ2.getD i .non with
    | dct ks ds =>
      rw [e2] at h2
      dsimp only at h2
      by_cases ht : isTupD k = true
      · rw [if_pos ht] at h2
        cases eg : dGetO ks ds k with
        | none => rw [eg] at h2; exact h2.elim
        | some o =>
          cases ep : dPutO ks ds k xd with
          | none => rw [eg, ep] at h2; cases o <;> exact h2.elim
          | some p =>
            rw [eg, ep] at h2
            obtain ⟨dr, hav⟩ := g2.dctOf hk e1 e2
            obtain ⟨od, hod, hdat⟩ := dr.data
            refine ⟨Av w ow2, a, ks, ds, k, xd, o, p, rfl, hav, dr, Rp.ext x2 _ _ rv, ru, ht, eg, ep, fun d ed v' rd => ?_, fun en od' dr' => ?_⟩
            · subst ed
              exact h2 _ _ g2 Ext.refl v' rd
            · subst en
              have pt := g2.putD hk e1 hod hdat dr'
              exact h2 _ ow2 pt.1 pt.2 u (Rp.ext pt.2 _ _ ru)
      · rw [if_neg ht] at h2; exact h2.elim
    | _ => rw [e2] at h2; exact h2.elim
end
end Hs

namespace Hs
open PySem PySem.Spec PyProof.Rows L2

section
variable {F : Fx} {X : Cx} {E : XK} {w : Wd} {ow : Own} {G : List Knd} {ρ : List D} {σ : L2.St} {H : Hp} {av : Addr → Prop}
def lrD : D → Option D
  | .int n => if 0 ≤ n ∧ n ≤ 16777216 then some (.lst (rgD 0 n)) else none
  | _ => none
def mLrg (m : M D) : M D := m.bind fun d => M.opt (lrD d)
theorem rgV_rp (a b : Int) : RpL F H av (rgD a b) (rgV a b) := by
  unfold rgD rgV
  generalize List.range (b - a).toNat = l
  induction l with
  | nil => exact RpL.nil
  | cons i l ih => exact RpL.cons Rp.mkint ih
theorem en_listrg {e : Expr} {m : M D} {p p2 pos pos2 : Pos} (hc : X.calm = true) (hg : Gl X "list") (hm : F.mg "list" = none) (hg2 : Gl X "range") (hm2 : F.mg "range" = none) (he : EvE F X E G e m) (na : starEach [Expr.Call (.Name "range" p2) [e] [] pos2] X.env = (false, eval (Expr.Call (.Name "range" p2) [e] [] pos2) X.env) :: starEach [] X.env := by rfl) (nb : starEach [e] X.env = (false, eval e X.env) :: starEach [] X.env := by rfl) :
    EvN F X E G (.Call (.Name "list" p) [.Call (.Name "range" p2) [e] [] pos2] [] pos) (mLrg m) := fun hX => by
  obtain ⟨t, pe, k⟩ := he hX
  refine ⟨_, pe_listRg hc hg (by rw [hX.m]; exact hm) (prg_1 hg2 (by rw [hX.m]; exact hm2) pe nb) na, fun w ow ρ σ H Q g h => k w ow ρ σ H _ g (Post.mono (PostN.split h) fun d ow1 ρ1 H1 _ _ _ ⟨g1, x1, h1, h2⟩ v rv => ?_)⟩
  cases d with
  | int n =>
    have rv' : v = .int n := PRp.int (.inl rv)
    subst rv'
    by_cases hn : 0 ≤ n ∧ n ≤ 16777216
    · have e1 : lrD (.int n) = some (.lst (rgD 0 n)) := by show (if _ then _ else _) = _; rw [if_pos hn]
      have h3 := h1 (.lst (rgD 0 n)) ρ1 (by unfold M.opt; rw [e1])
      exact ⟨n, rfl, RgOk.of_le (by omega) hn.2 (by omega) hn.1, fun q hq => PostN.fin g1 x1 (Grow.upd hq) hq (by rw [upd_same]; simp) h3 (OwRp.newL hq (rgV_rp 0 n))⟩
    · have e1 : lrD (.int n) = none := by show (if _ then _ else _) = _; rw [if_neg hn]
      exact (h2 (by unfold M.opt; rw [e1])).elim
  | _ => exact (h2 rfl).elim
end
end Hs

namespace Hs
open PySem PySem.Spec PyProof.Rows L2

theorem fun_of {K : PySem.W.Frag} {x qual : Str} {st : Stmt} {f : Addr} {fd : FuncData} (h : FunD K x qual (defArgs st) (defBody st) (defScope st) [] [] f fd) : Fun K x qual st f fd := by
  obtain ⟨oc, od, dV, kV, doc, pm, an, cdv, ct, osl, e, lk, hcd, hD, hK⟩ := h.ex
  rcases hD with ⟨_, rfl⟩ | ⟨e2, _⟩
  · exact ⟨⟨oc, od, kV, doc, pm, an, cdv, ct, osl, e, lk, hcd⟩, h.kp⟩
  · exact (e2 rfl).elim
/-- the law's def at a script -/
theorem law_sp {F : Fx} {fn : Fn} {H : Hp} {a : Addr} {ns : List Int} (hS : SqL F.K H a (ns.map V.int)) (hT : LamX.Tabs F.T H) {io : D} (e : fn [.scr ns] = .ok (.bl true) io) : spV F false fn [.ref a] H (fun v _ => v = .bl true) fun _ _ _ => False := by
  refine ⟨fun _ => False, [.scr ns], fun _ h => h.elim, RpL.cons ?_ RpL.nil, hT, ?_⟩
  · rw [Rp]
    rcases hS with h | h
    · exact ⟨a, rfl, .inl ⟨h, fun z => z⟩⟩
    · exact ⟨a, rfl, .inr h⟩
  · rw [e]
    intro v H' _ _ r
    have r' : Rp F H' (fun _ => False) (.bl true) v := r
    rw [Rp] at r'
    exact r'
/-- nothing gets out -/
theorem FnOk.noX {P : Program} {w : World} {K : PySem.W.Frag} {mg : Str → Option Value} {base : Heap} {k : Nat} {f : Addr} {fd : FuncData} {ps : List Str} {sp : Sp} (F : FnOk P w K mg base (L2.CX P w) k f fd ps sp) :
    FnOk P w K mg base L2.CX0 k f fd ps (fun vs H Q _ => sp vs H Q fun _ _ _ => False) :=
  ⟨fun vs H Q E h => F.len _ _ _ _ h, fun A outer s H args us vs Q E hr he hb hv hs => codeAny_mono (F.run A outer s H args us vs Q _ hr he hb hv hs) fun r s' h => by
    cases r with
    | ok fl => cases fl <;> exact h
    | error e =>
      obtain ⟨_, _, _, _, _, _, _, _, _, _, _, _, z⟩ := h
      exact z.elim⟩
end Hs

namespace Hs
open PySem PySem.Spec PyProof.Rows L2
def m_is_whole : MS := (sRet (mAnd (mOp1 (dIsi "int") (oV (mVar 0))) (mAnd (mNot (mOp1 (dIsi "bool") (oV (mVar 0)))) (mChain dLe dLe (oV (mVar 1)) (oV (mVar 0)) (oV (mVar 2))))))
def r_is_whole : Fn := fnOf 3 0 m_is_whole
def m_is_word : MS := (sRet (mAnd (mOp1 (dIsi "str") (oV (mVar 0))) (mAnd (mChain dLe dLe (oV (mC (.int 1))) (oV (mOpL (one1 dLen) (aCons (oV (mVar 0)) aNil))) (oV (mC (.int 8)))) (mOpL (one1 dAll) (aCons (oV (mLc [1] (mItems (mVar 0)) (gNm 1) tsNo (mOp2 dIn (oV (mVar 1)) (oV (mC (.str "abcdefghijklmnopqrstuvwxyz")))))) aNil)))))
def r_is_word : Fn := fnOf 1 1 m_is_word
def m_rise : MS := (sRet (mOpL (one1 dAll) (aCons (oV (mLc [1, 2] (mZip (mVar 0) (mSl (oV (mVar 0)) (sAt (mC (.int 1))) sNo)) (gTp (gCn (gNm 1) (gCn (gNm 2) gNo))) tsNo (mOp2 dLtX (oV (mVar 1)) (oV (mVar 2))))) aNil)))
def r_rise : Fn := fnOf 1 2 m_rise
def m_are_lines : MS := (sRet (mAnd (mOp1 (dIsi "tuple") (oV (mVar 0))) (mAnd (mOp2 dEq (oV (mOpL (one1 dLen) (aCons (oV (mVar 0)) aNil))) (oV (mVar 1))) (mOpL (one1 dAll) (aCons (oV (mLc [3] (mItems (mVar 0)) (gNm 3) tsNo (mCall r_is_whole (aCons (oV (mVar 3)) (aCons (oV (mC (.int 0))) (aCons (oV (mOp2 dSub (oV (mVar 2)) (oV (mC (.int 1))))) aNil)))))) aNil)))))
def r_are_lines : Fn := fnOf 3 1 m_are_lines
def m_is_ear : MS := (sRet (mAnd (mOp1 (dIsi "tuple") (oV (mVar 0))) (mAnd (mOp2 dEq (oV (mOpL (one1 dLen) (aCons (oV (mVar 0)) aNil))) (oV (mC (.int 2)))) (mAnd (mCall r_is_word (aCons (oV (mOp2 dIx (oV (mVar 0)) (oV (mC (.int 0))))) aNil)) (mCall r_is_whole (aCons (oV (mOp2 dIx (oV (mVar 0)) (oV (mC (.int 1))))) (aCons (oV (mC (.int 1))) (aCons (oV (mC (.int 3))) aNil))))))))
def r_is_ear : Fn := fnOf 1 0 m_is_ear
def m_are_ears : MS := (sRet (mAnd (mOp1 (dIsi "tuple") (oV (mVar 0))) (mAnd (mOp2 dLe (oV (mOpL (one1 dLen) (aCons (oV (mVar 0)) aNil))) (oV (mC (.int 2)))) (mAnd (mOpL (one1 dAll) (aCons (oV (mLc [1] (mItems (mVar 0)) (gNm 1) tsNo (mCall r_is_ear (aCons (oV (mVar 1)) aNil)))) aNil)) (mCall r_rise (aCons (oV (mVar 0)) aNil))))))
def r_are_ears : Fn := fnOf 1 1 m_are_ears
def m_places_for : MS := (sRet (mOp2 dIx (oV (mLst (aCons (oV (mC (.int 1))) (aCons (oV (mVar 0)) (aCons (oV (mOp2 dMul (oV (mVar 0)) (oV (mVar 0)))) aNil))))) (oV (mOpL (one1 dLen) (aCons (oV (mVar 1)) aNil)))))
def r_places_for : Fn := fnOf 2 0 m_places_for
def m_is_singer : MS := (sSeq (sIf (tOrM (tNotM (tst (mOp1 (dIsi "tuple") (oV (mVar 0))))) (tOrM (tst (mOp2 dNe (oV (mOpL (one1 dLen) (aCons (oV (mVar 0)) aNil))) (oV (mC (.int 3))))) (tOrM (tNotM (tst (mCall r_is_word (aCons (oV (mOp2 dIx (oV (mVar 0)) (oV (mC (.int 0))))) aNil)))) (tNotM (tst (mCall r_are_ears (aCons (oV (mOp2 dIx (oV (mVar 0)) (oV (mC (.int 1))))) aNil))))))) (sRet (mC (.bl false))) sNx) (sRet (mCall r_are_lines (aCons (oV (mOp2 dIx (oV (mVar 0)) (oV (mC (.int 2))))) (aCons (oV (mCall r_places_for (aCons (oV (mVar 1)) (aCons (oV (mOp2 dIx (oV (mVar 0)) (oV (mC (.int 1))))) aNil)))) (aCons (oV (mVar 1)) aNil))))))
def r_is_singer : Fn := fnOf 2 0 m_is_singer
def m_is_choir : MS := (sSeq (sIf (tOrM (tNotM (tst (mOp1 (dIsi "tuple") (oV (mVar 0))))) (tOrM (tst (mOp2 dNe (oV (mOpL (one1 dLen) (aCons (oV (mVar 0)) aNil))) (oV (mC (.int 2))))) (tNotM (tst (mCall r_is_whole (aCons (oV (mOp2 dIx (oV (mVar 0)) (oV (mC (.int 0))))) (aCons (oV (mC (.int 2))) (aCons (oV (mC (.int 4))) aNil)))))))) (sRet (mC (.bl false))) sNx) (sSeq (sAsg (mVar 0) (gTp (gCn (gNm 1) (gCn (gNm 2) gNo)))) (sSeq (sIf (tOrM (tNotM (tst (mOp1 (dIsi "tuple") (oV (mVar 2))))) (tNotM (tst (mChain dLe dLe (oV (mC (.int 1))) (oV (mOpL (one1 dLen) (aCons (oV (mVar 2)) aNil))) (oV (mC (.int 4))))))) (sRet (mC (.bl false))) sNx) (sSeq (sIf (tOrM (tNotM (tst (mOpL (one1 dAll) (aCons (oV (mLc [3] (mItems (mVar 2)) (gNm 3) tsNo (mCall r_is_singer (aCons (oV (mVar 3)) (aCons (oV (mVar 1)) aNil))))) aNil)))) (tNotM (tst (mCall r_rise (aCons (oV (mLc [3] (mItems (mVar 2)) (gNm 3) tsNo (mOp2 dIx (oV (mVar 3)) (oV (mC (.int 0)))))) aNil))))) (sRet (mC (.bl false))) sNx) (sSeq (sSet 4 (mLc [3] (mItems (mVar 2)) (gNm 3) tsNo (mOp2 dIx (oV (mVar 3)) (oV (mC (.int 0)))))) (sRet (mOpL (one1 dAll) (aCons (oV (mLc2 [3, 5] [5] (mItems (mVar 2)) (gNm 3) tsNo (mItems (mOp2 dIx (oV (mVar 3)) (oV (mC (.int 1))))) (gNm 5) tsNo (mOp2 dIn (oV (mOp2 dIx (oV (mVar 5)) (oV (mC (.int 0))))) (oV (mVar 4))))) aNil))))))))
def r_is_choir : Fn := fnOf 1 5 m_is_choir
def m_need_choir : MS := (sIf (tNotM (tst (mCall r_is_choir (aCons (oV (mVar 0)) aNil)))) sBad sNx)
def r_need_choir : Fn := fnOf 1 0 m_need_choir
def m_all_names : MS := (sRet (mLc [1] (mItems (mOp2 dIx (oV (mVar 0)) (oV (mC (.int 1))))) (gNm 1) tsNo (mOp2 dIx (oV (mVar 1)) (oV (mC (.int 0))))))
def r_all_names : Fn := fnOf 1 1 m_all_names
def m_is_good_standing : MS := (sSeq (sIf (tOrM (tNotM (tst (mOp1 (dIsi "tuple") (oV (mVar 1))))) (tst (mOp2 dNe (oV (mOpL (one1 dLen) (aCons (oV (mVar 1)) aNil))) (oV (mOpL (one1 dLen) (aCons (oV (mOp2 dIx (oV (mVar 0)) (oV (mC (.int 1))))) aNil)))))) (sRet (mC (.bl false))) sNx) (sRet (mOpL (one1 dAll) (aCons (oV (mLc [2] (mItems (mVar 1)) (gNm 2) tsNo (mCall r_are_lines (aCons (oV (mVar 2)) (aCons (oV (mC (.int 3))) (aCons (oV (mOp2 dIx (oV (mVar 0)) (oV (mC (.int 0))))) aNil)))))) aNil))))
def r_is_good_standing : Fn := fnOf 2 1 m_is_good_standing
def m_need_standing : MS := (sIf (tNotM (tst (mCall r_is_good_standing (aCons (oV (mVar 0)) (aCons (oV (mVar 1)) aNil))))) sBad sNx)
def r_need_standing : Fn := fnOf 2 0 m_need_standing
def m_need_name : MS := (sIf (tOrM (tNotM (tst (mOp1 (dIsi "str") (oV (mVar 1))))) (tst (mOp2 dNotIn (oV (mVar 1)) (oV (mCall r_all_names (aCons (oV (mVar 0)) aNil)))))) sBad sNx)
def r_need_name : Fn := fnOf 2 0 m_need_name
def m_number_of : MS := (sRet (mLr dIndex (oV (mCall r_all_names (aCons (oV (mVar 0)) aNil))) (oV (mVar 1))))
def r_number_of : Fn := fnOf 2 0 m_number_of
def m_heard_by : MS := (sRet (mOpL (one1 dTuple) (aCons (oV (mLc [3, 4] (mItems (mOp2 dIx (oV (mVar 2)) (oV (mC (.int 1))))) (gTp (gCn (gNm 3) (gCn (gNm 4) gNo))) tsNo (mOp2 dIx (oV (mOp2 dIx (oV (mVar 1)) (oV (mCall r_number_of (aCons (oV (mVar 0)) (aCons (oV (mVar 3)) aNil)))))) (oV (mOp2 dSub (oV (mC (.int 3))) (oV (mVar 4))))))) aNil)))
def r_heard_by : Fn := fnOf 3 2 m_heard_by
def m_place_of : MS := (sSeq (sSet 2 (mC (.int 0))) (sSeq (sFor (mItems (mVar 1)) (gNm 3) (sSet 2 (mOp2 dAdd (oV (mOp2 dMul (oV (mVar 2)) (oV (mVar 0)))) (oV (mVar 3))))) (sRet (mVar 2))))
def r_place_of : Fn := fnOf 2 2 m_place_of
def m_table_line : MS := (sRet (mOp2 dIx (oV (mOp2 dIx (oV (mVar 2)) (oV (mC (.int 2))))) (oV (mCall r_place_of (aCons (oV (mOp2 dIx (oV (mVar 0)) (oV (mC (.int 0))))) (aCons (oV (mCall r_heard_by (aCons (oV (mVar 0)) (aCons (oV (mVar 1)) (aCons (oV (mVar 2)) aNil))))) aNil))))))
def r_table_line : Fn := fnOf 3 0 m_table_line
def m_all_next : MS := (sRet (mOpL (one1 dTuple) (aCons (oV (mLc [2] (mItems (mOp2 dIx (oV (mVar 0)) (oV (mC (.int 1))))) (gNm 2) tsNo (mCall r_table_line (aCons (oV (mVar 0)) (aCons (oV (mVar 1)) (aCons (oV (mVar 2)) aNil)))))) aNil)))
def r_all_next : Fn := fnOf 2 1 m_all_next
def m_next_lines : MS := (sSeq (sE (mCall r_need_choir (aCons (oV (mVar 0)) aNil))) (sSeq (sE (mCall r_need_standing (aCons (oV (mVar 0)) (aCons (oV (mVar 1)) aNil)))) (sRet (mCall r_all_next (aCons (oV (mVar 0)) (aCons (oV (mVar 1)) aNil))))))
def r_next_lines : Fn := fnOf 2 0 m_next_lines
def m_behind : MS := (sRet (mOpL (one1 dTuple) (aCons (oV (mLc [2, 3] (mZip (mVar 0) (mVar 1)) (gTp (gCn (gNm 2) (gCn (gNm 3) gNo))) tsNo (mOp2 dAdd (oV (mSl (oV (mVar 2)) (sAt (mC (.int 1))) sNo)) (oV (mTup (aCons (oV (mVar 3)) aNil)))))) aNil)))
def r_behind : Fn := fnOf 2 2 m_behind
def m_on : MS := (sRet (mCall r_behind (aCons (oV (mVar 1)) (aCons (oV (mCall r_all_next (aCons (oV (mVar 0)) (aCons (oV (mVar 1)) aNil)))) aNil))))
def r_on : Fn := fnOf 2 0 m_on
def m_do_count : MS := (sSeq (sAsg (mTup (aCons (oV (mOp2 dIx (oV (mVar 1)) (oV (mC (.int 1))))) (aCons (oV (mOp2 dIx (oV (mVar 1)) (oV (mC (.int 2))))) aNil))) (gTp (gCn (gNm 3) (gCn (gNm 4) gNo)))) (sSeq (sFor (mRg rg1 (aCons (oV (mIf (tst (mOp2 dEq (oV (mOpL (one1 dLen) (aCons (oV (mVar 3)) aNil))) (oV (mC (.int 2))))) (mVar 0) (mC (.int 1)))) aNil)) (gNm 5) (sSeq (sSet 6 (mLc [7] (mRg rg1 (aCons (oV (mVar 0)) aNil)) (gNm 7) tsNo (mIf (tst (mOp2 dEq (oV (mVar 2)) (oV (mC (.int 0))))) (mTup (aCons (oV (mVar 7)) (aCons (oV (mVar 5)) aNil))) (mTup (aCons (oV (mVar 5)) (aCons (oV (mVar 7)) aNil)))))) (sIf (tst (mOp2 dGt (oV (mOp1 dLenSet (oV (mLc [8] (mItems (mVar 6)) (gNm 8) tsNo (mOp2 dIx (oV (mVar 4)) (oV (mCall r_place_of (aCons (oV (mVar 0)) (aCons (oV (mSl (oV (mVar 8)) sNo (sAt (mOpL (one1 dLen) (aCons (oV (mVar 3)) aNil))))) aNil))))))))) (oV (mC (.int 1))))) (sRet (mC (.bl true))) sNx))) (sRet (mC (.bl false)))))
def r_do_count : Fn := fnOf 3 6 m_do_count
def m_ears_that_count : MS := (sRet (mOpL (one1 dTuple) (aCons (oV (mLc [2, 3] (mEn (mOp2 dIx (oV (mVar 1)) (oV (mC (.int 1))))) (gTp (gCn (gNm 2) (gCn (gNm 3) gNo))) (tst (mCall r_do_count (aCons (oV (mVar 0)) (aCons (oV (mVar 1)) (aCons (oV (mVar 2)) aNil))))) (mVar 3))) aNil)))
def r_ears_that_count : Fn := fnOf 2 2 m_ears_that_count
def m_counting : MS := (sSeq (sE (mCall r_need_choir (aCons (oV (mVar 0)) aNil))) (sSeq (sE (mCall r_need_name (aCons (oV (mVar 0)) (aCons (oV (mVar 1)) aNil)))) (sRet (mCall r_ears_that_count (aCons (oV (mOp2 dIx (oV (mVar 0)) (oV (mC (.int 0))))) (aCons (oV (mOp2 dIx (oV (mOp2 dIx (oV (mVar 0)) (oV (mC (.int 1))))) (oV (mCall r_number_of (aCons (oV (mVar 0)) (aCons (oV (mVar 1)) aNil)))))) aNil))))))
def r_counting : Fn := fnOf 2 0 m_counting
def m_lean_singer : MS := (sSeq (sAsg (mVar 1) (gTp (gCn (gNm 2) (gCn (gNm 3) (gCn (gNm 4) gNo))))) (sSeq (sSet 5 (mCall r_ears_that_count (aCons (oV (mVar 0)) (aCons (oV (mVar 1)) aNil)))) (sSeq (sIf (tst (mOp2 dEq (oV (mVar 5)) (oV (mVar 3)))) (sRet (mVar 1)) sNx) (sSeq (sIf (tst (mOp2 dEq (oV (mVar 5)) (oV (mTup aNil)))) (sRet (mTup (aCons (oV (mVar 2)) (aCons (oV (mTup aNil)) (aCons (oV (mSl (oV (mVar 4)) sNo (sAt (mC (.int 1))))) aNil))))) sNx) (sSeq (sSet 6 (mLc [7] (mRg rg1 (aCons (oV (mVar 0)) aNil)) (gNm 7) tsNo (mIf (tst (mOp2 dEq (oV (mOp2 dIx (oV (mVar 5)) (oV (mC (.int 0))))) (oV (mOp2 dIx (oV (mVar 3)) (oV (mC (.int 0))))))) (mOp2 dMul (oV (mVar 7)) (oV (mVar 0))) (mVar 7)))) (sRet (mTup (aCons (oV (mVar 2)) (aCons (oV (mVar 5)) (aCons (oV (mOpL (one1 dTuple) (aCons (oV (mLc [8] (mItems (mVar 6)) (gNm 8) tsNo (mOp2 dIx (oV (mVar 4)) (oV (mVar 8))))) aNil))) aNil))))))))))
def r_lean_singer : Fn := fnOf 2 7 m_lean_singer
def m_leaned : MS := (sRet (mTup (aCons (oV (mOp2 dIx (oV (mVar 0)) (oV (mC (.int 0))))) (aCons (oV (mOpL (one1 dTuple) (aCons (oV (mLc [1] (mItems (mOp2 dIx (oV (mVar 0)) (oV (mC (.int 1))))) (gNm 1) tsNo (mCall r_lean_singer (aCons (oV (mOp2 dIx (oV (mVar 0)) (oV (mC (.int 0))))) (aCons (oV (mVar 1)) aNil))))) aNil))) aNil))))
def r_leaned : Fn := fnOf 1 1 m_leaned
def m_lean : MS := (sSeq (sE (mCall r_need_choir (aCons (oV (mVar 0)) aNil))) (sRet (mCall r_leaned (aCons (oV (mVar 0)) aNil))))
def r_lean : Fn := fnOf 1 0 m_lean
def m_heads : MS := (sSeq (sE (mCall r_need_choir (aCons (oV (mVar 0)) aNil))) (sSeq (sSet 1 (mOp2 dIx (oV (mCall r_leaned (aCons (oV (mVar 0)) aNil))) (oV (mC (.int 1))))) (sRet (mLc [2] (mItems (mVar 1)) (gNm 2) (tst (mOpL (one1 dAll) (aCons (oV (mLc [3] (mItems (mOp2 dIx (oV (mVar 2)) (oV (mC (.int 1))))) (gNm 3) tsNo (mOp2 dEq (oV (mOp2 dIx (oV (mVar 3)) (oV (mC (.int 0))))) (oV (mOp2 dIx (oV (mVar 2)) (oV (mC (.int 0)))))))) aNil))) (mOp2 dIx (oV (mVar 2)) (oV (mC (.int 0))))))))
def r_heads : Fn := fnOf 1 3 m_heads
def m_need_both : MS := (sSeq (sE (mCall r_need_choir (aCons (oV (mVar 0)) aNil))) (sE (mCall r_need_standing (aCons (oV (mVar 0)) (aCons (oV (mVar 1)) aNil)))))
def r_need_both : Fn := fnOf 2 0 m_need_both
def m_need_beats : MS := (sIf (tNotM (tst (mCall r_is_whole (aCons (oV (mVar 0)) (aCons (oV (mC (.int 0))) (aCons (oV (mC (.int 500))) aNil)))))) sBad sNx)
def r_need_beats : Fn := fnOf 1 0 m_need_beats
def m_rows_of : MS := (sSeq (sSet 3 (mLst aNil)) (sSeq (sFor (mRg rg1 (aCons (oV (mVar 2)) aNil)) (gNm 4) (sSeq (sE (mLm 3 fApp (mCall r_all_next (aCons (oV (mVar 0)) (aCons (oV (mVar 1)) aNil))))) (sSet 1 (mCall r_on (aCons (oV (mVar 0)) (aCons (oV (mVar 1)) aNil)))))) (sRet (mVar 3))))
def r_rows_of : Fn := fnOf 3 2 m_rows_of
def m_song : MS := (sSeq (sE (mCall r_need_both (aCons (oV (mVar 0)) (aCons (oV (mVar 1)) aNil)))) (sSeq (sE (mCall r_need_beats (aCons (oV (mVar 2)) aNil))) (sRet (mCall r_rows_of (aCons (oV (mVar 0)) (aCons (oV (mVar 1)) (aCons (oV (mVar 2)) aNil)))))))
def r_song : Fn := fnOf 3 0 m_song
def m_need_two : MS := (sSeq (sE (mCall r_need_choir (aCons (oV (mVar 0)) aNil))) (sSeq (sE (mCall r_need_choir (aCons (oV (mVar 1)) aNil))) (sIf (tOrM (tst (mOp2 dNe (oV (mOp2 dIx (oV (mVar 0)) (oV (mC (.int 0))))) (oV (mOp2 dIx (oV (mVar 1)) (oV (mC (.int 0))))))) (tst (mOp2 dNe (oV (mCall r_all_names (aCons (oV (mVar 0)) aNil))) (oV (mCall r_all_names (aCons (oV (mVar 1)) aNil)))))) sBad sNx)))
def r_need_two : Fn := fnOf 2 0 m_need_two
def m_alike_always : MS := (sSeq (sE (mCall r_need_two (aCons (oV (mVar 0)) (aCons (oV (mVar 1)) aNil)))) (sRet (mOp2 dEq (oV (mCall r_leaned (aCons (oV (mVar 0)) aNil))) (oV (mCall r_leaned (aCons (oV (mVar 1)) aNil))))))
def r_alike_always : Fn := fnOf 2 0 m_alike_always
def m__law_cell : MS := (sSeq (sIf (tst (mOp2 dEq (oV (mVar 0)) (oV (mLst aNil)))) (sRet (mOp2 dMul (oV (mVar 1)) (oV (mC (.int 7919))))) sNx) (sRet (mOp2 dAdd (oV (mOp2 dIx (oV (mVar 0)) (oV (mOp2 dMod (oV (mVar 1)) (oV (mOpL (one1 dLen) (aCons (oV (mVar 0)) aNil))))))) (oV (mOp2 dMul (oV (mOp2 dDiv (oV (mVar 1)) (oV (mOpL (one1 dLen) (aCons (oV (mVar 0)) aNil))))) (oV (mC (.int 104729))))))))
def r__law_cell : Fn := fnOf 2 0 m__law_cell
def m__law_drawn : MS := (sSeq (sSet 2 (mOp2 dMod (oV (mOp2 dAdd (oV (mOp2 dMul (oV (mVar 0)) (oV (mC (.int 6364136223846793005))))) (oV (mOp2 dMul (oV (mOp2 dAdd (oV (mVar 1)) (oV (mC (.int 1))))) (oV (mC (.int 1442695040888963407))))))) (oV (mC (.int 340282366920938463463374607431768211507))))) (sSeq (sSet 2 (mOp2 dMod (oV (mOp2 dMul (oV (mVar 2)) (oV (mVar 2)))) (oV (mC (.int 340282366920938463463374607431768211297))))) (sSeq (sSet 2 (mOp2 dMul (oV (mOp2 dMul (oV (mOp2 dAdd (oV (mOp2 dMod (oV (mVar 2)) (oV (mC (.int 18446744073709551557))))) (oV (mC (.int 1))))) (oV (mOp2 dAdd (oV (mOp2 dDiv (oV (mVar 2)) (oV (mC (.int 18446744073709551557))))) (oV (mC (.int 1))))))) (oV (mVar 2)))) (sRet (mOp2 dMod (oV (mVar 2)) (oV (mC (.int 340282366920938463463374607431768211507))))))))
def r__law_drawn : Fn := fnOf 2 1 m__law_drawn
def m__law_roll : MS := (sSeq (sIf (tst (mOp2 dGe (oV (mOp2 dIx (oS 0) (oV (mC (.int 0))))) (oV (mOp2 dPow (oV (mC (.int 10))) (oV (mC (.int 18))))))) (sSeq (sSet 2 (mOp2 dMod (oV (mOp2 dIx (oS 0) (oV (mC (.int 0))))) (oV (mVar 1)))) (sSeq (sSetIt 0 (mOp2 dDiv (oV (mOp2 dIx (oS 0) (oV (mC (.int 0))))) (oV (mVar 1))) (mC (.int 0))) (sRet (mVar 2)))) sNx) (sSeq (sSetIt 0 (mOp2 dAdd (oV (mOp2 dIx (oS 0) (oV (mC (.int 1))))) (oV (mC (.int 1)))) (mC (.int 1))) (sRet (mOp2 dMod (oV (mOp2 dDiv (oV (mCall r__law_drawn (aCons (oV (mOp2 dIx (oS 0) (oV (mC (.int 0))))) (aCons (oV (mOp2 dIx (oS 0) (oV (mC (.int 1))))) aNil)))) (oV (mC (.int 8))))) (oV (mVar 1))))))
def r__law_roll : Fn := fnOf 2 1 m__law_roll
def m__law_rounds : M (List D) := (mLcR [2] (mRg rg1 (aCons (oV (mOpL dMax2 (aCons (oV (mC (.int 1))) (aCons (oV (mOpL dMin2 (aCons (oV (mVar 1)) (aCons (oV (mOpL (one1 dLen) (aCons (oV (mVar 0)) aNil))) aNil)))) aNil)))) aNil)) (gNm 2) tsNo (mLst (aCons (oV (mCall r__law_cell (aCons (oV (mVar 0)) (aCons (oV (mVar 2)) aNil)))) (aCons (oV (mC (.int 0))) aNil))))
def r__law_rounds : List D → RW := rowOf 2 1 m__law_rounds
def m__law_any_singers : MS := (sSeq (sSet 3 (mLst aNil)) (sSeq (sFor (mItems (mVar 2)) (gNm 4) (sSeq (sSet 5 (mLst aNil)) (sSeq (sFor (mRg rg1 (aCons (oV (mCallI 0 r__law_roll (aCons (oV (mC (.int 3))) aNil))) aNil)) (gNm 6) (sSeq (sSet 7 (mTup (aCons (oV (mOp2 dIx (oV (mVar 2)) (oV (mCallI 0 r__law_roll (aCons (oV (mOpL (one1 dLen) (aCons (oV (mVar 2)) aNil))) aNil))))) (aCons (oV (mOp2 dAdd (oV (mC (.int 1))) (oV (mCallI 0 r__law_roll (aCons (oV (mC (.int 3))) aNil))))) aNil)))) (sIf (tst (mOp2 dNotIn (oV (mVar 7)) (oS 5))) (sE (mLm 5 fApp (mVar 7))) sNx))) (sSeq (sSet 8 (mOp2 dIx (oV (mLst (aCons (oV (mC (.int 1))) (aCons (oV (mVar 1)) (aCons (oV (mOp2 dMul (oV (mVar 1)) (oV (mVar 1)))) aNil))))) (oV (mOpL (one1 dLen) (aCons (oS 5) aNil))))) (sE (mLm 3 fApp (mTup (aCons (oV (mVar 4)) (aCons (oV (mOpL (one1 dTuple) (aCons (oV (mOpL (one1 dSorted) (aCons (oS 5) aNil))) aNil))) (aCons (oV (mOpL (one1 dTuple) (aCons (oV (mLc [9] (mRg rg1 (aCons (oV (mVar 8)) aNil)) (gNm 9) tsNo (mCallI 0 r__law_roll (aCons (oV (mVar 1)) aNil)))) aNil))) aNil)))))))))) (sRet (mOpL (one1 dTuple) (aCons (oS 3) aNil)))))
def r__law_any_singers : Fn := fnOf 3 7 m__law_any_singers
def m__law_any_choir : MS := (sSeq (sSet 1 (mCallI 0 r__law_roll (aCons (oV (mC (.int 6))) aNil))) (sSeq (sAsg (mOp2 dIx (oV (mLst (aCons (oV (mTup (aCons (oV (mC (.int 2))) (aCons (oV (mC (.int 1))) aNil)))) (aCons (oV (mTup (aCons (oV (mC (.int 2))) (aCons (oV (mC (.int 2))) aNil)))) (aCons (oV (mTup (aCons (oV (mC (.int 2))) (aCons (oV (mC (.int 3))) aNil)))) (aCons (oV (mTup (aCons (oV (mC (.int 3))) (aCons (oV (mC (.int 1))) aNil)))) (aCons (oV (mTup (aCons (oV (mC (.int 3))) (aCons (oV (mC (.int 2))) aNil)))) (aCons (oV (mTup (aCons (oV (mC (.int 4))) (aCons (oV (mC (.int 1))) aNil)))) aNil)))))))) (oV (mVar 1))) (gTp (gCn (gNm 2) (gCn (gNm 3) gNo)))) (sRet (mTup (aCons (oV (mVar 2)) (aCons (oV (mCallI 0 r__law_any_singers (aCons (oV (mVar 2)) (aCons (oV (mSl (oV (mLst (aCons (oV (mC (.str "ann"))) (aCons (oV (mC (.str "bob"))) (aCons (oV (mC (.str "cy"))) aNil))))) sNo (sAt (mVar 3)))) aNil)))) aNil))))))
def r__law_any_choir : Fn := fnOf 1 3 m__law_any_choir
def m__law_any_standing : MS := (sSeq (sSet 2 (mLst aNil)) (sSeq (sFor (mItems (mOp2 dIx (oV (mVar 1)) (oV (mC (.int 1))))) (gNm 3) (sE (mLm 2 fApp (mOpL (one1 dTuple) (aCons (oV (mLc [4] (mRg rg1 (aCons (oV (mC (.int 3))) aNil)) (gNm 4) tsNo (mCallI 0 r__law_roll (aCons (oV (mOp2 dIx (oV (mVar 1)) (oV (mC (.int 0))))) aNil)))) aNil))))) (sRet (mOpL (one1 dTuple) (aCons (oS 2) aNil)))))
def r__law_any_standing : Fn := fnOf 2 3 m__law_any_standing
end Hs

namespace Hs
open PySem PySem.Spec L2

section
variable {α β : Type} {ρ : List D}
@[simp] theorem v_bind_ok (a : α) (ρ : List D) (k : α → List D → R β) : (R.ok a ρ).bind k = k a ρ := rfl
@[simp] theorem v_bind_ex (e : Ex) (ρ : List D) (k : α → List D → R β) : (R.ex e ρ : R α).bind k = .ex e ρ := rfl
@[simp] theorem v_bind_bad (k : α → List D → R β) : (R.bad : R α).bind k = .bad := rfl
@[simp] theorem v_mbind (m : M α) (k : α → M β) : (m.bind k) ρ = (m ρ).bind k := rfl
@[simp] theorem v_ret (a : α) : (M.ret a) ρ = .ok a ρ := rfl
@[simp] theorem v_opt_some (a : α) : (M.opt (some a)) ρ = .ok a ρ := rfl
@[simp] theorem v_opt_none : (M.opt (none : Option α)) ρ = .bad := rfl
@[simp] theorem v_var (i : Nat) : mVar i ρ = .ok (ρ.getD i .non) ρ := rfl
@[simp] theorem v_c (d : D) : mC d ρ = .ok d ρ := rfl
@[simp] theorem v_oV (m : M D) : oV m ρ = (m ρ).bind fun d ρ => .ok (.v d) ρ := rfl
@[simp] theorem v_oS (i : Nat) : oS i ρ = .ok (.s i) ρ := rfl
@[simp] theorem v_getV (d : D) : OV.get ρ (.v d) = d := rfl
@[simp] theorem v_getS (i : Nat) : OV.get ρ (.s i) = ρ.getD i .non := rfl
@[simp] theorem v_op2 (f : D → D → Option D) (a b : M OV) : mOp2 f a b ρ = (a ρ).bind fun x ρ => (b ρ).bind fun y ρ => M.opt (f (x.get ρ) (y.get ρ)) ρ := rfl
@[simp] theorem v_op1 (f : D → Option D) (a : M OV) : mOp1 f a ρ = (a ρ).bind fun x ρ => M.opt (f (x.get ρ)) ρ := rfl
@[simp] theorem v_opL (f : List D → Option D) (a : M (List OV)) : mOpL f a ρ = (a ρ).bind fun x ρ => M.opt (f (x.map (OV.get ρ))) ρ := rfl
@[simp] theorem v_aNil : aNil ρ = .ok [] ρ := rfl
@[simp] theorem v_aCons (a : M OV) (r : M (List OV)) : aCons a r ρ = (a ρ).bind fun x ρ => (r ρ).bind fun xs ρ => .ok (x :: xs) ρ := rfl
@[simp] theorem v_tst (m : M D) : tst m ρ = (m ρ).bind fun d => M.opt (blOf d) := rfl
@[simp] theorem v_not (m : M Bool) : tNotM m ρ = (m ρ).bind fun b ρ => .ok (!b) ρ := rfl
@[simp] theorem v_and (a b : M Bool) : tAndM a b ρ = (a ρ).bind fun c ρ => if c then b ρ else .ok false ρ := by unfold tAndM; simp only [v_mbind]; congr 1; funext c ρ; cases c <;> rfl
@[simp] theorem v_or (a b : M Bool) : tOrM a b ρ = (a ρ).bind fun c ρ => if c then .ok true ρ else b ρ := by unfold tOrM; simp only [v_mbind]; congr 1; funext c ρ; cases c <;> rfl
@[simp] theorem v_bl (b : Bool) : blOf (.bl b) = some b := rfl
def ifBl (d : D) (a b : R D) : R D := match blOf d with
  | some true => a
  | some false => b
  | none => .bad
@[simp] theorem ifBl_bl (b : Bool) (x y : R D) : ifBl (.bl b) x y = if b then x else y := by cases b <;> rfl
@[simp] theorem v_mand (a b : M D) : mAnd a b ρ = (a ρ).bind fun d ρ => ifBl d (b ρ) (.ok (.bl false) ρ) := by
  unfold mAnd; simp only [v_mbind]; congr 1; funext d ρ; unfold ifBl; cases blOf d with
  | none => rfl
  | some b => cases b <;> rfl
@[simp] theorem v_mor (a b : M D) : mOr a b ρ = (a ρ).bind fun d ρ => ifBl d (.ok (.bl true) ρ) (b ρ) := by
  unfold mOr; simp only [v_mbind]; congr 1; funext d ρ; unfold ifBl; cases blOf d with
  | none => rfl
  | some b => cases b <;> rfl
@[simp] theorem v_mnot (a : M D) : mNot a ρ = (a ρ).bind fun d ρ => ifBl d (.ok (.bl false) ρ) (.ok (.bl true) ρ) := by
  unfold mNot; simp only [v_mbind]; congr 1; funext d ρ; unfold ifBl; cases blOf d with
  | none => rfl
  | some b => cases b <;> rfl
@[simp] theorem v_mif (c : M Bool) (a b : M D) : mIf c a b ρ = (c ρ).bind fun c ρ => if c then a ρ else b ρ := by unfold mIf; simp only [v_mbind]; congr 1; funext c ρ; cases c <;> rfl
def chainB (o : Option Bool) (k : R D) (ρ : List D) : R D := match o with
  | some true => k
  | some false => .ok (.bl false) ρ
  | none => .bad
@[simp] theorem chainB_some (b : Bool) (k : R D) : chainB (some b) k ρ = if b then k else .ok (.bl false) ρ := by cases b <;> rfl
@[simp] theorem v_chain (f g : D → D → Option D) (a b c : M OV) : mChain f g a b c ρ = (a ρ).bind fun x ρ => (b ρ).bind fun y ρ => chainB ((f (x.get ρ) (y.get ρ)).bind blOf) ((c ρ).bind fun z ρ => M.opt (g (y.get ρ) (z.get ρ)) ρ) ρ := by
  rfl
@[simp] theorem v_valsN : valsOf [] = some [] := rfl
@[simp] theorem v_valsV (d : D) (r : List OV) : valsOf (.v d :: r) = (valsOf r).map (d :: ·) := rfl
@[simp] theorem v_tup (ms : M (List OV)) : mTup ms ρ = (ms ρ).bind fun os => M.opt ((valsOf os).bind fun ds => if ds.length ≤ SZ then some (.tup ds) else none) := rfl
@[simp] theorem v_lst (ms : M (List OV)) : mLst ms ρ = (ms ρ).bind fun os => M.opt ((valsOf os).bind fun ds => if ds.length ≤ SZ then some (.lst ds) else none) := rfl
@[simp] theorem v_sNo : sNo ρ = .ok none ρ := rfl
@[simp] theorem v_intOf (i : Int) : intOf (.int i) = some i := rfl
def atOpt (o : Option Int) (ρ : List D) : R (Option Int) := match o with
  | some i => .ok (some i) ρ
  | none => .bad
@[simp] theorem atOpt_some (i : Int) : atOpt (some i) ρ = .ok (some i) ρ := rfl
@[simp] theorem v_sAt (m : M D) : sAt m ρ = (m ρ).bind fun d ρ => atOpt (intOf d) ρ := by
  unfold sAt; simp only [v_mbind]; congr 1 <;> (funext d ρ; unfold atOpt; cases intOf d <;> rfl)
@[simp] theorem v_sl (a : M OV) (lo hi : M (Option Int)) : mSl a lo hi ρ = (a ρ).bind fun x ρ => (lo ρ).bind fun l ρ => (hi ρ).bind fun u ρ => M.opt (dSl (x.get ρ) l u) ρ := rfl
def callR (x : RF) (os : List OV) (ρ : List D) : R D := match x with
  | .ok d _ => if retOk os d then .ok d ρ else .bad
  | .ex e _ => if retOk os e.a then .ex e ρ else .bad
  | .bad => .bad
@[simp] theorem v_call (fn : Fn) (ms : M (List OV)) : mCall fn ms ρ = (ms ρ).bind fun os ρ => callR (fn (os.map (OV.get ρ))) os ρ := by
  unfold mCall; simp only [v_mbind]; congr 1 <;> (funext os ρ; unfold callR; cases fn (os.map (OV.get ρ)) <;> rfl)
@[simp] theorem callR_ok (d io : D) (os : List OV) : callR (.ok d io) os ρ = if retOk os d then .ok d ρ else .bad := rfl
@[simp] theorem callR_ex (e : Ex) (io : D) (os : List OV) : callR (.ex e io) os ρ = if retOk os e.a then .ex e ρ else .bad := rfl
theorem retOk_no {os : List OV} (d : D) (h : noSlot os = true) : retOk os d = true := by unfold retOk; rw [h]; rfl
@[simp] theorem retOk_nil (d : D) : retOk [] d = true := rfl
@[simp] theorem retOk_v (x : D) (os : List OV) (d : D) : retOk (.v x :: os) d = retOk os d := rfl
@[simp] theorem retOk_s (i : Nat) (os : List OV) (d : D) : retOk (.s i :: os) d = d.flat := rfl
@[simp] theorem noSlot_nil : noSlot [] = true := rfl
@[simp] theorem noSlot_v (d : D) (r : List OV) : noSlot (.v d :: r) = noSlot r := rfl
@[simp] theorem noSlot_s (d : Nat) (r : List OV) : noSlot (.s d :: r) = false := rfl
def callI (i : Nat) (x : RF) (ρ : List D) : R D := match x with
  | .ok d io => .ok d (ρ.set i io)
  | .ex e io => .ex e (ρ.set i io)
  | .bad => .bad
@[simp] theorem callI_ok (i : Nat) (d io : D) : callI i (.ok d io) ρ = .ok d (ρ.set i io) := rfl
@[simp] theorem v_callI (i : Nat) (fn : Fn) (ms : M (List OV)) : mCallI i fn ms ρ = (ms ρ).bind fun os ρ => if noSlot os then callI i (fn (ρ.getD i .non :: os.map (OV.get ρ))) ρ else .bad := by
  unfold mCallI; simp only [v_mbind]; congr 1 <;> (funext os ρ; unfold callI; cases noSlot os <;> simp <;> cases fn (ρ.getD i .non :: os.map (OV.get ρ)) <;> rfl)
def callN (x : RF) (ρ : List D) : R D := match x with
  | .ok d _ => .ok d ρ
  | .ex e _ => .ex e ρ
  | .bad => .bad
@[simp] theorem callN_ok (d io : D) : callN (.ok d io) ρ = .ok d ρ := rfl
@[simp] theorem v_callN (fn : Fn) (ms : M (List OV)) : mCallN fn ms ρ = (ms ρ).bind fun os ρ => if noSlot os then callN (fn (os.map (OV.get ρ))) ρ else .bad := by
  unfold mCallN; simp only [v_mbind]; congr 1 <;> (funext os ρ; unfold callN; cases noSlot os <;> simp <;> cases fn (os.map (OV.get ρ)) <;> rfl)
@[simp] theorem v_rs_ok (a : α) (ρ : List D) (k : α → MS) : (R.ok a ρ).rs k = k a ρ := rfl
@[simp] theorem v_rs_ex (e : Ex) (ρ : List D) (k : α → MS) : (R.ex e ρ : R α).rs k = .ex e ρ := rfl
@[simp] theorem v_rs_bad (k : α → MS) : (R.bad : R α).rs k = .bad := rfl
def RS.then (r : RS) (k : MS) : RS := match r with
  | .nx ρ => k ρ
  | .rt d ρ => .rt d ρ
  | .ex e ρ => .ex e ρ
  | .bad => .bad
@[simp] theorem then_nx (ρ : List D) (k : MS) : (RS.nx ρ).then k = k ρ := rfl
@[simp] theorem then_rt (d : D) (ρ : List D) (k : MS) : (RS.rt d ρ).then k = .rt d ρ := rfl
@[simp] theorem then_ex (e : Ex) (ρ : List D) (k : MS) : (RS.ex e ρ).then k = .ex e ρ := rfl
@[simp] theorem then_bad (k : MS) : RS.bad.then k = .bad := rfl
@[simp] theorem v_nx : sNx ρ = .nx ρ := rfl
@[simp] theorem v_sbad : sBad ρ = .bad := rfl
@[simp] theorem v_seq (a b : MS) : sSeq a b ρ = (a ρ).then b := by unfold sSeq RS.then; cases a ρ <;> rfl
@[simp] theorem v_sE (m : M D) : sE m ρ = (m ρ).rs fun _ ρ => .nx ρ := rfl
@[simp] theorem v_sRet (m : M D) : sRet m ρ = (m ρ).rs fun d ρ => .rt d ρ := rfl
@[simp] theorem v_sRetO (i : Nat) : sRetO i ρ = .rt (ρ.getD i .non) ρ := rfl
@[simp] theorem v_sIf (c : M Bool) (a b : MS) : sIf c a b ρ = (c ρ).rs fun c ρ => if c then a ρ else b ρ := by unfold sIf; congr 1
@[simp] theorem v_sSet (i : Nat) (m : M D) : sSet i m ρ = (m ρ).rs fun d ρ => .nx (ρ.set i d) := rfl
def ofO (o : Option (List D)) : RS := match o with
  | some ρ => .nx ρ
  | none => .bad
@[simp] theorem ofO_some (ρ : List D) : ofO (some ρ) = .nx ρ := rfl
@[simp] theorem v_sAsg (m : M D) (mg : MG) : sAsg m mg ρ = (m ρ).rs fun d ρ => ofO (mg d ρ) := by unfold sAsg; congr 1 <;> (funext d ρ; unfold ofO; cases mg d ρ <;> rfl)
@[simp] theorem v_gNm (i : Nat) (d : D) : gNm i d ρ = some (ρ.set i d) := rfl
@[simp] theorem v_gNo : gNo [] ρ = some ρ := rfl
@[simp] theorem v_gCn (a : MG) (b : MGs) (d : D) (ds : List D) : gCn a b (d :: ds) ρ = (a d ρ).bind fun ρ' => b ds ρ' := rfl
@[simp] theorem v_gTp (a : MGs) (ds : List D) : gTp a (.tup ds) ρ = a ds ρ := rfl
@[simp] theorem v_pNil : pNil ρ = .ok [] ρ := rfl
@[simp] theorem v_pCons (m : M D) (r : M (List D)) : pCons m r ρ = (m ρ).bind fun d ρ => (r ρ).bind fun ds ρ => .ok (d :: ds) ρ := rfl
@[simp] theorem v_sPar (is : List Nat) (m : M (List D)) : sPar is m ρ = (m ρ).rs fun ds ρ => if ds.length = is.length then .nx (setsD ρ is ds) else .bad := rfl
@[simp] theorem v_setsN (ds : List D) : setsD ρ [] ds = ρ := by cases ds <;> rfl
@[simp] theorem v_setsC (i : Nat) (is : List Nat) (d : D) (ds : List D) : setsD ρ (i :: is) (d :: ds) = (setsD ρ is ds).set i d := rfl
def lmR (i : Nat) (o : Option (D × List D)) (ρ : List D) : R D := match o with
  | some p => .ok p.1 (ρ.set i (.lst p.2))
  | none => .bad
@[simp] theorem lmR_some (i : Nat) (p : D × List D) : lmR i (some p) ρ = .ok p.1 (ρ.set i (.lst p.2)) := rfl
def lmD (i : Nat) (f : List D → D → Option (D × List D)) (d : D) (ρ : List D) : R D := match ρ.getD i .non with
  | .lst ds => lmR i (f ds d) ρ
  | _ => .bad
theorem lmD_lst {i : Nat} {f : List D → D → Option (D × List D)} {d : D} {ds : List D} (h : ρ.getD i .non = .lst ds) : lmD i f d ρ = lmR i (f ds d) ρ := by unfold lmD; rw [h]
@[simp] theorem v_lm (i : Nat) (f : List D → D → Option (D × List D)) (m : M D) : mLm i f m ρ = if isLst (ρ.getD i .non) then (m ρ).bind (lmD i f) else .bad := by
  unfold mLm
  cases h : isLst (ρ.getD i .non)
  · rfl
  · simp only [if_true]
    congr 1; funext d ρ
    unfold lmD lmR
    cases ρ.getD i .non with
    | lst ds => simp only; cases f ds d <;> rfl
    | _ => rfl
@[simp] theorem isLst_lst (ds : List D) : isLst (.lst ds) = true := rfl
@[simp] theorem v_lr (f : D → D → Option D) (mo m : M OV) : mLr f mo m ρ = (mo ρ).bind fun x ρ => if isLst (x.get ρ) then (m ρ).bind (fun y ρ => M.opt (f (x.get ρ) (y.get ρ)) ρ) else .bad := rfl
def setItR (i : Nat) (d j : D) (ρ : List D) : RS := match ρ.getD i .non, j with
  | .lst ds, .int j => match ixN ds.length j with
    | some n => .nx (ρ.set i (.lst (ds.set n d)))
    | none => .bad
  | _, _ => .bad
@[simp] theorem v_setIt (i : Nat) (m mi : M D) : sSetIt i m mi ρ = (m ρ).rs fun d ρ => (mi ρ).rs fun j ρ => setItR i d j ρ := rfl
theorem v_setItR (i : Nat) (d : D) (j : Int) (n : Nat) (ds : List D) (h : ρ.getD i .non = .lst ds) (hn : ixN ds.length j = some n) : setItR i d (.int j) ρ = .nx (ρ.set i (.lst (ds.set n d))) := by unfold setItR; rw [h]; simp [hn]
@[simp] theorem v_items (m : M D) : mItems m ρ = (m ρ).bind fun d => M.opt (itemsOf d) := rfl
@[simp] theorem v_rg (f : List D → Option (List D)) (m : M (List OV)) : mRg f m ρ = (m ρ).bind fun os ρ => M.opt (f (os.map (OV.get ρ))) ρ := rfl
@[simp] theorem v_en (m : M D) : mEn m ρ = (m ρ).bind fun d => M.opt ((seqOf d).map fun p => enD p.2) := rfl
@[simp] theorem v_zip (a b : M D) : mZip a b ρ = (a ρ).bind fun x ρ => (b ρ).bind fun y => M.opt ((seqOf x).bind fun p => (seqOf y).map fun q => zipD p.2 q.2) := rfl
@[simp] theorem v_sFor (m : M (List D)) (mg : MG) (b : MS) : sFor m mg b ρ = (m ρ).rs fun ds ρ => forL mg b ds ρ := rfl
@[simp] theorem v_forN (mg : MG) (b : MS) : forL mg b [] ρ = .nx ρ := rfl
theorem v_forC (mg : MG) (b : MS) (d : D) (ds : List D) : forL mg b (d :: ds) ρ = (ofO (mg d ρ)).then fun ρ => (b ρ).then fun ρ => forL mg b ds ρ := by
  rw [forL]; unfold ofO
  cases mg d ρ with
  | none => rfl
  | some ρ1 => simp only [then_nx]; cases b ρ1 <;> rfl
/-- a turn of a comprehension -/
def stepL (vs : List Nat) (mg : MG) (mt : M Bool) (me : M D) (d : D) (ρ : List D) : R (Option D) := match mg d ρ with
  | none => .bad
  | some ρ1 => (mt ρ1).bind fun c ρ2 => if c then (me ρ2).bind fun x ρ3 => .ok (some x) (restore ρ ρ3 vs) else .ok none (restore ρ ρ2 vs)
def consO (o : Option D) (xs : List D) : List D := match o with
  | some x => x :: xs
  | none => xs
@[simp] theorem v_compN (vs : List Nat) (mg : MG) (mt : M Bool) (me : M D) : compL vs mg mt me [] ρ = .ok [] ρ := rfl
theorem v_compC (vs : List Nat) (mg : MG) (mt : M Bool) (me : M D) (d : D) (ds : List D) (o : Option D) (ρ' : List D) (h : stepL vs mg mt me d ρ = .ok o ρ') : compL vs mg mt me (d :: ds) ρ = (compL vs mg mt me ds ρ').bind fun xs ρ => .ok (consO o xs) ρ := by
  unfold stepL at h
  rw [compL]
  cases h1 : mg d ρ with
  | none => rw [h1] at h; cases h
  | some ρ1 =>
    rw [h1] at h
    simp only at h ⊢
    cases h2 : mt ρ1 with
    | ex _ _ => rw [h2] at h; cases h
    | bad => rw [h2] at h; cases h
    | ok c ρ2 =>
      rw [h2] at h
      cases c with
      | false =>
        simp at h
        obtain ⟨rfl, rfl⟩ := h
        simp only
        cases h4 : compL vs mg mt me ds (restore ρ ρ2 vs) with
        | ok xs ρ4 => rfl
        | ex e ρ4 => exact (compL_nox _ _ _ _ h4).elim
        | bad => rfl
      | true =>
        simp at h ⊢
        cases h3 : me ρ2 with
        | ex _ _ => rw [h3] at h; cases h
        | bad => rw [h3] at h; cases h
        | ok x ρ3 =>
          rw [h3] at h
          simp at h ⊢
          obtain ⟨rfl, rfl⟩ := h
          cases h4 : compL vs mg mt me ds (restore ρ ρ3 vs) with
          | ok xs ρ4 => rfl
          | ex e ρ4 => exact (compL_nox _ _ _ _ h4).elim
          | bad => rfl
/-- a comprehension whose turns leave the environment -/
theorem comp_same {γ : Type} {vs : List Nat} {mg : MG} {mt : M Bool} {me : M D} (enc : γ → D) (f : γ → Option D) (xs : List γ) (h : ∀ x ∈ xs, stepL vs mg mt me (enc x) ρ = .ok (f x) ρ) : compL vs mg mt me (xs.map enc) ρ = .ok (xs.filterMap f) ρ := by
  induction xs with
  | nil => rfl
  | cons x xs ih =>
    rw [List.map_cons, v_compC vs mg mt me _ _ _ _ (h x List.mem_cons_self), ih fun y hy => h y (List.mem_cons_of_mem _ hy)]
    simp only [v_bind_ok]
    congr 1
    cases hf : f x <;> simp [consO, hf]
theorem comp_map {γ : Type} {vs : List Nat} {mg : MG} {mt : M Bool} {me : M D} (enc : γ → D) (f : γ → D) (xs : List γ) (h : ∀ x ∈ xs, stepL vs mg mt me (enc x) ρ = .ok (some (f x)) ρ) : compL vs mg mt me (xs.map enc) ρ = .ok (xs.map f) ρ := by
  rw [comp_same enc (fun x => some (f x)) xs h]
  simp
@[simp] theorem v_mLc (vs : List Nat) (mi : M (List D)) (mg : MG) (mt : M Bool) (me : M D) : mLc vs mi mg mt me ρ = (mi ρ).bind fun ds ρ => (compL vs mg mt me ds ρ).bind fun xs => M.opt (szL xs) := rfl
def step2L (vs vs1 : List Nat) (mg : MG) (mt : M Bool) (mi1 : M (List D)) (mg1 : MG) (mt1 : M Bool) (me : M D) (d : D) (ρ : List D) : R (List D) := match mg d ρ with
  | none => .bad
  | some ρ1 => (mt ρ1).bind fun c ρ2 => if c then (mi1 ρ2).bind fun es ρ3 => (compL vs1 mg1 mt1 me es ρ3).bind fun xs ρ4 => .ok xs (restore ρ ρ4 vs) else .ok [] (restore ρ ρ2 vs)
theorem v_comp2C (vs vs1 : List Nat) (mg : MG) (mt : M Bool) (mi1 : M (List D)) (mg1 : MG) (mt1 : M Bool) (me : M D) (d : D) (ds : List D) (o : List D) (ρ' : List D) (h : step2L vs vs1 mg mt mi1 mg1 mt1 me d ρ = .ok o ρ') : compL2 vs vs1 mg mt mi1 mg1 mt1 me (d :: ds) ρ = (compL2 vs vs1 mg mt mi1 mg1 mt1 me ds ρ').bind fun xs ρ => .ok (o ++ xs) ρ := by
  unfold step2L at h
  rw [compL2]
  cases h1 : mg d ρ with
  | none => rw [h1] at h; cases h
  | some ρ1 =>
    rw [h1] at h
    simp only at h ⊢
    cases h2 : mt ρ1 with
    | ex _ _ => rw [h2] at h; cases h
    | bad => rw [h2] at h; cases h
    | ok c ρ2 =>
      rw [h2] at h
      cases c with
      | false =>
        simp at h
        obtain ⟨rfl, rfl⟩ := h
        simp only
        cases h4 : compL2 vs vs1 mg mt mi1 mg1 mt1 me ds (restore ρ ρ2 vs) with
        | ok xs ρ4 => rfl
        | ex e ρ4 => exact (compL2_nox _ _ _ _ h4).elim
        | bad => rfl
      | true =>
        simp at h ⊢
        cases h3 : mi1 ρ2 with
        | ex _ _ => rw [h3] at h; cases h
        | bad => rw [h3] at h; cases h
        | ok es ρ3 =>
          rw [h3] at h
          simp at h ⊢
          cases h5 : compL vs1 mg1 mt1 me es ρ3 with
          | ex _ _ => rw [h5] at h; cases h
          | bad => rw [h5] at h; cases h
          | ok xs ρ4 =>
            rw [h5] at h
            simp at h ⊢
            obtain ⟨rfl, rfl⟩ := h
            cases h4 : compL2 vs vs1 mg mt mi1 mg1 mt1 me ds (restore ρ ρ4 vs) with
            | ok xs ρ4 => rfl
            | ex e ρ4 => exact (compL2_nox _ _ _ _ h4).elim
            | bad => rfl
theorem comp2_same {γ : Type} {vs vs1 : List Nat} {mg : MG} {mt : M Bool} {mi1 : M (List D)} {mg1 : MG} {mt1 : M Bool} {me : M D} (enc : γ → D) (f : γ → List D) (xs : List γ) (h : ∀ x ∈ xs, step2L vs vs1 mg mt mi1 mg1 mt1 me (enc x) ρ = .ok (f x) ρ) : compL2 vs vs1 mg mt mi1 mg1 mt1 me (xs.map enc) ρ = .ok (xs.flatMap f) ρ := by
  induction xs with
  | nil => rfl
  | cons x xs ih =>
    rw [List.map_cons, v_comp2C vs vs1 mg mt mi1 mg1 mt1 me _ _ _ _ (h x List.mem_cons_self), ih fun y hy => h y (List.mem_cons_of_mem _ hy)]
    rfl
@[simp] theorem v_mLc2 (vs vs1 : List Nat) (mi : M (List D)) (mg : MG) (mt : M Bool) (mi1 : M (List D)) (mg1 : MG) (mt1 : M Bool) (me : M D) : mLc2 vs vs1 mi mg mt mi1 mg1 mt1 me ρ = (mi ρ).bind fun ds ρ => (compL2 vs vs1 mg mt mi1 mg1 mt1 me ds ρ).bind fun xs => M.opt (szL xs) := rfl
@[simp] theorem v_tsNo : tsNo ρ = .ok true ρ := rfl
end
end Hs

namespace Hs
open PySem PySem.Spec L2

noncomputable instance : DecidableEq D := fun a b => Classical.propDecidable (a = b)
/-- plain data without truth values, at most n deep -/
def D.g : Nat → D → Bool
  | _, .non => true
  | _, .int _ => true
  | _, .str x => PyData.strOk x
  | n + 1, .lst xs => xs.all (D.g n)
  | n + 1, .tup xs => xs.all (D.g n)
  | _, _ => false
@[simp] theorem g_non (n : Nat) : D.g n .non = true := by cases n <;> rfl
@[simp] theorem g_int (n : Nat) (i : Int) : D.g n (.int i) = true := by cases n <;> rfl
@[simp] theorem g_str (n : Nat) (x : Str) : D.g n (.str x) = PyData.strOk x := by cases n <;> rfl
@[simp] theorem g_lst (n : Nat) (xs : List D) : D.g (n + 1) (.lst xs) = xs.all (D.g n) := rfl
@[simp] theorem g_tup (n : Nat) (xs : List D) : D.g (n + 1) (.tup xs) = xs.all (D.g n) := rfl
theorem depthAll_le {n : Nat} : ∀ {ds : List PyData}, (∀ d ∈ ds, d.depth ≤ n) → PyData.depthAll ds ≤ n
  | [], _ => by simp [PyData.depthAll]
  | d :: ds, h => by
    have h1 := h d List.mem_cons_self
    have h2 := depthAll_le (ds := ds) fun e he => h e (List.mem_cons_of_mem _ he)
    rw [PyData.depthAll]
    omega
theorem lay_all : ∀ {ds : List PyData}, (∀ d ∈ ds, d.canLay0 = true) → PyData.canLayAll0 ds = true
  | [], _ => rfl
  | d :: ds, h => by
    rw [PyData.canLayAll0, h d List.mem_cons_self, lay_all (ds := ds) fun e he => h e (List.mem_cons_of_mem _ he)]
    rfl
theorem g_lay : ∀ (n : Nat) (d : D), d.g n = true → d.py.canLay0 = true ∧ d.py.depth ≤ n
  | n, .non, _ => by simp [D.py, PyData.canLay0, PyData.depth]
  | n, .int _, _ => by simp [D.py, PyData.canLay0, PyData.depth]
  | n, .str x, h => by
    rw [g_str] at h
    simp [D.py, PyData.canLay0, PyData.depth, h]
  | n + 1, .lst xs, h => by
    rw [g_lst, List.all_eq_true] at h
    rw [py_lst, PyData.canLay0, PyData.depth]
    refine ⟨lay_all fun d hd => ?_, Nat.succ_le_succ (depthAll_le fun d hd => ?_)⟩
    · obtain ⟨e, he, rfl⟩ := List.mem_map.mp hd
      exact (g_lay n e (h e he)).1
    · obtain ⟨e, he, rfl⟩ := List.mem_map.mp hd
      exact (g_lay n e (h e he)).2
  | n + 1, .tup xs, h => by
    rw [g_tup, List.all_eq_true] at h
    rw [py_tup, PyData.canLay0, PyData.depth]
    refine ⟨lay_all fun d hd => ?_, Nat.succ_le_succ (depthAll_le fun d hd => ?_)⟩
    · obtain ⟨e, he, rfl⟩ := List.mem_map.mp hd
      exact (g_lay n e (h e he)).1
    · obtain ⟨e, he, rfl⟩ := List.mem_map.mp hd
      exact (g_lay n e (h e he)).2
  | 0, .lst _, h => by cases h
  | 0, .tup _, h => by cases h
  | 0, .bl _, h => by cases h
  | _ + 1, .bl _, h => by cases h
  | 0, .scr _, h => by cases h
  | _ + 1, .scr _, h => by cases h
  | 0, .dct _ _, h => by cases h
  | _ + 1, .dct _ _, h => by cases h
  | 0, .exc _ _, h => by cases h
  | _ + 1, .exc _ _, h => by cases h
  | 0, .ins _, h => by cases h
  | _ + 1, .ins _, h => by cases h
theorem g_sh {n : Nat} {d : D} (h : d.g n = true) (hn : n ≤ 64 := by decide) : d.sh = true := by
  obtain ⟨h1, h2⟩ := g_lay n d h
  unfold D.sh SeqAt.shaped
  rw [h1, Bool.true_and]
  exact decide_eq_true (by omega)
theorem eqvAll_map {xs ys : List D} (h : ∀ x ∈ xs, ∀ y ∈ ys, PyData.eqv x.py y.py = decide (x = y)) : PyData.eqvAll (xs.map D.py) (ys.map D.py) = decide (xs = ys) := by
  induction xs generalizing ys with
  | nil =>
    cases ys with
    | nil => simp [PyData.eqvAll]
    | cons y ys => simp [PyData.eqvAll]
  | cons x xs ih =>
    cases ys with
    | nil => simp [PyData.eqvAll]
    | cons y ys =>
      rw [List.map_cons, List.map_cons, PyData.eqvAll, h x List.mem_cons_self y List.mem_cons_self, ih fun a ha b hb => h a (List.mem_cons_of_mem _ ha) b (List.mem_cons_of_mem _ hb)]
      simp [Bool.decide_and]
theorem g_eqv : ∀ (n m : Nat) (d e : D), d.g n = true → e.g m = true → PyData.eqv d.py e.py = decide (d = e)
  | n, m, .lst xs, .lst ys, h, k => by
    cases n with
    | zero => cases h
    | succ n =>
      cases m with
      | zero => cases k
      | succ m =>
        rw [g_lst, List.all_eq_true] at h k
        rw [py_lst, py_lst, PyData.eqv, eqvAll_map fun x hx y hy => g_eqv n m x y (h x hx) (k y hy)]
        simp
  | n, m, .tup xs, .tup ys, h, k => by
    cases n with
    | zero => cases h
    | succ n =>
      cases m with
      | zero => cases k
      | succ m =>
        rw [g_tup, List.all_eq_true] at h k
        rw [py_tup, py_tup, PyData.eqv, eqvAll_map fun x hx y hy => g_eqv n m x y (h x hx) (k y hy)]
        simp
  | n, m, .non, .non, h, k => by simp [D.py, PyData.eqv]
  | n, m, .int i, .int j, h, k => by simp [D.py, PyData.eqv, Bool.beq_eq_decide_eq]
  | n, m, .str i, .str j, h, k => by simp [D.py, PyData.eqv, Bool.beq_eq_decide_eq]
  | n, m, .non, .int _, h, k => by simp [D.py, PyData.eqv]
  | n, m, .non, .str _, h, k => by simp [D.py, PyData.eqv]
  | n, m, .non, .lst _, h, k => by simp [D.py, PyData.eqv]
  | n, m, .non, .tup _, h, k => by simp [D.py, PyData.eqv]
  | n, m, .int _, .non, h, k => by simp [D.py, PyData.eqv]
  | n, m, .int _, .str _, h, k => by simp [D.py, PyData.eqv]
  | n, m, .int _, .lst _, h, k => by simp [D.py, PyData.eqv]
  | n, m, .int _, .tup _, h, k => by simp [D.py, PyData.eqv]
  | n, m, .str _, .non, h, k => by simp [D.py, PyData.eqv]
  | n, m, .str _, .int _, h, k => by simp [D.py, PyData.eqv]
  | n, m, .str _, .lst _, h, k => by simp [D.py, PyData.eqv]
  | n, m, .str _, .tup _, h, k => by simp [D.py, PyData.eqv]
  | n, m, .lst _, .non, h, k => by simp [D.py, PyData.eqv]
  | n, m, .lst _, .int _, h, k => by simp [D.py, PyData.eqv]
  | n, m, .lst _, .str _, h, k => by simp [D.py, PyData.eqv]
  | n, m, .lst _, .tup _, h, k => by simp [D.py, PyData.eqv]
  | n, m, .tup _, .non, h, k => by simp [D.py, PyData.eqv]
  | n, m, .tup _, .int _, h, k => by simp [D.py, PyData.eqv]
  | n, m, .tup _, .str _, h, k => by simp [D.py, PyData.eqv]
  | n, m, .tup _, .lst _, h, k => by simp [D.py, PyData.eqv]
  | n, m, .bl _, _, h, k => by cases n <;> cases h
  | n, m, .scr _, _, h, k => by cases n <;> cases h
  | n, m, .dct _ _, _, h, k => by cases n <;> cases h
  | n, m, .exc _ _, _, h, k => by cases n <;> cases h
  | n, m, .ins _, _, h, k => by cases n <;> cases h
  | n, m, .non, .bl _, h, k => by cases m <;> cases k
  | n, m, .non, .scr _, h, k => by cases m <;> cases k
  | n, m, .non, .dct _ _, h, k => by cases m <;> cases k
  | n, m, .non, .exc _ _, h, k => by cases m <;> cases k
  | n, m, .non, .ins _, h, k => by cases m <;> cases k
  | n, m, .int _, .bl _, h, k => by cases m <;> cases k
  | n, m, .int _, .scr _, h, k => by cases m <;> cases k
  | n, m, .int _, .dct _ _, h, k => by cases m <;> cases k
  | n, m, .int _, .exc _ _, h, k => by cases m <;> cases k
  | n, m, .int _, .ins _, h, k => by cases m <;> cases k
  | n, m, .str _, .bl _, h, k => by cases m <;> cases k
  | n, m, .str _, .scr _, h, k => by cases m <;> cases k
  | n, m, .str _, .dct _ _, h, k => by cases m <;> cases k
  | n, m, .str _, .exc _ _, h, k => by cases m <;> cases k
  | n, m, .str _, .ins _, h, k => by cases m <;> cases k
  | n, m, .lst _, .bl _, h, k => by cases m <;> cases k
  | n, m, .lst _, .scr _, h, k => by cases m <;> cases k
  | n, m, .lst _, .dct _ _, h, k => by cases m <;> cases k
  | n, m, .lst _, .exc _ _, h, k => by cases m <;> cases k
  | n, m, .lst _, .ins _, h, k => by cases m <;> cases k
  | n, m, .tup _, .bl _, h, k => by cases m <;> cases k
  | n, m, .tup _, .scr _, h, k => by cases m <;> cases k
  | n, m, .tup _, .dct _ _, h, k => by cases m <;> cases k
  | n, m, .tup _, .exc _ _, h, k => by cases m <;> cases k
  | n, m, .tup _, .ins _, h, k => by cases m <;> cases k
theorem eqv_g {n m : Nat} {d e : D} (h : d.g n = true) (k : e.g m = true) : d.eqv e = decide (d = e) := g_eqv n m d e h k
theorem dEq_g {n m : Nat} {d e : D} (h : d.g n = true) (k : e.g m = true) (hn : n ≤ 64 := by decide) (hm : m ≤ 64 := by decide) : dEq d e = some (.bl (decide (d = e))) := by
  unfold dEq
  rw [g_sh h hn, g_sh k hm, eqv_g h k]
  rfl
theorem dNe_g {n m : Nat} {d e : D} (h : d.g n = true) (k : e.g m = true) (hn : n ≤ 64 := by decide) (hm : m ≤ 64 := by decide) : dNe d e = some (.bl (!decide (d = e))) := by
  unfold dNe
  rw [g_sh h hn, g_sh k hm, eqv_g h k]
  rfl
theorem any_g {n m : Nat} {xs : List D} {x : D} (h : xs.all (D.g n) = true) (k : x.g m = true) : (xs.any fun z => z.eqv x) = decide (x ∈ xs) := by
  rw [List.all_eq_true] at h
  induction xs with
  | nil => simp
  | cons y ys ih =>
    rw [List.any_cons, eqv_g (h y List.mem_cons_self) k, ih fun z hz => h z (List.mem_cons_of_mem _ hz)]
    rw [← Bool.decide_or]
    simp only [List.mem_cons]
    congr 1
    rw [@eq_comm _ y x]
theorem dIn_lst {n m : Nat} {xs : List D} {x : D} (h : xs.all (D.g n) = true) (k : x.g m = true) (hn : n < 64 := by decide) (hm : m ≤ 64 := by decide) : dIn x (.lst xs) = some (.bl (decide (x ∈ xs))) := by
  unfold dIn
  simp only [g_sh k hm, g_sh (show (D.lst xs).g (n + 1) = true from h) hn, any_g h k, Bool.and_self, if_true]
theorem dIn_tup {n m : Nat} {xs : List D} {x : D} (h : xs.all (D.g n) = true) (k : x.g m = true) (hn : n < 64 := by decide) (hm : m ≤ 64 := by decide) : dIn x (.tup xs) = some (.bl (decide (x ∈ xs))) := by
  unfold dIn
  simp only [g_sh k hm, g_sh (show (D.tup xs).g (n + 1) = true from h) hn, any_g h k, Bool.and_self, if_true]
theorem dNotIn_lst {n m : Nat} {xs : List D} {x : D} (h : xs.all (D.g n) = true) (k : x.g m = true) (hn : n < 64 := by decide) (hm : m ≤ 64 := by decide) : dNotIn x (.lst xs) = some (.bl (!decide (x ∈ xs))) := by
  unfold dNotIn
  simp only [g_sh k hm, g_sh (show (D.lst xs).g (n + 1) = true from h) hn, any_g h k, Bool.and_self, if_true]
theorem dIn_sign {c : Nat} {z : Str} : dIn (.str ⟨#[c]⟩) (.str z) = some (.bl (decide (c ∈ z.cps.toList))) := by
  unfold dIn; simp
@[simp] theorem d_one (f : D → Option D) (d : D) : one1 f [d] = f d := rfl
@[simp] theorem d_lenL (xs : List D) : dLen (.lst xs) = some (.int xs.length) := rfl
@[simp] theorem d_lenT (xs : List D) : dLen (.tup xs) = some (.int xs.length) := rfl
@[simp] theorem d_lenC (xs : List Int) : dLen (.scr xs) = some (.int xs.length) := rfl
@[simp] theorem d_lenS {z : Str} (h : z.length ≤ SZ) : dLen (.str z) = some (.int z.length) := by simp [dLen, h]
@[simp] theorem d_add (i j : Int) : dAdd (.int i) (.int j) = some (.int (i + j)) := rfl
@[simp] theorem d_sub (i j : Int) : dSub (.int i) (.int j) = some (.int (i - j)) := rfl
@[simp] theorem d_neg (i : Int) : dNeg (.int i) = some (.int (-i)) := rfl
@[simp] theorem d_leI (i j : Int) : dLe (.int i) (.int j) = some (.bl (decide (i ≤ j))) := rfl
@[simp] theorem d_geI (i j : Int) : dGe (.int i) (.int j) = some (.bl (decide (j ≤ i))) := rfl
@[simp] theorem d_gtI (i j : Int) : dGt (.int i) (.int j) = some (.bl (decide (j < i))) := rfl
@[simp] theorem d_ltI (i j : Int) : dLtX (.int i) (.int j) = some (.bl (decide (i < j))) := rfl
@[simp] theorem d_ltS (i j : Str) : dLtX (.str i) (.str j) = some (.bl (decide (i.cps.toList < j.cps.toList))) := rfl
theorem d_mulI {i j : Int} (h : mulOk i j = true) : dMul (.int i) (.int j) = some (.int (i * j)) := by simp [dMul, h]
theorem mulOk_r {i j : Int} (h1 : -(2 ^ 64) < j) (h2 : j < 2 ^ 64) : mulOk i j = true := by
  unfold mulOk; rw [smallB_iff.mpr ⟨h1, h2⟩]; simp
theorem mulOk_l {i j : Int} (h1 : -(2 ^ 64) < i) (h2 : i < 2 ^ 64) : mulOk i j = true := by
  unfold mulOk; rw [smallB_iff.mpr ⟨h1, h2⟩]; simp
theorem d_modI {i j : Int} (h : 0 < j) : dMod (.int i) (.int j) = some (.int (i % j)) := by simp [dMod, h]
theorem d_divI {i j : Int} (h : 0 < j) (h2 : j < 1073741824) : dDiv (.int i) (.int j) = some (.int (i / j)) := by simp [dDiv, h, h2]
theorem d_divB {i j : Int} (h : 0 < j) (h2 : j.natAbs.log2 < 9000) : dDiv (.int i) (.int j) = some (.int (i / j)) := by simp [dDiv, h, h2]
@[simp] theorem d_isN (d : D) : dIsN d .non = some (.bl (isNonD d)) := rfl
@[simp] theorem d_notN (d : D) : dNotN d .non = some (.bl (!isNonD d)) := rfl
@[simp] theorem d_isB (a b : Bool) : dIsN (.bl a) (.bl b) = some (.bl (a == b)) := rfl
@[simp] theorem d_notB (a b : Bool) : dNotN (.bl a) (.bl b) = some (.bl (!(a == b))) := rfl
@[simp] theorem d_non (d : D) : isNonD .non = true := rfl
@[simp] theorem d_nonI (i : Int) : isNonD (.int i) = false := rfl
@[simp] theorem d_nonS (i : Str) : isNonD (.str i) = false := rfl
@[simp] theorem d_nonL (i : List D) : isNonD (.lst i) = false := rfl
@[simp] theorem d_nonT (i : List D) : isNonD (.tup i) = false := rfl
theorem bls_map (bs : List Bool) : bls (bs.map D.bl) = some bs := by
  induction bs with
  | nil => rfl
  | cons b bs ih => rw [List.map_cons, bls, ih]; rfl
theorem ints_map (ns : List Int) : intsD (ns.map D.int) = some ns := by
  induction ns with
  | nil => rfl
  | cons b bs ih => rw [List.map_cons, intsD, ih]; rfl
theorem d_all (bs : List Bool) : dAll (.lst (bs.map D.bl)) = some (.bl (bs.all id)) := by simp [dAll, bls_map]
theorem d_allM {γ : Type} (p : γ → Bool) (xs : List γ) : dAll (.lst (xs.map fun x => D.bl (p x))) = some (.bl (xs.all p)) := by
  have e : (xs.map fun x => D.bl (p x)) = (xs.map p).map D.bl := by rw [List.map_map]; rfl
  rw [e, d_all, List.all_map]
  rfl
theorem d_anyM {γ : Type} (p : γ → Bool) (xs : List γ) : dAny (.lst (xs.map fun x => D.bl (p x))) = some (.bl (xs.any p)) := by
  have e : (xs.map fun x => D.bl (p x)) = (xs.map p).map D.bl := by rw [List.map_map]; rfl
  rw [e]
  have q : dAny (.lst ((xs.map p).map D.bl)) = (bls ((xs.map p).map D.bl)).map fun bs => D.bl (bs.any id) := rfl
  rw [q, bls_map, Option.map_some, List.any_map]
  rfl
@[simp] theorem d_tupleL (xs : List D) : dTuple (.lst xs) = some (.tup xs) := rfl
@[simp] theorem d_tupleT (xs : List D) : dTuple (.tup xs) = some (.tup xs) := rfl
@[simp] theorem d_listL (xs : List D) : dList (.lst xs) = some (.lst xs) := rfl
@[simp] theorem d_listT (xs : List D) : dList (.tup xs) = some (.lst xs) := rfl
@[simp] theorem d_intI (i : Int) : dInt (.int i) = some (.int i) := rfl
@[simp] theorem d_intB (b : Bool) : dInt (.bl b) = some (.int (if b then 1 else 0)) := rfl
@[simp] theorem d_itemsL (xs : List D) : itemsOf (.lst xs) = some xs := rfl
@[simp] theorem d_itemsT (xs : List D) : itemsOf (.tup xs) = some xs := rfl
@[simp] theorem d_itemsS (x : Str) : itemsOf (.str x) = some (x.cps.toList.map fun c => .str ⟨#[c]⟩) := rfl
@[simp] theorem d_seqL (xs : List D) : seqOf (.lst xs) = some (true, xs) := rfl
@[simp] theorem d_seqT (xs : List D) : seqOf (.tup xs) = some (false, xs) := rfl
@[simp] theorem d_max2 (i j : Int) : dMax2 [.int i, .int j] = some (.int (if j > i then j else i)) := rfl
@[simp] theorem d_min2 (i j : Int) : dMin2 [.int i, .int j] = some (.int (if j < i then j else i)) := rfl
@[simp] theorem d_addL {a b : List D} (h : a.length + b.length ≤ SZ) : dAdd (.lst a) (.lst b) = some (.lst (a ++ b)) := by unfold dAdd; simp [h]
@[simp] theorem d_addT {a b : List D} (h : a.length + b.length ≤ SZ) : dAdd (.tup a) (.tup b) = some (.tup (a ++ b)) := by unfold dAdd; simp [h]
@[simp] theorem d_app {ds : List D} {d : D} (h : ds.length < SZ) : fApp ds d = some (.non, ds ++ [d]) := by unfold fApp; rw [if_pos h]
@[simp] theorem d_ixL (xs : List D) (i : Int) : dIx (.lst xs) (.int i) = atI xs i := rfl
@[simp] theorem d_ixT (xs : List D) (i : Int) : dIx (.tup xs) (.int i) = atI xs i := rfl
@[simp] theorem d_ixC (xs : List Int) (i : Int) : dIx (.scr xs) (.int i) = (atI xs i).map .int := rfl
@[simp] theorem d_slL (xs : List D) (l u : Option Int) : dSl (.lst xs) l u = some (.lst (cutD xs l u)) := rfl
@[simp] theorem d_slT (xs : List D) (l u : Option Int) : dSl (.tup xs) l u = some (.tup (cutD xs l u)) := rfl
theorem atI_nat {α : Type} (xs : List α) (i : Nat) : atI xs (i : Nat) = xs[i]? := by
  unfold atI ixN
  by_cases h : i < xs.length
  · simp [h]
  · rw [if_pos (by omega), if_neg (by omega), List.getElem?_eq_none (by omega)]
    rfl
@[simp] theorem atI_0 {α : Type} (x : α) (xs : List α) : atI (x :: xs) 0 = some x := by
  have := atI_nat (x :: xs) 0
  simpa using this
@[simp] theorem atI_1 {α : Type} (x y : α) (xs : List α) : atI (x :: y :: xs) 1 = some y := by
  have := atI_nat (x :: y :: xs) 1
  simpa using this
@[simp] theorem atI_2 {α : Type} (x y z : α) (xs : List α) : atI (x :: y :: z :: xs) 2 = some z := by
  have := atI_nat (x :: y :: z :: xs) 2
  simpa using this
theorem cut_from {α : Type} (xs : List α) (k : Nat) : cutD xs (some (k : Int)) none = xs.drop k := by
  unfold cutD
  rw [HT.sIx_nat, HT.sIx_none]
  by_cases h : k ≤ xs.length
  · rw [Nat.min_eq_left h, List.take_of_length_le (by simp)]
  · rw [Nat.min_eq_right (by omega), List.drop_length, List.drop_eq_nil_of_le (by omega)]; simp
theorem cut_to {α : Type} (xs : List α) (k : Nat) : cutD xs none (some (k : Int)) = xs.take k := by
  unfold cutD
  rw [HT.sIx_nat, HT.sIx_none, List.drop_zero, Nat.sub_zero]
  by_cases h : k ≤ xs.length
  · rw [Nat.min_eq_left h]
  · rw [Nat.min_eq_right (by omega), List.take_length, List.take_of_length_le (by omega)]
theorem k_non_int : kitB "NoneType" "int" = some false := by decide +kernel
@[simp] theorem isi_non_int : dIsi "int" .non = some (.bl false) := by show (kitB "NoneType" "int").map D.bl = _; rw [k_non_int]; rfl
theorem k_bl_int : kitB "bool" "int" = some true := by decide +kernel
@[simp] theorem isi_bl_int (x : Bool) : dIsi "int" (.bl x) = some (.bl true) := by show (kitB "bool" "int").map D.bl = _; rw [k_bl_int]; rfl
theorem k_int_int : kitB "int" "int" = some true := by decide +kernel
@[simp] theorem isi_int_int (x : Int) : dIsi "int" (.int x) = some (.bl true) := by show (kitB "int" "int").map D.bl = _; rw [k_int_int]; rfl
theorem k_str_int : kitB "str" "int" = some false := by decide +kernel
@[simp] theorem isi_str_int (x : Str) : dIsi "int" (.str x) = some (.bl false) := by show (kitB "str" "int").map D.bl = _; rw [k_str_int]; rfl
theorem k_lst_int : kitB "list" "int" = some false := by decide +kernel
@[simp] theorem isi_lst_int (x : List D) : dIsi "int" (.lst x) = some (.bl false) := by show (kitB "list" "int").map D.bl = _; rw [k_lst_int]; rfl
theorem k_tup_int : kitB "tuple" "int" = some false := by decide +kernel
@[simp] theorem isi_tup_int (x : List D) : dIsi "int" (.tup x) = some (.bl false) := by show (kitB "tuple" "int").map D.bl = _; rw [k_tup_int]; rfl
theorem k_dct_int : kitB "dict" "int" = some false := by decide +kernel
@[simp] theorem isi_dct_int (x y : List D) : dIsi "int" (.dct x y) = some (.bl false) := by show (kitB "dict" "int").map D.bl = _; rw [k_dct_int]; rfl
theorem k_non_bool : kitB "NoneType" "bool" = some false := by decide +kernel
@[simp] theorem isi_non_bool : dIsi "bool" .non = some (.bl false) := by show (kitB "NoneType" "bool").map D.bl = _; rw [k_non_bool]; rfl
theorem k_bl_bool : kitB "bool" "bool" = some true := by decide +kernel
@[simp] theorem isi_bl_bool (x : Bool) : dIsi "bool" (.bl x) = some (.bl true) := by show (kitB "bool" "bool").map D.bl = _; rw [k_bl_bool]; rfl
theorem k_int_bool : kitB "int" "bool" = some false := by decide +kernel
@[simp] theorem isi_int_bool (x : Int) : dIsi "bool" (.int x) = some (.bl false) := by show (kitB "int" "bool").map D.bl = _; rw [k_int_bool]; rfl
theorem k_str_bool : kitB "str" "bool" = some false := by decide +kernel
@[simp] theorem isi_str_bool (x : Str) : dIsi "bool" (.str x) = some (.bl false) := by show (kitB "str" "bool").map D.bl = _; rw [k_str_bool]; rfl
theorem k_lst_bool : kitB "list" "bool" = some false := by decide +kernel
@[simp] theorem isi_lst_bool (x : List D) : dIsi "bool" (.lst x) = some (.bl false) := by show (kitB "list" "bool").map D.bl = _; rw [k_lst_bool]; rfl
theorem k_tup_bool : kitB "tuple" "bool" = some false := by decide +kernel
@[simp] theorem isi_tup_bool (x : List D) : dIsi "bool" (.tup x) = some (.bl false) := by show (kitB "tuple" "bool").map D.bl = _; rw [k_tup_bool]; rfl
theorem k_dct_bool : kitB "dict" "bool" = some false := by decide +kernel
@[simp] theorem isi_dct_bool (x y : List D) : dIsi "bool" (.dct x y) = some (.bl false) := by show (kitB "dict" "bool").map D.bl = _; rw [k_dct_bool]; rfl
theorem k_non_str : kitB "NoneType" "str" = some false := by decide +kernel
@[simp] theorem isi_non_str : dIsi "str" .non = some (.bl false) := by show (kitB "NoneType" "str").map D.bl = _; rw [k_non_str]; rfl
theorem k_bl_str : kitB "bool" "str" = some false := by decide +kernel
@[simp] theorem isi_bl_str (x : Bool) : dIsi "str" (.bl x) = some (.bl false) := by show (kitB "bool" "str").map D.bl = _; rw [k_bl_str]; rfl
theorem k_int_str : kitB "int" "str" = some false := by decide +kernel
@[simp] theorem isi_int_str (x : Int) : dIsi "str" (.int x) = some (.bl false) := by show (kitB "int" "str").map D.bl = _; rw [k_int_str]; rfl
theorem k_str_str : kitB "str" "str" = some true := by decide +kernel
@[simp] theorem isi_str_str (x : Str) : dIsi "str" (.str x) = some (.bl true) := by show (kitB "str" "str").map D.bl = _; rw [k_str_str]; rfl
theorem k_lst_str : kitB "list" "str" = some false := by decide +kernel
@[simp] theorem isi_lst_str (x : List D) : dIsi "str" (.lst x) = some (.bl false) := by show (kitB "list" "str").map D.bl = _; rw [k_lst_str]; rfl
theorem k_tup_str : kitB "tuple" "str" = some false := by decide +kernel
@[simp] theorem isi_tup_str (x : List D) : dIsi "str" (.tup x) = some (.bl false) := by show (kitB "tuple" "str").map D.bl = _; rw [k_tup_str]; rfl
theorem k_dct_str : kitB "dict" "str" = some false := by decide +kernel
@[simp] theorem isi_dct_str (x y : List D) : dIsi "str" (.dct x y) = some (.bl false) := by show (kitB "dict" "str").map D.bl = _; rw [k_dct_str]; rfl
theorem k_non_tuple : kitB "NoneType" "tuple" = some false := by decide +kernel
@[simp] theorem isi_non_tuple : dIsi "tuple" .non = some (.bl false) := by show (kitB "NoneType" "tuple").map D.bl = _; rw [k_non_tuple]; rfl
theorem k_bl_tuple : kitB "bool" "tuple" = some false := by decide +kernel
@[simp] theorem isi_bl_tuple (x : Bool) : dIsi "tuple" (.bl x) = some (.bl false) := by show (kitB "bool" "tuple").map D.bl = _; rw [k_bl_tuple]; rfl
theorem k_int_tuple : kitB "int" "tuple" = some false := by decide +kernel
@[simp] theorem isi_int_tuple (x : Int) : dIsi "tuple" (.int x) = some (.bl false) := by show (kitB "int" "tuple").map D.bl = _; rw [k_int_tuple]; rfl
theorem k_str_tuple : kitB "str" "tuple" = some false := by decide +kernel
@[simp] theorem isi_str_tuple (x : Str) : dIsi "tuple" (.str x) = some (.bl false) := by show (kitB "str" "tuple").map D.bl = _; rw [k_str_tuple]; rfl
theorem k_lst_tuple : kitB "list" "tuple" = some false := by decide +kernel
@[simp] theorem isi_lst_tuple (x : List D) : dIsi "tuple" (.lst x) = some (.bl false) := by show (kitB "list" "tuple").map D.bl = _; rw [k_lst_tuple]; rfl
theorem k_tup_tuple : kitB "tuple" "tuple" = some true := by decide +kernel
@[simp] theorem isi_tup_tuple (x : List D) : dIsi "tuple" (.tup x) = some (.bl true) := by show (kitB "tuple" "tuple").map D.bl = _; rw [k_tup_tuple]; rfl
theorem k_dct_tuple : kitB "dict" "tuple" = some false := by decide +kernel
@[simp] theorem isi_dct_tuple (x y : List D) : dIsi "tuple" (.dct x y) = some (.bl false) := by show (kitB "dict" "tuple").map D.bl = _; rw [k_dct_tuple]; rfl
theorem k_non_list : kitB "NoneType" "list" = some false := by decide +kernel
@[simp] theorem isi_non_list : dIsi "list" .non = some (.bl false) := by show (kitB "NoneType" "list").map D.bl = _; rw [k_non_list]; rfl
theorem k_bl_list : kitB "bool" "list" = some false := by decide +kernel
@[simp] theorem isi_bl_list (x : Bool) : dIsi "list" (.bl x) = some (.bl false) := by show (kitB "bool" "list").map D.bl = _; rw [k_bl_list]; rfl
theorem k_int_list : kitB "int" "list" = some false := by decide +kernel
@[simp] theorem isi_int_list (x : Int) : dIsi "list" (.int x) = some (.bl false) := by show (kitB "int" "list").map D.bl = _; rw [k_int_list]; rfl
theorem k_str_list : kitB "str" "list" = some false := by decide +kernel
@[simp] theorem isi_str_list (x : Str) : dIsi "list" (.str x) = some (.bl false) := by show (kitB "str" "list").map D.bl = _; rw [k_str_list]; rfl
theorem k_lst_list : kitB "list" "list" = some true := by decide +kernel
@[simp] theorem isi_lst_list (x : List D) : dIsi "list" (.lst x) = some (.bl true) := by show (kitB "list" "list").map D.bl = _; rw [k_lst_list]; rfl
theorem k_tup_list : kitB "tuple" "list" = some false := by decide +kernel
@[simp] theorem isi_tup_list (x : List D) : dIsi "list" (.tup x) = some (.bl false) := by show (kitB "tuple" "list").map D.bl = _; rw [k_tup_list]; rfl
theorem k_dct_list : kitB "dict" "list" = some false := by decide +kernel
@[simp] theorem isi_dct_list (x y : List D) : dIsi "list" (.dct x y) = some (.bl false) := by show (kitB "dict" "list").map D.bl = _; rw [k_dct_list]; rfl
theorem k_non_dict : kitB "NoneType" "dict" = some false := by decide +kernel
@[simp] theorem isi_non_dict : dIsi "dict" .non = some (.bl false) := by show (kitB "NoneType" "dict").map D.bl = _; rw [k_non_dict]; rfl
theorem k_bl_dict : kitB "bool" "dict" = some false := by decide +kernel
@[simp] theorem isi_bl_dict (x : Bool) : dIsi "dict" (.bl x) = some (.bl false) := by show (kitB "bool" "dict").map D.bl = _; rw [k_bl_dict]; rfl
theorem k_int_dict : kitB "int" "dict" = some false := by decide +kernel
@[simp] theorem isi_int_dict (x : Int) : dIsi "dict" (.int x) = some (.bl false) := by show (kitB "int" "dict").map D.bl = _; rw [k_int_dict]; rfl
theorem k_str_dict : kitB "str" "dict" = some false := by decide +kernel
@[simp] theorem isi_str_dict (x : Str) : dIsi "dict" (.str x) = some (.bl false) := by show (kitB "str" "dict").map D.bl = _; rw [k_str_dict]; rfl
theorem k_lst_dict : kitB "list" "dict" = some false := by decide +kernel
@[simp] theorem isi_lst_dict (x : List D) : dIsi "dict" (.lst x) = some (.bl false) := by show (kitB "list" "dict").map D.bl = _; rw [k_lst_dict]; rfl
theorem k_tup_dict : kitB "tuple" "dict" = some false := by decide +kernel
@[simp] theorem isi_tup_dict (x : List D) : dIsi "dict" (.tup x) = some (.bl false) := by show (kitB "tuple" "dict").map D.bl = _; rw [k_tup_dict]; rfl
theorem k_dct_dict : kitB "dict" "dict" = some true := by decide +kernel
@[simp] theorem isi_dct_dict (x y : List D) : dIsi "dict" (.dct x y) = some (.bl true) := by show (kitB "dict" "dict").map D.bl = _; rw [k_dct_dict]; rfl
end Hs

namespace Hs
open PySem PySem.Spec L2

@[simp] theorem rf_rt (d : D) (ρ : List D) : (RS.rt d ρ).rf = .ok d (ρ.getD 0 .non) := rfl
@[simp] theorem rf_nx (ρ : List D) : (RS.nx ρ).rf = .ok .non (ρ.getD 0 .non) := rfl
@[simp] theorem rf_ex (e : Ex) (ρ : List D) : (RS.ex e ρ).rf = .ex e (ρ.getD 0 .non) := rfl
@[simp] theorem v_fn (n m : Nat) (ms : MS) (ds : List D) : fnOf n m ms ds = if ds.length = n then (ms (ds ++ List.replicate m .non)).rf else .bad := rfl
@[simp] theorem sz0 : 0 ≤ SZ := Nat.zero_le _
@[simp] theorem sz_l (n : Nat) (h : n ≤ 1000000) : n ≤ SZ := by unfold SZ; omega
theorem szL_ok {xs : List D} (h : xs.length ≤ 1000000) : szL xs = some (.lst xs) := by unfold szL; rw [if_pos (sz_l _ h)]
structure Sg where
  nm : Str
  ears : List (Str × Int)
  tab : List Int
structure Ch where
  many : Int
  crew : List Sg
def eEar (p : Str × Int) : D := .tup [.str p.1, .int p.2]
def eLn (ns : List Int) : D := .tup (ns.map .int)
def eSg (s : Sg) : D := .tup [.str s.nm, .tup (s.ears.map eEar), eLn s.tab]
def eCh (c : Ch) : D := .tup [.int c.many, .tup (c.crew.map eSg)]
def eSt (st : List (List Int)) : D := .tup (st.map eLn)
def smallS : Str := "abcdefghijklmnopqrstuvwxyz"
def isWord (s : Str) : Bool := decide (1 ≤ s.length) && decide (s.length ≤ 8) && s.cps.toList.all fun c => decide (c ∈ smallS.cps.toList)
def strLt (a b : Str) : Bool := decide (a.cps.toList < b.cps.toList)
def earLt (p q : Str × Int) : Bool := if p.1 = q.1 then decide (p.2 < q.2) else strLt p.1 q.1
def riseL {α : Type} (lt : α → α → Bool) : List α → Bool
  | x :: y :: r => lt x y && riseL lt (y :: r)
  | _ => true
def isEar (p : Str × Int) : Bool := isWord p.1 && (decide (1 ≤ p.2) && decide (p.2 ≤ 3))
def inR (m i : Int) : Bool := decide (0 ≤ i) && decide (i ≤ m - 1)
def places (m : Int) (k : Nat) : Int := if k = 0 then 1 else if k = 1 then m else m * m
def okEars (e : List (Str × Int)) : Bool := decide (e.length ≤ 2) && (e.all isEar && riseL earLt e)
def okSg (m : Int) (s : Sg) : Bool := isWord s.nm && okEars s.ears && (decide ((s.tab.length : Int) = places m s.ears.length) && s.tab.all (inR m))
def Ch.nms (c : Ch) : List Str := c.crew.map Sg.nm
def okCh (c : Ch) : Bool := (decide (2 ≤ c.many) && decide (c.many ≤ 4)) && (decide (1 ≤ c.crew.length) && decide (c.crew.length ≤ 4)) && (c.crew.all (okSg c.many) && riseL strLt c.nms) && c.crew.all fun s => s.ears.all fun p => decide (p.1 ∈ c.nms)
theorem word_ok {s : Str} (h : isWord s = true) : PyData.strOk s = true := by
  unfold isWord at h
  simp only [Bool.and_eq_true, List.all_eq_true, decide_eq_true_eq] at h
  unfold PyData.strOk
  rw [← Array.all_toList, List.all_eq_true]
  intro c hc
  have := h.2 c hc
  have hs : ∀ c ∈ smallS.cps.toList, c < 0x110000 := by decide +kernel
  exact decide_eq_true (hs c this)
theorem word_len {s : Str} (h : isWord s = true) : s.length ≤ SZ := by
  unfold isWord at h
  simp only [Bool.and_eq_true, decide_eq_true_eq] at h
  have := h.1.2
  unfold SZ; omega
theorem r_is_whole_int (i lo hi : Int) : r_is_whole [.int i, .int lo, .int hi] = .ok (.bl (decide (lo ≤ i) && decide (i ≤ hi))) (.int i) := by
  simp only [r_is_whole, m_is_whole]
  simp
  by_cases h : lo ≤ i <;> simp [h]
theorem r_are_lines_ints (ns : List Int) (k many : Int) (h : ns.length ≤ 1000000) : r_are_lines [eLn ns, .int k, .int many] = .ok (.bl (decide ((ns.length : Int) = k) && ns.all (inR many))) (eLn ns) := by
  simp only [r_are_lines, m_are_lines, eLn]
  simp [dEq_g (n := 0) (m := 0)]
  by_cases hk : (ns.length : Int) = k
  · simp [hk]
    rw [comp_map (enc := D.int) (f := fun i => .bl (inR many i)) ns (fun i _ => by simp [stepL, r_is_whole_int, restore, inR])]
    simp [szL_ok, h, d_allM]
  · simp [hk]
theorem r_is_word_str (s : Str) (h : s.length ≤ 1000000) : r_is_word [.str s] = .ok (.bl (isWord s)) (.str s) := by
  simp only [r_is_word, m_is_word]
  simp [h]
  unfold isWord
  by_cases h1 : 1 ≤ s.length
  · have h1' : (1 : Int) ≤ s.length := by omega
    simp [h1, h1']
    by_cases h2 : s.length ≤ 8
    · have h2' : (s.length : Int) ≤ 8 := by omega
      simp [h2, h2']
      rw [comp_map (enc := fun c => D.str ⟨#[c]⟩) (f := fun c => .bl (decide (c ∈ smallS.cps.toList))) s.cps.toList (fun c _ => by simp [stepL, restore, dIn_sign, smallS])]
      have hl : s.cps.toList.length ≤ 1000000 := by simpa [Str.length] using h
      have hsz : szL (s.cps.toList.map fun c => .bl (decide (c ∈ smallS.cps.toList))) = some (.lst (s.cps.toList.map fun c => .bl (decide (c ∈ smallS.cps.toList)))) := szL_ok (by simpa using hl)
      simp only [v_bind_ok, hsz, v_opt_some, d_allM]
      simp [d_allM]
    · have h2' : ¬ (s.length : Int) ≤ 8 := by omega
      simp [h2, h2']
  · have h1' : ¬ (1 : Int) ≤ s.length := by omega
    simp [h1, h1']
end Hs

namespace Hs
open PySem PySem.Spec L2

theorem zip_map {α β : Type} (f : α → D) (g : β → D) : ∀ (xs : List α) (ys : List β), zipD (xs.map f) (ys.map g) = (xs.zip ys).map fun p => .tup [f p.1, g p.2]
  | [], _ => rfl
  | _ :: _, [] => rfl
  | x :: xs, y :: ys => by
    have := zip_map f g xs ys
    unfold zipD at this ⊢
    simp [this]
theorem en_map {α : Type} (f : α → D) (xs : List α) : enD (xs.map f) = xs.zipIdx.map fun p => .tup [.int p.2, f p.1] := by
  unfold enD
  apply List.ext_getElem
  · simp
  · intro i h1 h2
    simp at h1 h2 ⊢
    simp [List.getD_eq_getElem?_getD, h2]
theorem rise_zip {α : Type} (lt : α → α → Bool) : ∀ xs : List α, (xs.zip xs.tail).all (fun p => lt p.1 p.2) = riseL lt xs
  | [] => rfl
  | [x] => rfl
  | x :: y :: r => by
    have := rise_zip lt (y :: r)
    simp only [List.tail_cons] at this ⊢
    rw [List.zip_cons_cons, List.all_cons, this, riseL]
theorem drop1_map {α β : Type} (f : α → β) (xs : List α) : cutD (xs.map f) (some 1) none = xs.tail.map f := by
  have := cut_from (xs.map f) 1
  cases xs <;> simpa using this
theorem r_rise_strs (xs : List Str) (h : xs.length ≤ 1000000) : r_rise [.lst (xs.map .str)] = .ok (.bl (riseL strLt xs)) (.lst (xs.map .str)) := by
  simp only [r_rise, m_rise]
  simp [drop1_map, zip_map, -List.map_tail]
  rw [comp_map (enc := fun p : Str × Str => D.tup [.str p.1, .str p.2]) (f := fun p => .bl (strLt p.1 p.2)) (xs.zip xs.tail) (fun p _ => by simp [stepL, restore, strLt])]
  have hl : (xs.zip xs.tail).length ≤ 1000000 := by simp; omega
  simp
  rw [szL_ok (by simpa using hl)]
  simp [d_allM, rise_zip]
theorem ear_lt (p q : Str × Int) : (eEar p).lt (eEar q) = earLt p q := by
  unfold D.lt eEar
  rw [py_tup, py_tup]
  simp only [List.map_cons, List.map_nil]
  rw [show (D.str p.1).py = .str p.1 from rfl, show (D.int p.2).py = .int p.2 from rfl, show (D.str q.1).py = .str q.1 from rfl, show (D.int q.2).py = .int q.2 from rfl]
  rw [PySem.W.dataLt_pair rfl rfl, PySem.W.dataLt_str, PySem.W.dataLt_int]
  unfold earLt strLt
  simp only [PyData.eqv, beq_iff_eq]
  by_cases h1 : p.1 = q.1
  · simp only [h1, if_true]
    by_cases h2 : p.2 = q.2
    · simp [h2]
    · simp [h2]
  · simp [h1]
@[simp] theorem ear_dlt (p q : Str × Int) : dLtX (eEar p) (eEar q) = some (.bl (earLt p q)) := by
  rw [← ear_lt]
  have h1 : (eEar p).plain = true := rfl
  have h2 : (eEar q).plain = true := rfl
  have h3 : (eEar p).alike (eEar q) = true := rfl
  have h4 : (eEar p).depth ≤ 64 := by
    have : (eEar p).depth = 1 := rfl
    omega
  unfold eEar at *
  unfold dLtX
  simp only [h1, h2, h3, h4, decide_true, Bool.and_self, if_true]
theorem r_rise_ears (xs : List (Str × Int)) (h : xs.length ≤ 1000000) : r_rise [.tup (xs.map eEar)] = .ok (.bl (riseL earLt xs)) (.tup (xs.map eEar)) := by
  simp only [r_rise, m_rise]
  simp [drop1_map, zip_map, -List.map_tail]
  rw [comp_map (enc := fun p : (Str × Int) × (Str × Int) => D.tup [eEar p.1, eEar p.2]) (f := fun p => .bl (earLt p.1 p.2)) (xs.zip xs.tail) (fun p _ => by simp [stepL, restore])]
  have hl : (xs.zip xs.tail).length ≤ 1000000 := by simp; omega
  simp
  rw [szL_ok (by simpa using hl)]
  simp [d_allM, rise_zip]
theorem r_is_ear_ear (p : Str × Int) (h : p.1.length ≤ 1000000) : r_is_ear [eEar p] = .ok (.bl (isEar p)) (eEar p) := by
  simp only [r_is_ear, m_is_ear, eEar]
  simp [dEq_g (n := 0) (m := 0), r_is_word_str _ h, r_is_whole_int]
  unfold isEar
  by_cases hw : isWord p.1 = true
  · simp [hw]
  · simp [hw]
theorem r_are_ears_ears (xs : List (Str × Int)) (h : xs.length ≤ 1000000) (hs : ∀ p ∈ xs, p.1.length ≤ 1000000) : r_are_ears [.tup (xs.map eEar)] = .ok (.bl (okEars xs)) (.tup (xs.map eEar)) := by
  simp only [r_are_ears, m_are_ears]
  simp
  unfold okEars
  by_cases h2 : xs.length ≤ 2
  · have h2' : (xs.length : Int) ≤ 2 := by omega
    simp [h2, h2']
    rw [comp_map (enc := eEar) (f := fun p => .bl (isEar p)) xs (fun p hp => by simp [stepL, restore, r_is_ear_ear p (hs p hp)])]
    simp
    rw [szL_ok (by simpa using h)]
    simp [d_allM]
    by_cases h3 : xs.all isEar = true
    · rw [h3]
      simp [r_rise_ears xs h]
    · simp [h3]
  · have h2' : ¬ (xs.length : Int) ≤ 2 := by omega
    simp [h2, h2']
theorem r_places (m : Int) (ears : List D) (h : ears.length ≤ 2) (h1 : 0 ≤ m) (h2 : m ≤ 1000) : r_places_for [.int m, .tup ears] = .ok (.int (places m ears.length)) (.int m) := by
  simp only [r_places_for, m_places_for]
  simp [d_mulI (mulOk_r (i := m) (j := m) (by omega) (by omega))]
  match ears, h with
  | [], _ => simp [places]
  | [a], _ => simp [places]
  | [a, b], _ => simp [places]
end Hs

namespace Hs
open PySem PySem.Spec L2

/-- of reasonable size -/
structure SmSg (s : Sg) : Prop where
  nm : s.nm.length ≤ 1000000
  ears : s.ears.length ≤ 1000000
  en : ∀ p ∈ s.ears, p.1.length ≤ 1000000
  tab : s.tab.length ≤ 1000000
theorem r_is_singer_sg (s : Sg) (m : Int) (h : SmSg s) (h1 : 0 ≤ m) (h2 : m ≤ 1000) : r_is_singer [eSg s, .int m] = .ok (.bl (okSg m s)) (eSg s) := by
  simp only [r_is_singer, m_is_singer, eSg]
  simp [dNe_g (n := 0) (m := 0), r_is_word_str _ h.nm, r_are_ears_ears _ h.ears h.en]
  unfold okSg
  by_cases h3 : isWord s.nm = true
  · simp [h3]
    by_cases h4 : okEars s.ears = true
    · have h5 : s.ears.length ≤ 2 := by
        unfold okEars at h4
        simp only [Bool.and_eq_true, decide_eq_true_eq] at h4
        exact h4.1
      simp [h4]
      rw [r_places m _ (by simpa using h5) h1 h2]
      simp [r_are_lines_ints _ _ _ h.tab]
    · simp [h4]
  · simp [h3]
theorem all_g {γ : Type} {n : Nat} {f : γ → D} {xs : List γ} (h : ∀ x ∈ xs, (f x).g n = true) : (xs.map f).all (D.g n) = true := by
  rw [List.all_eq_true]
  intro d hd
  obtain ⟨x, hx, rfl⟩ := List.mem_map.mp hd
  exact h x hx
theorem flatMap_map_bl {γ δ : Type} (xs : List γ) (g : γ → List δ) (p : δ → Bool) : (xs.flatMap fun x => (g x).map fun y => D.bl (p y)) = ((xs.flatMap g).map fun y => D.bl (p y)) := by
  rw [List.map_flatMap]
theorem all_flat {γ δ : Type} (xs : List γ) (g : γ → List δ) (p : δ → Bool) : (xs.flatMap g).all p = xs.all fun x => (g x).all p := by
  induction xs with
  | nil => rfl
  | cons x xs ih => simp [ih]
structure SmCh (c : Ch) : Prop where
  crew : c.crew.length ≤ 1000000
  sg : ∀ s ∈ c.crew, SmSg s
theorem sg_word {m : Int} {s : Sg} (h : okSg m s = true) : isWord s.nm = true := by
  unfold okSg at h
  simp only [Bool.and_eq_true] at h
  exact h.1.1
theorem sg_ears {m : Int} {s : Sg} (h : okSg m s = true) : okEars s.ears = true := by
  unfold okSg at h
  simp only [Bool.and_eq_true] at h
  exact h.1.2
theorem ears_word {e : List (Str × Int)} (h : okEars e = true) : ∀ p ∈ e, isWord p.1 = true ∧ 1 ≤ p.2 ∧ p.2 ≤ 3 := by
  unfold okEars at h
  simp only [Bool.and_eq_true, List.all_eq_true] at h
  intro p hp
  have := h.2.1 p hp
  unfold isEar at this
  simp only [Bool.and_eq_true, decide_eq_true_eq] at this
  exact this
theorem ears_len {e : List (Str × Int)} (h : okEars e = true) : e.length ≤ 2 := by
  unfold okEars at h
  simp only [Bool.and_eq_true, decide_eq_true_eq] at h
  exact h.1
theorem flat_len {c : Ch} (h3 : c.crew.all (okSg c.many) = true) : (c.crew.map fun a => a.ears.length).sum ≤ 2 * c.crew.length := by
  have hall : ∀ s ∈ c.crew, s.ears.length ≤ 2 := fun s hs => ears_len (sg_ears (List.all_eq_true.mp h3 s hs))
  generalize c.crew = l at hall
  induction l with
  | nil => simp
  | cons x l ih =>
    have h1 := hall x List.mem_cons_self
    have h2 := ih fun s hs => hall s (List.mem_cons_of_mem _ hs)
    simp only [List.map_cons, List.sum_cons, List.length_cons]
    omega
theorem nms_g {c : Ch} (h3 : c.crew.all (okSg c.many) = true) : (c.nms.map D.str).all (D.g 0) = true := all_g fun x hx => by
  unfold Ch.nms at hx
  obtain ⟨s, hs, rfl⟩ := List.mem_map.mp hx
  rw [g_str]
  exact word_ok (sg_word (List.all_eq_true.mp h3 s hs))
theorem r_is_choir_ch (c : Ch) (h : SmCh c) : r_is_choir [eCh c] = .ok (.bl (okCh c)) (eCh c) := by
  by_cases h1 : 2 ≤ c.many ∧ c.many ≤ 4
  · obtain ⟨a1, a2⟩ := h1
    by_cases h2 : 1 ≤ c.crew.length ∧ c.crew.length ≤ 4
    · obtain ⟨b1, b2⟩ := h2
      have b1' : (1 : Int) ≤ c.crew.length := by omega
      have b2' : (c.crew.length : Int) ≤ 4 := by omega
      have hl : c.crew.length ≤ 1000000 := by omega
      have e : (c.crew.map fun s => D.str s.nm) = c.nms.map .str := by unfold Ch.nms; rw [List.map_map]; rfl
      have c1 : ∀ ρ : List D, ρ.length = 6 → ρ.getD 1 .non = .int c.many → ρ.getD 3 .non = .non → compL [3] (gNm 3) tsNo (mCall r_is_singer (aCons (oV (mVar 3)) (aCons (oV (mVar 1)) aNil))) (c.crew.map eSg) ρ = .ok (c.crew.map fun s => D.bl (okSg c.many s)) ρ := fun ρ hl hm h3 => by
        match ρ, hl, hm, h3 with
        | [p0, p1, p2, p3, p4, p5], _, hm, h3 =>
          simp at hm h3
          subst hm h3
          exact comp_map (enc := eSg) (f := fun s => .bl (okSg c.many s)) c.crew (fun s hs => by simp [stepL, restore, r_is_singer_sg s c.many (h.sg s hs) (by omega) (by omega)])
      have c2 : ∀ ρ : List D, ρ.length = 6 → ρ.getD 3 .non = .non → compL [3] (gNm 3) tsNo (mOp2 dIx (oV (mVar 3)) (oV (mC (.int 0)))) (c.crew.map eSg) ρ = .ok (c.nms.map .str) ρ := fun ρ hl h3 => by
        match ρ, hl, h3 with
        | [p0, p1, p2, p3, p4, p5], _, h3 =>
          simp at h3
          subst h3
          rw [← e]
          exact comp_map (enc := eSg) (f := fun s => .str s.nm) c.crew (fun s hs => by simp [stepL, restore, eSg])
      have z1 : szL (c.crew.map fun s => D.bl (okSg c.many s)) = some (.lst (c.crew.map fun s => D.bl (okSg c.many s))) := szL_ok (by simpa using hl)
      have hn : c.nms.length ≤ 1000000 := by unfold Ch.nms; simpa using hl
      have z2 : szL (c.nms.map D.str) = some (.lst (c.nms.map D.str)) := szL_ok (by unfold Ch.nms; simpa using hl)
      by_cases h3 : c.crew.all (okSg c.many) = true
      · have hg := nms_g h3
        by_cases h4 : riseL strLt c.nms = true
        · have c3 : ∀ ρ : List D, ρ.length = 6 → ρ.getD 4 .non = .lst (c.nms.map .str) → ρ.getD 3 .non = .non → ρ.getD 5 .non = .non → compL2 [3, 5] [5] (gNm 3) tsNo (mItems (mOp2 dIx (oV (mVar 3)) (oV (mC (.int 1))))) (gNm 5) tsNo (mOp2 dIn (oV (mOp2 dIx (oV (mVar 5)) (oV (mC (.int 0))))) (oV (mVar 4))) (c.crew.map eSg) ρ = .ok (c.crew.flatMap fun s => s.ears.map fun p => .bl (decide (p.1 ∈ c.nms))) ρ := fun ρ hl hm h3' h5 => by
            match ρ, hl, hm, h3', h5 with
            | [p0, p1, p2, p3, p4, p5], _, hm, h3', h5 =>
              simp at hm h3' h5
              subst hm h3' h5
              refine comp2_same (enc := eSg) (f := fun s => s.ears.map fun p => .bl (decide (p.1 ∈ c.nms))) c.crew (fun s hs => ?_)
              simp [step2L, eSg]
              have hk := sg_ears (List.all_eq_true.mp h3 s hs)
              rw [comp_map (enc := eEar) (f := fun p => .bl (decide (p.1 ∈ c.nms))) s.ears (fun p hp => by
                simp [stepL, restore, eEar]
                rw [dIn_lst (n := 0) (m := 0) hg (by rw [g_str]; exact word_ok (ears_word hk p hp).1)]
                simp)]
              simp [restore]
          have z3 : szL (c.crew.flatMap fun s => s.ears.map fun p => D.bl (decide (p.1 ∈ c.nms))) = some (.lst (c.crew.flatMap fun s => s.ears.map fun p => D.bl (decide (p.1 ∈ c.nms)))) := szL_ok (by
            have := flat_len h3
            simp
            omega)
          have al : dAll (.lst (c.crew.flatMap fun s => s.ears.map fun p => D.bl (decide (p.1 ∈ c.nms)))) = some (.bl (c.crew.all fun s => s.ears.all fun p => decide (p.1 ∈ c.nms))) := by
            rw [flatMap_map_bl, d_allM, all_flat]
          have ok : okCh c = (c.crew.all fun s => s.ears.all fun p => decide (p.1 ∈ c.nms)) := by
            unfold okCh; simp [a1, a2, b1, b2, h3, h4]
          rw [ok]
          simp only [r_is_choir, m_is_choir, eCh]
          simp [dNe_g (n := 0) (m := 0), r_is_whole_int, a1, a2, b1', b2', c1, z1, d_allM, h3, c2, z2, r_rise_strs, hn, h4, c3, z3, al]
        · have ok : okCh c = false := by
            unfold okCh; simp [a1, a2, b1, b2, h3, h4]
          rw [ok]
          simp only [r_is_choir, m_is_choir, eCh]
          simp [dNe_g (n := 0) (m := 0), r_is_whole_int, a1, a2, b1', b2', c1, z1, d_allM, h3, c2, z2, r_rise_strs, hn, h4]
      · have ok : okCh c = false := by
          unfold okCh; simp [a1, a2, b1, b2, h3]
        rw [ok]
        simp only [r_is_choir, m_is_choir, eCh]
        simp [dNe_g (n := 0) (m := 0), r_is_whole_int, a1, a2, b1', b2', c1, z1, d_allM, h3]
    · have ok : okCh c = false := by
        unfold okCh
        rcases Nat.lt_or_ge c.crew.length 1 with q | q
        · have q' : ¬ 1 ≤ c.crew.length := by omega
          rw [decide_eq_false q']; simp
        · have q' : ¬ c.crew.length ≤ 4 := by omega
          rw [decide_eq_false q']; simp
      rw [ok]
      have b : (decide ((1 : Int) ≤ c.crew.length) = false) ∨ (decide ((c.crew.length : Int) ≤ 4) = false) := by
        simp only [decide_eq_false_iff_not]; omega
      simp only [r_is_choir, m_is_choir, eCh]
      rcases Nat.lt_or_ge c.crew.length 1 with q | q
      · have q1 : ¬ (1 : Int) ≤ c.crew.length := by omega
        simp [dNe_g (n := 0) (m := 0), r_is_whole_int, a1, a2, q1]
      · have q1 : (1 : Int) ≤ c.crew.length := by omega
        have q2 : ¬ (c.crew.length : Int) ≤ 4 := by omega
        simp [dNe_g (n := 0) (m := 0), r_is_whole_int, a1, a2, q1, q2]
  · have ok : okCh c = false := by
      unfold okCh
      have : (decide (2 ≤ c.many) && decide (c.many ≤ 4)) = false := by
        rw [← Bool.decide_and]; exact decide_eq_false h1
      rw [this]; simp
    rw [ok]
    have h1' : c.many < 2 ∨ 4 < c.many := by omega
    simp only [r_is_choir, m_is_choir, eCh]
    simp [dNe_g (n := 0) (m := 0), r_is_whole_int, h1']
end Hs

namespace Hs
open PySem PySem.Spec L2

structure OkC (c : Ch) : Prop where
  m2 : 2 ≤ c.many
  m4 : c.many ≤ 4
  c1 : 1 ≤ c.crew.length
  c4 : c.crew.length ≤ 4
  sg : ∀ s ∈ c.crew, okSg c.many s = true
  rise : riseL strLt c.nms = true
  mem : ∀ s ∈ c.crew, ∀ p ∈ s.ears, p.1 ∈ c.nms
theorem okC_iff {c : Ch} : okCh c = true ↔ OkC c := by
  unfold okCh
  simp only [Bool.and_eq_true, List.all_eq_true, decide_eq_true_eq]
  constructor
  · rintro ⟨⟨⟨⟨a, b⟩, d, e⟩, f, g⟩, h⟩
    exact ⟨a, b, d, e, f, g, h⟩
  · rintro ⟨a, b, d, e, f, g, h⟩
    exact ⟨⟨⟨⟨a, b⟩, d, e⟩, f, g⟩, h⟩
theorem places_le {m : Int} {k : Nat} (h : m ≤ 4) (h0 : 0 ≤ m) : places m k ≤ 16 := by
  unfold places
  split
  · omega
  · split
    · omega
    · have : m * m ≤ 4 * 4 := Int.mul_le_mul h h h0 (by omega)
      omega
structure SgF (m : Int) (s : Sg) : Prop where
  w : isWord s.nm = true
  el : s.ears.length ≤ 2
  ew : ∀ p ∈ s.ears, isWord p.1 = true ∧ 1 ≤ p.2 ∧ p.2 ≤ 3
  er : riseL earLt s.ears = true
  tl : (s.tab.length : Int) = places m s.ears.length
  tr : ∀ i ∈ s.tab, 0 ≤ i ∧ i ≤ m - 1
theorem sgF {m : Int} {s : Sg} (h : okSg m s = true) : SgF m s := by
  have h1 := sg_ears h
  refine ⟨sg_word h, ears_len h1, ears_word h1, ?_, ?_, ?_⟩
  · unfold okEars at h1
    simp only [Bool.and_eq_true] at h1
    exact h1.2.2
  · unfold okSg at h
    simp only [Bool.and_eq_true, decide_eq_true_eq] at h
    exact h.2.1
  · unfold okSg at h
    simp only [Bool.and_eq_true, List.all_eq_true] at h
    intro i hi
    have := h.2.2 i hi
    unfold inR at this
    simpa using this
theorem word_len8 {s : Str} (h : isWord s = true) : s.length ≤ 8 := by
  unfold isWord at h
  simp only [Bool.and_eq_true, decide_eq_true_eq] at h
  exact h.1.2
theorem OkC.sm {c : Ch} (h : OkC c) : SmCh c := ⟨by have := h.c4; omega, fun s hs => by
  have f := sgF (h.sg s hs)
  have hp := places_le (k := s.ears.length) h.m4 (by have := h.m2; omega)
  exact ⟨by have := word_len8 f.w; omega, by have := f.el; omega, fun p hp => by have := word_len8 (f.ew p hp).1; omega, by have := f.tl; omega⟩⟩
theorem OkC.is {c : Ch} (h : OkC c) : r_is_choir [eCh c] = .ok (.bl true) (eCh c) := by rw [r_is_choir_ch c h.sm, okC_iff.mpr h]
theorem OkC.need {c : Ch} (h : OkC c) : r_need_choir [eCh c] = .ok .non (eCh c) := by
  simp only [r_need_choir, m_need_choir]
  simp [h.is]
theorem OkC.nmg {c : Ch} (h : OkC c) : (c.nms.map D.str).all (D.g 0) = true := nms_g (List.all_eq_true.mpr h.sg)
theorem nms_len (c : Ch) : c.nms.length = c.crew.length := by simp [Ch.nms]
theorem r_all_names_ch (c : Ch) (h : c.crew.length ≤ 1000000) : r_all_names [eCh c] = .ok (.lst (c.nms.map .str)) (eCh c) := by
  have e : (c.crew.map fun s => D.str s.nm) = c.nms.map .str := by unfold Ch.nms; rw [List.map_map]; rfl
  simp only [r_all_names, m_all_names, eCh]
  simp
  rw [comp_map (enc := eSg) (f := fun s => .str s.nm) c.crew (fun s hs => by simp [stepL, restore, eSg])]
  simp
  rw [e, szL_ok (by simpa [nms_len] using h)]
  rfl
theorem index_g {n m : Nat} {xs : List D} {x : D} (h : xs.all (D.g n) = true) (k : x.g m = true) (hm : x ∈ xs) (hn : n < 64 := by decide) (hm2 : m ≤ 64 := by decide) : dIndex (.lst xs) x = some (.int (xs.idxOf x : Nat)) := by
  unfold dIndex
  have e1 : (D.lst xs).sh = true := g_sh (show (D.lst xs).g (n + 1) = true from h) hn
  have e2 : x.sh = true := g_sh k hm2
  simp only [e1, e2, Bool.and_self, if_true]
  have : idxD xs x = some (xs.idxOf x) := by
    unfold idxD
    rw [List.all_eq_true] at h
    clear e1 e2
    induction xs with
    | nil => cases hm
    | cons y ys ih =>
      rw [List.findIdx?_cons, eqv_g (h y List.mem_cons_self) k]
      by_cases hy : y = x
      · subst hy; simp
      · have hm' : x ∈ ys := (List.mem_cons.mp hm).resolve_left (Ne.symm hy)
        rw [ih (fun z hz => h z (List.mem_cons_of_mem _ hz)) hm']
        have : ¬ (y == x) = true := by simpa using hy
        simp [hy, List.idxOf_cons, this]
  rw [this]
  rfl
theorem idxOf_map_str (xs : List Str) (n : Str) : (xs.map D.str).idxOf (D.str n) = xs.idxOf n := by
  induction xs with
  | nil => rfl
  | cons x xs ih =>
    rw [List.map_cons, List.idxOf_cons, List.idxOf_cons, ih]
    by_cases h : x = n
    · subst h; simp
    · have h2 : ¬ D.str x = D.str n := fun e => h (D.str.inj e)
      have e1 : (x == n) = false := by simpa using h
      have e2 : (D.str x == D.str n) = false := by simpa using h2
      rw [e1, e2]
def Ch.ix (c : Ch) (n : Str) : Nat := c.nms.idxOf n
theorem OkC.word {c : Ch} (h : OkC c) {n : Str} (hn : n ∈ c.nms) : isWord n = true := by
  unfold Ch.nms at hn
  obtain ⟨s, hs, rfl⟩ := List.mem_map.mp hn
  exact sg_word (h.sg s hs)
theorem r_number_of_ch (c : Ch) (h : OkC c) (n : Str) (hn : n ∈ c.nms) : r_number_of [eCh c, .str n] = .ok (.int (c.ix n : Nat)) (eCh c) := by
  simp only [r_number_of, m_number_of]
  simp [r_all_names_ch c h.sm.crew]
  rw [index_g (n := 0) (m := 0) h.nmg (by rw [g_str]; exact word_ok (h.word hn)) (List.mem_map.mpr ⟨n, hn, rfl⟩)]
  simp [idxOf_map_str, Ch.ix]
theorem ix_lt {c : Ch} {n : Str} (hn : n ∈ c.nms) : c.ix n < c.crew.length := by
  unfold Ch.ix
  rw [← nms_len]
  exact List.idxOf_lt_length_iff.mpr hn
structure OkS (c : Ch) (st : List (List Int)) : Prop where
  len : st.length = c.crew.length
  row : ∀ r ∈ st, r.length = 3 ∧ ∀ i ∈ r, 0 ≤ i ∧ i ≤ c.many - 1
def okSt (c : Ch) (st : List (List Int)) : Bool := decide (st.length = c.crew.length) && st.all fun r => decide ((r.length : Int) = 3) && r.all (inR c.many)
theorem okS_iff {c : Ch} {st : List (List Int)} : okSt c st = true ↔ OkS c st := by
  unfold okSt inR
  simp only [Bool.and_eq_true, List.all_eq_true, decide_eq_true_eq]
  constructor
  · rintro ⟨a, b⟩
    exact ⟨a, fun r hr => ⟨by have := (b r hr).1; omega, (b r hr).2⟩⟩
  · rintro ⟨a, b⟩
    exact ⟨a, fun r hr => ⟨by have := (b r hr).1; omega, (b r hr).2⟩⟩
theorem r_is_good_standing_st (c : Ch) (st : List (List Int)) (hc : c.crew.length ≤ 1000000) (hs : ∀ r ∈ st, r.length ≤ 1000000) : r_is_good_standing [eCh c, eSt st] = .ok (.bl (okSt c st)) (eCh c) := by
  simp only [r_is_good_standing, m_is_good_standing, eCh, eSt]
  simp [dNe_g (n := 0) (m := 0)]
  unfold okSt
  by_cases h : st.length = c.crew.length
  · simp [h]
    rw [comp_map (enc := eLn) (f := fun r => .bl (decide ((r.length : Int) = 3) && r.all (inR c.many))) st (fun r hr => by
      simp [stepL, restore]
      rw [r_are_lines_ints r 3 c.many (hs r hr)]
      simp)]
    simp
    rw [szL_ok (by simp; omega)]
    simp [d_allM]
  · have h' : ¬ (st.length : Int) = c.crew.length := by omega
    simp [h, h']
theorem OkS.rowl {c : Ch} {st : List (List Int)} (h : OkS c st) : ∀ r ∈ st, r.length ≤ 1000000 := fun r hr => by have := (h.row r hr).1; omega
theorem OkS.need {c : Ch} {st : List (List Int)} (hc : OkC c) (h : OkS c st) : r_need_standing [eCh c, eSt st] = .ok .non (eCh c) := by
  simp only [r_need_standing, m_need_standing]
  simp [r_is_good_standing_st c st hc.sm.crew h.rowl, okS_iff.mpr h]
def heardBy (c : Ch) (st : List (List Int)) (s : Sg) : List Int := s.ears.map fun p => (st.getD (c.ix p.1) []).getD (3 - p.2).toNat 0
theorem r_heard_by_ch (c : Ch) (st : List (List Int)) (s : Sg) (hc : OkC c) (hs : OkS c st) (hm : ∀ p ∈ s.ears, p.1 ∈ c.nms ∧ 1 ≤ p.2 ∧ p.2 ≤ 3) (hl : s.ears.length ≤ 1000000) : r_heard_by [eCh c, eSt st, eSg s] = .ok (eLn (heardBy c st s)) (eCh c) := by
  simp only [r_heard_by, m_heard_by, eSg]
  simp
  rw [comp_map (enc := eEar) (f := fun p => .int ((st.getD (c.ix p.1) []).getD (3 - p.2).toNat 0)) s.ears (fun p hp => by
    obtain ⟨h1, h2, h3⟩ := hm p hp
    simp [stepL, restore, eEar]
    rw [r_number_of_ch c hc _ h1]
    have hi := ix_lt h1
    rw [← hs.len] at hi
    simp [eSt, atI_nat, hi]
    have hr := (hs.row _ (List.getElem_mem hi)).1
    obtain ⟨k, e3⟩ : ∃ k : Nat, 3 - p.2 = k := ⟨(3 - p.2).toNat, by omega⟩
    have hlt : k < (st[c.ix p.1]).length := by omega
    rw [e3, eLn, d_ixT, atI_nat]
    simp [hlt])]
  simp
  rw [szL_ok (by simpa using hl)]
  simp [eLn, heardBy]
def place (m : Int) (xs : List Int) : Int := xs.foldl (fun f l => f * m + l) 0
/-- a for whose turns leave the shape of the environment -/
theorem for_inv {γ S : Type} {mg : MG} {b : MS} (enc : γ → D) (step : S → γ → S) (I : S → List D → Prop) (xs : List γ) (h : ∀ x ∈ xs, ∀ s ρ, I s ρ → ∃ ρ1 ρ2, mg (enc x) ρ = some ρ1 ∧ b ρ1 = .nx ρ2 ∧ I (step s x) ρ2) : ∀ s ρ, I s ρ → ∃ ρ', forL mg b (xs.map enc) ρ = .nx ρ' ∧ I (xs.foldl step s) ρ' := by
  induction xs with
  | nil => exact fun s ρ i => ⟨ρ, rfl, i⟩
  | cons x xs ih =>
    intro s ρ i
    obtain ⟨ρ1, ρ2, e1, e2, i2⟩ := h x List.mem_cons_self s ρ i
    obtain ⟨ρ', e3, i3⟩ := ih (fun y hy => h y (List.mem_cons_of_mem _ hy)) _ _ i2
    refine ⟨ρ', ?_, i3⟩
    rw [List.map_cons, v_forC, e1]
    simp [e2, e3]
theorem r_place_of_seq (m : Int) (xs : List Int) (d : D) (hd : itemsOf d = some (xs.map .int)) (h1 : 0 ≤ m) (h2 : m ≤ 1000) : r_place_of [.int m, d] = .ok (.int (place m xs)) (.int m) := by
  simp only [r_place_of, m_place_of]
  simp [hd]
  obtain ⟨ρ', e, x, i⟩ := for_inv (mg := gNm 3) (b := sSet 2 (mOp2 dAdd (oV (mOp2 dMul (oV (mVar 2)) (oV (mVar 0)))) (oV (mVar 3)))) (enc := D.int) (step := fun f l => f * m + l) (I := fun s ρ => ∃ x, ρ = [.int m, d, .int s, x]) xs (fun l _ s ρ ⟨x, e⟩ => by
    subst e
    exact ⟨[.int m, d, .int s, .int l], [.int m, d, .int (s * m + l), .int l], rfl, by simp [d_mulI (mulOk_r (i := s) (j := m) (by omega) (by omega))], _, rfl⟩) 0 [.int m, d, .int 0, .non] ⟨_, rfl⟩
  subst i
  rw [e]
  simp [place]
/-- what ears hear is a line -/
theorem foldl_place (m : Int) : ∀ (xs : List Int) (a : Int), xs.foldl (fun f l => f * m + l) a = a * m ^ xs.length + xs.foldl (fun f l => f * m + l) 0
  | [], a => by simp
  | x :: xs, a => by
    rw [List.foldl_cons, List.foldl_cons, foldl_place m xs (a * m + x), foldl_place m xs (0 * m + x)]
    simp only [List.length_cons, Int.pow_succ]
    rw [Int.add_mul, Int.zero_mul, Int.zero_add]
    have : a * m * m ^ xs.length = a * (m ^ xs.length * m) := by rw [Int.mul_assoc, Int.mul_comm m]
    omega
theorem place_bd {m : Int} (xs : List Int) (h : ∀ i ∈ xs, 0 ≤ i ∧ i ≤ m - 1) (hm : 2 ≤ m) (hl : xs.length ≤ 2) : 0 ≤ place m xs ∧ place m xs < places m xs.length := by
  match xs, hl with
  | [], _ => simp [place, places]
  | [a], _ =>
    have := h a (by simp)
    simp [place, places]
    omega
  | [a, b], _ =>
    have h1 := h a (by simp)
    have h2 := h b (by simp)
    have e : place m [a, b] = a * m + b := by simp [place]
    have e2 : places m [a, b].length = m * m := by simp [places]
    rw [e, e2]
    have h3 : a * m ≤ (m - 1) * m := Int.mul_le_mul_of_nonneg_right h1.2 (by omega)
    have h4 : 0 ≤ a * m := Int.mul_nonneg h1.1 (by omega)
    have h5 : (m - 1) * m = m * m - m := by rw [Int.sub_mul, Int.one_mul]
    omega
theorem heard_len (c : Ch) (st : List (List Int)) (s : Sg) : (heardBy c st s).length = s.ears.length := by simp [heardBy]
theorem heard_bd {c : Ch} {st : List (List Int)} {s : Sg} (hs : OkS c st) (hm : ∀ p ∈ s.ears, p.1 ∈ c.nms ∧ 1 ≤ p.2 ∧ p.2 ≤ 3) : ∀ i ∈ heardBy c st s, 0 ≤ i ∧ i ≤ c.many - 1 := by
  intro i hi
  unfold heardBy at hi
  obtain ⟨p, hp, rfl⟩ := List.mem_map.mp hi
  obtain ⟨h1, h2, h3⟩ := hm p hp
  have hix := ix_lt h1
  rw [← hs.len] at hix
  have hr := hs.row _ (List.getElem_mem hix)
  have e : st.getD (c.ix p.1) [] = st[c.ix p.1] := by simp [List.getD_eq_getElem?_getD, hix]
  rw [e]
  have hlt : (3 - p.2).toNat < (st[c.ix p.1]).length := by omega
  have e2 : (st[c.ix p.1]).getD (3 - p.2).toNat 0 = (st[c.ix p.1])[(3 - p.2).toNat] := by rw [List.getD_eq_getElem?_getD, List.getElem?_eq_getElem hlt]; rfl
  rw [e2]
  exact hr.2 _ (List.getElem_mem hlt)
/-- a singer of a choir, or like one: its ears are of the choir, its table has the right size -/
structure SgOf (c : Ch) (s : Sg) : Prop where
  ok : okSg c.many s = true
  mem : ∀ p ∈ s.ears, p.1 ∈ c.nms
theorem OkC.of {c : Ch} (h : OkC c) {s : Sg} (hs : s ∈ c.crew) : SgOf c s := ⟨h.sg s hs, h.mem s hs⟩
theorem SgOf.hm {c : Ch} {s : Sg} (h : SgOf c s) : ∀ p ∈ s.ears, p.1 ∈ c.nms ∧ 1 ≤ p.2 ∧ p.2 ≤ 3 := fun p hp => ⟨h.mem p hp, ((sgF h.ok).ew p hp).2⟩
def tline (c : Ch) (st : List (List Int)) (s : Sg) : Int := s.tab.getD (place c.many (heardBy c st s)).toNat 0
theorem tline_at {c : Ch} {st : List (List Int)} {s : Sg} (hc : OkC c) (hs : OkS c st) (h : SgOf c s) : ∃ k : Nat, place c.many (heardBy c st s) = k ∧ k < s.tab.length := by
  have f := sgF h.ok
  have b := place_bd (heardBy c st s) (heard_bd hs h.hm) hc.m2 (by rw [heard_len]; exact f.el)
  rw [heard_len, ← f.tl] at b
  exact ⟨(place c.many (heardBy c st s)).toNat, by omega, by omega⟩
theorem r_table_line_ch (c : Ch) (st : List (List Int)) (s : Sg) (hc : OkC c) (hs : OkS c st) (h : SgOf c s) : r_table_line [eCh c, eSt st, eSg s] = .ok (.int (tline c st s)) (eCh c) := by
  have f := sgF h.ok
  have hh := r_heard_by_ch c st s hc hs h.hm (by have := f.el; omega)
  obtain ⟨k, e, hk⟩ := tline_at hc hs h
  have hp := r_place_of_seq c.many (heardBy c st s) (eLn (heardBy c st s)) rfl (by have := hc.m2; omega) (by have := hc.m4; omega)
  simp only [r_table_line, m_table_line]
  have e1 : dIx (eCh c) (.int 0) = some (.int c.many) := by simp [eCh]
  have e2 : dIx (eSg s) (.int 2) = some (eLn s.tab) := by simp [eSg]
  rw [e] at hp
  simp [hh, e1, e2, hp]
  rw [eLn, d_ixT, atI_nat]
  simp [hk, tline, e]
def next (c : Ch) (st : List (List Int)) : List Int := c.crew.map (tline c st)
theorem r_all_next_ch (c : Ch) (st : List (List Int)) (hc : OkC c) (hs : OkS c st) : r_all_next [eCh c, eSt st] = .ok (eLn (next c st)) (eCh c) := by
  simp only [r_all_next, m_all_next]
  have e1 : dIx (eCh c) (.int 1) = some (.tup (c.crew.map eSg)) := by simp [eCh]
  simp [e1]
  rw [comp_map (enc := eSg) (f := fun s => .int (tline c st s)) c.crew (fun s h => by simp [stepL, restore, r_table_line_ch c st s hc hs (hc.of h)])]
  simp
  rw [szL_ok (by simpa using hc.sm.crew)]
  simp [eLn, next]
theorem next_len (c : Ch) (st : List (List Int)) : (next c st).length = c.crew.length := by simp [next]
theorem tline_bd {c : Ch} {st : List (List Int)} {s : Sg} (hc : OkC c) (hs : OkS c st) (h : SgOf c s) : 0 ≤ tline c st s ∧ tline c st s ≤ c.many - 1 := by
  obtain ⟨k, e, hk⟩ := tline_at hc hs h
  have f := sgF h.ok
  unfold tline
  rw [e]
  have : s.tab.getD (k : Int).toNat 0 = s.tab[k] := by simp [List.getD_eq_getElem?_getD, hk]
  rw [this]
  exact f.tr _ (List.getElem_mem hk)
theorem next_bd {c : Ch} {st : List (List Int)} (hc : OkC c) (hs : OkS c st) : ∀ i ∈ next c st, 0 ≤ i ∧ i ≤ c.many - 1 := by
  intro i hi
  unfold next at hi
  obtain ⟨s, h, rfl⟩ := List.mem_map.mp hi
  exact tline_bd hc hs (hc.of h)
def behind (st : List (List Int)) (ls : List Int) : List (List Int) := (st.zip ls).map fun p => p.1.tail ++ [p.2]
theorem behind_ok {c : Ch} {st : List (List Int)} {ls : List Int} (hs : OkS c st) (hl : ls.length = c.crew.length) (hb : ∀ i ∈ ls, 0 ≤ i ∧ i ≤ c.many - 1) : OkS c (behind st ls) := by
  refine ⟨by simp [behind, hs.len, hl], fun r hr => ?_⟩
  unfold behind at hr
  obtain ⟨p, hp, rfl⟩ := List.mem_map.mp hr
  obtain ⟨h1, h2⟩ := List.of_mem_zip hp
  have := hs.row _ h1
  refine ⟨by simp; omega, fun i hi => ?_⟩
  rcases List.mem_append.mp hi with hi | hi
  · exact this.2 i (List.mem_of_mem_tail hi)
  · obtain rfl : i = p.2 := by simpa using hi
    exact hb _ h2
theorem r_behind_st (st : List (List Int)) (ls : List Int) (h : st.length ≤ 1000000) (h3 : ∀ r ∈ st, r.length ≤ 100) : r_behind [eSt st, eLn ls] = .ok (eSt (behind st ls)) (eSt st) := by
  simp only [r_behind, m_behind, eSt, eLn]
  simp [zip_map]
  rw [comp_map (enc := fun p : List Int × Int => D.tup [eLn p.1, .int p.2]) (f := fun p => eLn (p.1.tail ++ [p.2])) (st.zip ls) (fun p hp => by
    have := h3 p.1 (List.of_mem_zip hp).1
    simp [stepL, restore]
    rw [eLn]
    simp [drop1_map]
    rw [d_addT (by simp; unfold SZ; omega)]
    simp [eLn])]
  simp
  rw [szL_ok (by simp; omega)]
  simp [behind]
theorem OkS.row100 {c : Ch} {st : List (List Int)} (h : OkS c st) : ∀ r ∈ st, r.length ≤ 100 := fun r hr => by have := (h.row r hr).1; omega
def onward (c : Ch) (st : List (List Int)) : List (List Int) := behind st (next c st)
theorem onward_ok {c : Ch} {st : List (List Int)} (hc : OkC c) (hs : OkS c st) : OkS c (onward c st) := behind_ok hs (next_len c st) (next_bd hc hs)
theorem r_on_ch (c : Ch) (st : List (List Int)) (hc : OkC c) (hs : OkS c st) : r_on [eCh c, eSt st] = .ok (eSt (onward c st)) (eCh c) := by
  simp only [r_on, m_on]
  have hl : st.length ≤ 1000000 := by have := hs.len; have := hc.c4; omega
  simp [r_all_next_ch c st hc hs, r_behind_st st (next c st) hl hs.row100, onward]
theorem r_next_lines_ch (c : Ch) (st : List (List Int)) (hc : OkC c) (hs : OkS c st) : r_next_lines [eCh c, eSt st] = .ok (eLn (next c st)) (eCh c) := by
  simp only [r_next_lines, m_next_lines]
  simp [hc.need, hs.need hc, r_all_next_ch c st hc hs]
end Hs

set_option exponentiation.threshold 1000
namespace Hs
open PySem PySem.Spec L2

theorem log_lt {n k : Nat} (h : n < 2 ^ k) (hk : 0 < k) : n.log2 < k := by
  by_cases h0 : n = 0
  · subst h0; simpa using hk
  · exact (Nat.log2_lt h0).mpr h
theorem mulOk_b {i j : Int} (hi : i.natAbs < 2 ^ 400) (hj : j.natAbs < 2 ^ 400) : mulOk i j = true := by
  unfold mulOk
  have h1 := log_lt hi (by decide)
  have h2 := log_lt hj (by decide)
  rw [decide_eq_true (show i.natAbs.log2 + j.natAbs.log2 < 1000000 by omega)]
  simp
def dice (x y : Int) : D := .lst [.int x, .int y]
theorem ixN2_0 : ixN 2 0 = some 0 := by decide
theorem ixN2_1 : ixN 2 1 = some 1 := by decide
theorem mulA (i : Int) : dMul (.int i) (.int 6364136223846793005) = some (.int (i * 6364136223846793005)) := d_mulI (mulOk_r (by decide) (by decide))
theorem mulB (i : Int) : dMul (.int i) (.int 1442695040888963407) = some (.int (i * 1442695040888963407)) := d_mulI (mulOk_r (by decide) (by decide))
theorem modA (i : Int) : dMod (.int i) (.int 340282366920938463463374607431768211507) = some (.int (i % 340282366920938463463374607431768211507)) := d_modI (by decide)
theorem modB (i : Int) : dMod (.int i) (.int 340282366920938463463374607431768211297) = some (.int (i % 340282366920938463463374607431768211297)) := d_modI (by decide)
theorem modC (i : Int) : dMod (.int i) (.int 18446744073709551557) = some (.int (i % 18446744073709551557)) := d_modI (by decide)
theorem divC (i : Int) : dDiv (.int i) (.int 18446744073709551557) = some (.int (i / 18446744073709551557)) := d_divB (by decide) (by decide +kernel)
theorem r_drawn (a b : Int) : ∃ z, r__law_drawn [.int a, .int b] = .ok (.int z) (.int a) := by
  simp only [r__law_drawn, m__law_drawn]
  simp only [v_fn, List.length_cons, List.length_nil, if_true, v_seq, v_sSet, v_op2, v_oV, v_var, v_c, v_bind_ok, v_getV]
  simp [mulA, mulB, modA]
  generalize hm : (a * 6364136223846793005 + (b + 1) * 1442695040888963407) % 340282366920938463463374607431768211507 = m
  have hm0 : 0 ≤ m := by rw [← hm]; exact Int.emod_nonneg _ (by decide)
  have hm1 : m < 340282366920938463463374607431768211507 := by rw [← hm]; exact Int.emod_lt_of_pos _ (by decide)
  have hmb : m.natAbs < 2 ^ 400 := by
    have : m.natAbs < 340282366920938463463374607431768211507 := by omega
    exact Nat.lt_trans this (by decide)
  simp [d_mulI (mulOk_b hmb hmb), modB]
  generalize hq : m * m % 340282366920938463463374607431768211297 = q
  have hq0 : 0 ≤ q := by rw [← hq]; exact Int.emod_nonneg _ (by decide)
  have hq1 : q < 340282366920938463463374607431768211297 := by rw [← hq]; exact Int.emod_lt_of_pos _ (by decide)
  have hs0 : 0 ≤ q % 18446744073709551557 := Int.emod_nonneg _ (by decide)
  have hs1 : q % 18446744073709551557 < 18446744073709551557 := Int.emod_lt_of_pos _ (by decide)
  have ht0 : 0 ≤ q / 18446744073709551557 := by omega
  have ht1 : q / 18446744073709551557 < 18446744073709551557 * 2 := by omega
  have hp : ((q % 18446744073709551557 + 1) * (q / 18446744073709551557 + 1)).natAbs < 2 ^ 400 := by
    have h1 : 0 ≤ (q % 18446744073709551557 + 1) * (q / 18446744073709551557 + 1) := Int.mul_nonneg (by omega) (by omega)
    have h2 : (q % 18446744073709551557 + 1) * (q / 18446744073709551557 + 1) ≤ 18446744073709551557 * (18446744073709551557 * 2) := Int.mul_le_mul (by omega) (by omega) (by omega) (by decide)
    have h3 : ((q % 18446744073709551557 + 1) * (q / 18446744073709551557 + 1)).natAbs ≤ 18446744073709551557 * (18446744073709551557 * 2) := by omega
    exact Nat.lt_of_le_of_lt h3 (by decide)
  have hqb : q.natAbs < 2 ^ 400 := by
    have : q.natAbs < 340282366920938463463374607431768211297 := by omega
    exact Nat.lt_trans this (by decide)
  have e1 := d_mulI (mulOk_l (i := q % 18446744073709551557 + 1) (j := q / 18446744073709551557 + 1) (by omega) (by omega))
  have e2 := d_mulI (mulOk_b hp hqb)
  simp [modC, divC, e1, e2, modA]
theorem pow18 : dPow (.int 10) (.int 18) = some (.int 1000000000000000000) := by
  unfold dPow
  have : (10 : Int) ^ (18 : Int).toNat = 1000000000000000000 := by decide
  simp [this]
theorem roll_ok (x y n : Int) (h1 : 1 ≤ n) (h2 : n ≤ 1000000) : ∃ j x' y', r__law_roll [dice x y, .int n] = .ok (.int j) (dice x' y') ∧ 0 ≤ j ∧ j < n := by
  simp only [r__law_roll, m__law_roll, dice]
  simp [pow18]
  by_cases hx : 1000000000000000000 ≤ x
  · have e1 : dMod (.int x) (.int n) = some (.int (x % n)) := d_modI (by omega)
    have e2 : dDiv (.int x) (.int n) = some (.int (x / n)) := d_divI (by omega) (by omega)
    have e3 : setItR 0 (.int (x / n)) (.int 0) [.lst [.int x, .int y], .int n, .int (x % n)] = .nx [.lst [.int (x / n), .int y], .int n, .int (x % n)] := by
      rw [v_setItR 0 _ 0 0 [.int x, .int y] (by simp) ixN2_0]; rfl
    simp [hx, e1, e2, e3]
    exact ⟨Int.emod_nonneg _ (by omega), Int.emod_lt_of_pos _ (by omega)⟩
  · obtain ⟨z, hz⟩ := r_drawn x (y + 1)
    have e1 : dDiv (.int z) (.int 8) = some (.int (z / 8)) := d_divI (by decide) (by decide)
    have e2 : dMod (.int (z / 8)) (.int n) = some (.int (z / 8 % n)) := d_modI (by omega)
    have e3 : setItR 0 (.int (y + 1)) (.int 1) [.lst [.int x, .int y], .int n, .non] = .nx [.lst [.int x, .int (y + 1)], .int n, .non] := by
      rw [v_setItR 0 _ 1 1 [.int x, .int y] (by simp) ixN2_1]; rfl
    simp [hx, e1, e2, e3, hz]
    exact ⟨Int.emod_nonneg _ (by omega), Int.emod_lt_of_pos _ (by omega)⟩
end Hs

namespace Hs
open PySem PySem.Spec L2

theorem for_rel {mg : MG} {b : MS} (I : List D → List D → Prop) : ∀ (xs done : List D) (ρ : List D), (∀ done x ρ, x ∈ xs → I done ρ → ∃ ρ1 ρ2, mg x ρ = some ρ1 ∧ b ρ1 = .nx ρ2 ∧ I (done ++ [x]) ρ2) → I done ρ → ∃ ρ', forL mg b xs ρ = .nx ρ' ∧ I (done ++ xs) ρ'
  | [], done, ρ, _, i => ⟨ρ, rfl, by simpa using i⟩
  | x :: xs, done, ρ, h, i => by
    obtain ⟨ρ1, ρ2, e1, e2, i2⟩ := h done x ρ List.mem_cons_self i
    obtain ⟨ρ', e3, i3⟩ := for_rel I xs (done ++ [x]) ρ2 (fun d y r hy => h d y r (List.mem_cons_of_mem _ hy)) i2
    refine ⟨ρ', ?_, by simpa using i3⟩
    rw [v_forC, e1]
    simp [e2, e3]
theorem comp_rel {vs : List Nat} {mg : MG} {mt : M Bool} {me : M D} (I : List D → Prop) (P : D → Prop) : ∀ (xs : List D) (ρ : List D), (∀ d ∈ xs, ∀ ρ, I ρ → ∃ x ρ', stepL vs mg mt me d ρ = .ok (some x) ρ' ∧ I ρ' ∧ P x) → I ρ → ∃ ys ρ', compL vs mg mt me xs ρ = .ok ys ρ' ∧ I ρ' ∧ ys.length = xs.length ∧ ∀ y ∈ ys, P y
  | [], ρ, _, i => ⟨[], ρ, rfl, i, rfl, by simp⟩
  | d :: ds, ρ, h, i => by
    obtain ⟨x, ρ1, e1, i1, p⟩ := h d List.mem_cons_self ρ i
    obtain ⟨ys, ρ2, e2, i2, l, q⟩ := comp_rel I P ds ρ1 (fun d hd => h d (List.mem_cons_of_mem _ hd)) i1
    refine ⟨x :: ys, ρ2, ?_, i2, by simp [l], ?_⟩
    · rw [v_compC _ _ _ _ _ _ _ _ e1, e2]; rfl
    · intro y hy
      rcases List.mem_cons.mp hy with rfl | hy
      · exact p
      · exact q y hy
theorem rg_len (i : Int) : (rgD 0 i).length = i.toNat := by simp [rgD]
theorem rg1_ok {i : Int} (h : -1000000 ≤ i) (h2 : i ≤ 1000000) : rg1 [.int i] = some (rgD 0 i) := by
  unfold rg1 rgB
  have h3 : -(2 ^ 62) ≤ i := by omega
  have h4 : i < 2 ^ 62 := by omega
  simp only [h3, h4, decide_true, Bool.and_self, if_true]
@[simp] theorem v_mLcR {ρ : List D} (vs : List Nat) (mi : M (List D)) (mg : MG) (mt : M Bool) (me : M D) : mLcR vs mi mg mt me ρ = (mi ρ).bind fun ds ρ => (compL vs mg mt me ds ρ).bind fun xs => M.opt (if xs.length ≤ SZ then some xs else none) := rfl
theorem scr_lay (ns : List Int) : (D.scr ns).sh = true := by
  unfold D.sh SeqAt.shaped
  have h1 : PyData.canLayAll0 (ns.map PyData.int) = true := lay_all fun d hd => by
    obtain ⟨i, _, rfl⟩ := List.mem_map.mp hd
    rfl
  have h2 : PyData.depthAll (ns.map PyData.int) ≤ 1 := depthAll_le fun d hd => by
    obtain ⟨i, _, rfl⟩ := List.mem_map.mp hd
    simp [PyData.depth]
  have e : (D.scr ns).py = .list (ns.map .int) := rfl
  rw [e, PyData.canLay0, PyData.depth, h1]
  simp
  omega
theorem eq_scr (ns : List Int) : dEq (.scr ns) (.lst []) = some (.bl (decide (ns = []))) := by
  unfold dEq
  rw [scr_lay, g_sh (n := 1) (d := .lst []) (by simp)]
  have : (D.scr ns).eqv (.lst []) = decide (ns = []) := by
    show PyData.eqv (.list (ns.map .int)) (D.lst []).py = _
    rw [py_lst, PyData.eqv]
    cases ns <;> simp [PyData.eqvAll]
  rw [this]
  rfl
theorem mul7919 (i : Int) : dMul (.int i) (.int 7919) = some (.int (i * 7919)) := d_mulI (mulOk_r (by decide) (by decide))
theorem mul104729 (i : Int) : dMul (.int i) (.int 104729) = some (.int (i * 104729)) := d_mulI (mulOk_r (by decide) (by decide))
theorem r__law_cell_ok (ns : List Int) (i : Int) (hn : ns.length ≤ 63) (hi : 0 ≤ i) : ∃ z, r__law_cell [.scr ns, .int i] = .ok (.int z) (.scr ns) := by
  by_cases h : ns = []
  · subst h
    simp only [r__law_cell, m__law_cell]
    simp [eq_scr, mul7919]
  · have hp : 0 < ns.length := List.length_pos_iff.mpr h
    have e0 : dLen (.scr ns) = some (.int ns.length) := rfl
    have e1 : dMod (.int i) (.int (ns.length : Int)) = some (.int (i % (ns.length : Int))) := d_modI (by omega)
    have e2 : dDiv (.int i) (.int (ns.length : Int)) = some (.int (i / (ns.length : Int))) := d_divI (by omega) (by omega)
    have e3 : ∃ z, dIx (.scr ns) (.int (i % (ns.length : Int))) = some (.int z) := by
      obtain ⟨k, hk⟩ : ∃ k : Nat, i % (ns.length : Int) = k := ⟨(i % (ns.length : Int)).toNat, by have := Int.emod_nonneg i (show (ns.length : Int) ≠ 0 by omega); omega⟩
      have hlt : k < ns.length := by have := Int.emod_lt_of_pos i (show (0 : Int) < ns.length by omega); omega
      rw [hk, d_ixC, atI_nat]
      exact ⟨ns[k], by simp [hlt]⟩
    obtain ⟨z, e3⟩ := e3
    generalize (ns.length : Int) = l at *
    simp only [r__law_cell, m__law_cell]
    simp [eq_scr, h, e0, e1, e2, e3, mul104729, -d_lenC, -d_ixC]
theorem r__law_rounds_ok (ns : List Int) (k : Int) (h : ns.length ≤ 63) (h1 : 1 ≤ k) (h2 : k ≤ 100) : ∃ zs : List Int, r__law_rounds [.scr ns, .int k] = .ok (zs.map fun z => dice z 0) := by
  simp only [r__law_rounds, m__law_rounds, rowOf]
  obtain ⟨m, hm, hm1, hm2⟩ : ∃ m : Int, dMax2 [.int 1, .int (if (ns.length : Int) < k then (ns.length : Int) else k)] = some (.int m) ∧ 1 ≤ m ∧ m ≤ 100 := by
    rw [d_max2]
    refine ⟨_, rfl, ?_⟩
    split <;> split <;> omega
  simp [hm, rg1_ok (i := m) (by omega) (by omega)]
  obtain ⟨ys, ρ', e, i, l, q⟩ := comp_rel (vs := [2]) (mg := gNm 2) (mt := tsNo) (me := mLst (aCons (oV (mCall r__law_cell (aCons (oV (mVar 0)) (aCons (oV (mVar 2)) aNil)))) (aCons (oV (mC (.int 0))) aNil))) (fun ρ => ρ = [.scr ns, .int k, .non]) (fun d => ∃ z, d = dice z 0) (rgD 0 m) [.scr ns, .int k, .non] (fun d hd ρ hρ => by
    subst hρ
    unfold rgD at hd
    obtain ⟨i, hi, rfl⟩ := List.mem_map.mp hd
    simp at hi
    obtain ⟨z, hz⟩ := r__law_cell_ok ns i h (by omega)
    exact ⟨dice z 0, _, by simp [stepL, restore, hz, dice], rfl, z, rfl⟩) rfl
  simp [e]
  rw [rg_len] at l
  rw [if_pos (sz_l _ (by omega))]
  simp
  clear e i l
  induction ys with
  | nil => exact ⟨[], rfl⟩
  | cons y ys ih =>
    obtain ⟨zs, hz⟩ := ih fun y hy => q y (List.mem_cons_of_mem _ hy)
    obtain ⟨z, rfl⟩ := q y List.mem_cons_self
    exact ⟨z :: zs, by rw [hz]; rfl⟩
end Hs

namespace Hs
open PySem PySem.Spec L2

structure EarsAt (nms : List Str) (n : Nat) (e : List (Str × Int)) : Prop where
  len : e.length ≤ n
  nd : e.Nodup
  mem : ∀ p ∈ e, p.1 ∈ nms ∧ 1 ≤ p.2 ∧ p.2 ≤ 3
theorem ear_inj {p q : Str × Int} (h : eEar p = eEar q) : p = q := by
  unfold eEar at h
  simp only [D.tup.injEq, List.cons.injEq, D.str.injEq, D.int.injEq, and_true] at h
  exact Prod.ext h.1 h.2
theorem mem_ear {p : Str × Int} {e : List (Str × Int)} : eEar p ∈ e.map eEar ↔ p ∈ e := by
  constructor
  · intro h
    obtain ⟨q, hq, he⟩ := List.mem_map.mp h
    exact ear_inj he ▸ hq
  · exact fun h => List.mem_map.mpr ⟨p, h, rfl⟩
theorem ear_g {p : Str × Int} (h : isWord p.1 = true) : (eEar p).g 1 = true := by
  unfold eEar
  simp [word_ok h]
theorem strLt_tri {a b : Str} (h : a ≠ b) : strLt a b = true ∨ strLt b a = true := by
  unfold strLt
  simp only [decide_eq_true_eq]
  rcases Decidable.em (a.cps.toList < b.cps.toList) with h1 | h1
  · exact .inl h1
  · refine .inr ?_
    rcases Decidable.em (b.cps.toList < a.cps.toList) with h2 | h2
    · exact h2
    · have : a.cps.toList = b.cps.toList := List.le_antisymm (List.not_lt.mp h2) (List.not_lt.mp h1)
      exact (h (by cases a; cases b; congr 1; exact Array.toList_inj.mp this)).elim
theorem earLt_tri {p q : Str × Int} (h : p ≠ q) : earLt p q = true ∨ earLt q p = true := by
  unfold earLt
  by_cases h1 : p.1 = q.1
  · have h2 : p.2 ≠ q.2 := fun e => h (Prod.ext h1 e)
    simp only [h1, if_true, decide_eq_true_eq]
    omega
  · have h1' : ¬ q.1 = p.1 := fun e => h1 e.symm
    simp only [h1, h1', if_false]
    exact strLt_tri h1
theorem strLt_asymm {a b : Str} (h : strLt a b = true) : strLt b a = false := by
  unfold strLt at *
  simp only [decide_eq_true_eq, decide_eq_false_iff_not] at *
  exact fun h2 => List.lt_asymm h h2
theorem earLt_asymm {p q : Str × Int} (h : earLt p q = true) : earLt q p = false := by
  unfold earLt at *
  by_cases h1 : p.1 = q.1
  · simp only [h1, if_true, decide_eq_true_eq] at h
    simp only [h1, if_true, decide_eq_false_iff_not]
    omega
  · have h1' : ¬ q.1 = p.1 := fun e => h1 e.symm
    simp only [h1, h1', if_false] at *
    exact strLt_asymm h
def sort2 : List (Str × Int) → List (Str × Int)
  | [a, b] => if earLt b a then [b, a] else [a, b]
  | l => l
theorem dle_ear (p q : Str × Int) : PySem.W.dataLe false D.py (eEar p) (eEar q) = !earLt q p := by
  rw [← ear_lt]
  rfl
theorem sortD_ears (e : List (Str × Int)) (h : e.length ≤ 2) : sortD (e.map eEar) = (sort2 e).map eEar := by
  unfold sortD
  match e, h with
  | [], _ => simp [sort2]
  | [a], _ => simp [sort2]
  | [a, b], _ =>
    have : ([a, b].map eEar).mergeSort (PySem.W.dataLe false D.py) = if PySem.W.dataLe false D.py (eEar a) (eEar b) then [eEar a, eEar b] else [eEar b, eEar a] := by
      simp [List.mergeSort, List.merge, List.MergeSort.Internal.splitInTwo]
    rw [this, dle_ear, sort2]
    cases earLt b a <;> simp
theorem canSort_ears (e : List (Str × Int)) (h : e.length ≤ 2) : canSort (e.map eEar) = true := by
  have a1 : ∀ p q : Str × Int, (eEar p).alike (eEar q) = true := fun _ _ => rfl
  have a2 : ∀ p : Str × Int, (eEar p).plain = true := fun _ => rfl
  have a3 : ∀ p : Str × Int, (eEar p).depth = 1 := fun _ => rfl
  have a4 : ∀ p : Str × Int, tupNe (eEar p) = true := fun _ => rfl
  unfold canSort alikeL
  have pl : D.plainL (e.map eEar) = true := by
    induction e with
    | nil => rfl
    | cons x e ih => rw [List.map_cons, D.plainL, a2, ih (by simp at h; omega)]; rfl
  rw [pl]
  have hs : e.length ≤ SZ := sz_l e.length (by omega)
  simp [a1, a3, a4, hs]
theorem sort2_spec {nms : List Str} {n : Nat} {e : List (Str × Int)} (h : EarsAt nms n e) (hn : n ≤ 2) : (sort2 e).length = e.length ∧ (∀ p, p ∈ sort2 e ↔ p ∈ e) ∧ riseL earLt (sort2 e) = true := by
  have hl := h.len
  match e, h with
  | [], _ => simp [sort2, riseL]
  | [a], _ => simp [sort2, riseL]
  | [a, b], h =>
    have hd : a ≠ b := by have := h.nd; simp at this; exact this
    have e2 : sort2 [a, b] = if earLt b a then [b, a] else [a, b] := rfl
    rw [e2]
    by_cases hb : earLt b a = true
    · rw [if_pos hb]
      refine ⟨rfl, fun p => ?_, by simp [riseL, hb]⟩
      simp [or_comm]
    · rw [if_neg hb]
      have := (earLt_tri hd).resolve_right hb
      exact ⟨rfl, fun p => Iff.rfl, by simp [riseL, this]⟩
  | a :: b :: c :: r, h => have := h.len; simp at hl; omega
end Hs

namespace Hs
open PySem PySem.Spec L2

theorem for_relS {mg : MG} {b : MS} (I : List D → List D → Prop) (all : List D) (h : ∀ done x rest ρ, done ++ x :: rest = all → I done ρ → ∃ ρ1 ρ2, mg x ρ = some ρ1 ∧ b ρ1 = .nx ρ2 ∧ I (done ++ [x]) ρ2) : ∀ (xs done : List D) (ρ : List D), done ++ xs = all → I done ρ → ∃ ρ', forL mg b xs ρ = .nx ρ' ∧ I all ρ'
  | [], done, ρ, e, i => ⟨ρ, rfl, by simp at e; subst e; exact i⟩
  | x :: xs, done, ρ, e, i => by
    obtain ⟨ρ1, ρ2, e1, e2, i2⟩ := h done x xs ρ e i
    obtain ⟨ρ', e3, i3⟩ := for_relS I all h xs (done ++ [x]) ρ2 (by simpa using e) i2
    refine ⟨ρ', ?_, i3⟩
    rw [v_forC, e1]
    simp [e2, e3]
def b_ear : MS := (sSeq (sSet 7 (mTup (aCons (oV (mOp2 dIx (oV (mVar 2)) (oV (mCallI 0 r__law_roll (aCons (oV (mOpL (one1 dLen) (aCons (oV (mVar 2)) aNil))) aNil))))) (aCons (oV (mOp2 dAdd (oV (mC (.int 1))) (oV (mCallI 0 r__law_roll (aCons (oV (mC (.int 3))) aNil))))) aNil)))) (sIf (tst (mOp2 dNotIn (oV (mVar 7)) (oS 5))) (sE (mLm 5 fApp (mVar 7))) sNx))
def b_sg : MS := (sSeq (sSet 5 (mLst aNil)) (sSeq (sFor (mRg rg1 (aCons (oV (mCallI 0 r__law_roll (aCons (oV (mC (.int 3))) aNil))) aNil)) (gNm 6) b_ear) (sSeq (sSet 8 (mOp2 dIx (oV (mLst (aCons (oV (mC (.int 1))) (aCons (oV (mVar 1)) (aCons (oV (mOp2 dMul (oV (mVar 1)) (oV (mVar 1)))) aNil))))) (oV (mOpL (one1 dLen) (aCons (oS 5) aNil))))) (sE (mLm 3 fApp (mTup (aCons (oV (mVar 4)) (aCons (oV (mOpL (one1 dTuple) (aCons (oV (mOpL (one1 dSorted) (aCons (oS 5) aNil))) aNil))) (aCons (oV (mOpL (one1 dTuple) (aCons (oV (mLc [9] (mRg rg1 (aCons (oV (mVar 8)) aNil)) (gNm 9) tsNo (mCallI 0 r__law_roll (aCons (oV (mVar 1)) aNil)))) aNil))) aNil)))))))))
theorem m_any_singers_eq : m__law_any_singers = (sSeq (sSet 3 (mLst aNil)) (sSeq (sFor (mItems (mVar 2)) (gNm 4) b_sg) (sRet (mOpL (one1 dTuple) (aCons (oS 3) aNil))))) := rfl
structure Nms (nms : List Str) : Prop where
  ne : 1 ≤ nms.length
  le : nms.length ≤ 4
  w : ∀ s ∈ nms, isWord s = true
theorem Nms.at {nms : List Str} (h : Nms nms) {j : Int} (h1 : 0 ≤ j) (h2 : j < nms.length) : ∃ s ∈ nms, dIx (.lst (nms.map .str)) (.int j) = some (.str s) := by
  obtain ⟨k, rfl⟩ : ∃ k : Nat, j = k := ⟨j.toNat, by omega⟩
  have hk : k < nms.length := by omega
  refine ⟨nms[k], List.getElem_mem hk, ?_⟩
  rw [d_ixL, atI_nat]
  simp [hk]
theorem ear_turn {nms : List Str} (hn : Nms nms) {n : Nat} {e : List (Str × Int)} (h : EarsAt nms n e) (hnn : n ≤ 100) (x y m : Int) (F nm a6 a7 a8 a9 : D) : ∃ x' y' e' a7', b_ear [dice x y, .int m, .lst (nms.map .str), F, nm, .lst (e.map eEar), a6, a7, a8, a9] = .nx [dice x' y', .int m, .lst (nms.map .str), F, nm, .lst (e'.map eEar), a6, a7', a8, a9] ∧ EarsAt nms (n + 1) e' := by
  obtain ⟨j, x1, y1, e1, j1, j2⟩ := roll_ok x y nms.length (by have := hn.ne; omega) (by have := hn.le; omega)
  obtain ⟨j', x2, y2, e2, k1, k2⟩ := roll_ok x1 y1 3 (by omega) (by omega)
  obtain ⟨s, hs, e3⟩ := hn.at j1 j2
  have el : dLen (.lst (nms.map .str)) = some (.int nms.length) := by simp
  have hg : (e.map eEar).all (D.g 1) = true := all_g fun p hp => ear_g (hn.w _ (h.mem p hp).1)
  have hg2 : (eEar (s, 1 + j')).g 1 = true := ear_g (hn.w s hs)
  have ni := dNotIn_lst (n := 1) (m := 1) hg hg2
  have ht : D.tup [.str s, .int (1 + j')] = eEar (s, 1 + j') := rfl
  have hap : fApp (e.map eEar) (eEar (s, 1 + j')) = some (.non, (e ++ [(s, 1 + j')]).map eEar) := by
    rw [d_app (by have := h.len; simp; unfold SZ; omega)]
    simp
  by_cases hm : (s, 1 + j') ∈ e
  · have hm' : eEar (s, 1 + j') ∈ e.map eEar := mem_ear.mpr hm
    refine ⟨x2, y2, e, eEar (s, 1 + j'), ?_, ⟨by have := h.len; omega, h.nd, h.mem⟩⟩
    rw [decide_eq_true hm'] at ni
    unfold b_ear
    simp [e1, el, e2, e3, ht, ni, -d_ixL, -d_lenL]
  · have hm' : ¬ eEar (s, 1 + j') ∈ e.map eEar := fun z => hm (mem_ear.mp z)
    refine ⟨x2, y2, e ++ [(s, 1 + j')], eEar (s, 1 + j'), ?_, ⟨by have := h.len; simp; omega, ?_, ?_⟩⟩
    · rw [decide_eq_false hm'] at ni
      unfold b_ear
      simp [e1, el, e2, e3, ht, ni, hap, lmD, -d_ixL, -d_lenL]
    · rw [List.nodup_append]
      refine ⟨h.nd, by simp, fun a ha b hb => ?_⟩
      simp at hb
      subst hb
      exact fun z => hm (z ▸ ha)
    · intro p hp
      rcases List.mem_append.mp hp with hp | hp
      · exact h.mem p hp
      · simp at hp
        subst hp
        exact ⟨hs, by simp; omega, by simp; omega⟩
theorem ears_loop {nms : List Str} (hn : Nms nms) (x y m j : Int) (hj : 0 ≤ j) (hj2 : j < 3) (F nm a6 a7 a8 a9 : D) : ∃ x' y' e' a6' a7', forL (gNm 6) b_ear (rgD 0 j) [dice x y, .int m, .lst (nms.map .str), F, nm, .lst [], a6, a7, a8, a9] = .nx [dice x' y', .int m, .lst (nms.map .str), F, nm, .lst (e'.map eEar), a6', a7', a8, a9] ∧ EarsAt nms 2 e' := by
  have hl : (rgD 0 j).length ≤ 2 := by rw [rg_len]; omega
  obtain ⟨ρ', e, x', y', e', a6', a7', rfl, he⟩ := for_relS (mg := gNm 6) (b := b_ear) (fun done ρ => ∃ x' y' e' a6' a7', ρ = [dice x' y', .int m, .lst (nms.map .str), F, nm, .lst (e'.map eEar), a6', a7', a8, a9] ∧ EarsAt nms done.length e') (rgD 0 j) (fun done d rest ρ ha ⟨x', y', e', a6', a7', hρ, he⟩ => by
    subst hρ
    have hd : done.length ≤ 2 := by rw [← ha] at hl; simp at hl; omega
    obtain ⟨x2, y2, e2, b7, t, h2⟩ := ear_turn hn he (by omega) x' y' m F nm d a7' a8 a9
    exact ⟨_, _, rfl, t, x2, y2, e2, d, b7, rfl, by simpa using h2⟩) (rgD 0 j) [] [dice x y, .int m, .lst (nms.map .str), F, nm, .lst [], a6, a7, a8, a9] rfl ⟨x, y, [], a6, a7, rfl, ⟨by simp, List.nodup_nil, by simp⟩⟩
  exact ⟨x', y', e', a6', a7', e, ⟨by have := he.len; omega, he.nd, he.mem⟩⟩
/-- a table drawn -/
theorem tab_comp (x y m k : Int) (hm : 1 ≤ m) (hm2 : m ≤ 4) (N F nm E a6 a7 a8 a9 : D) : ∃ x' y', ∃ t : List Int, compL [9] (gNm 9) tsNo (mCallI 0 r__law_roll (aCons (oV (mVar 1)) aNil)) (rgD 0 k) [dice x y, .int m, N, F, nm, E, a6, a7, a8, a9] = .ok (t.map .int) [dice x' y', .int m, N, F, nm, E, a6, a7, a8, a9] ∧ t.length = k.toNat ∧ ∀ i ∈ t, 0 ≤ i ∧ i ≤ m - 1 := by
  obtain ⟨ys, ρ', e, ⟨x', y', rfl⟩, l, q⟩ := comp_rel (vs := [9]) (mg := gNm 9) (mt := tsNo) (me := mCallI 0 r__law_roll (aCons (oV (mVar 1)) aNil)) (fun ρ => ∃ x' y', ρ = [dice x' y', .int m, N, F, nm, E, a6, a7, a8, a9]) (fun d => ∃ i, d = .int i ∧ 0 ≤ i ∧ i ≤ m - 1) (rgD 0 k) [dice x y, .int m, N, F, nm, E, a6, a7, a8, a9] (fun d hd ρ ⟨x', y', hρ⟩ => by
    subst hρ
    obtain ⟨j, x1, y1, e1, j1, j2⟩ := roll_ok x' y' m (by omega) (by omega)
    exact ⟨.int j, _, by simp [stepL, restore, e1], ⟨x1, y1, rfl⟩, j, rfl, j1, by omega⟩) ⟨x, y, rfl⟩
  rw [rg_len] at l
  have : ∃ t : List Int, ys = t.map .int ∧ ∀ i ∈ t, 0 ≤ i ∧ i ≤ m - 1 := by
    clear e l
    induction ys with
    | nil => exact ⟨[], rfl, by simp⟩
    | cons y ys ih =>
      obtain ⟨t, rfl, ht⟩ := ih fun z hz => q z (List.mem_cons_of_mem _ hz)
      obtain ⟨i, rfl, hi⟩ := q y List.mem_cons_self
      exact ⟨i :: t, rfl, fun j hj => (List.mem_cons.mp hj).elim (fun e => e ▸ hi) (ht j)⟩
  obtain ⟨t, rfl, ht⟩ := this
  exact ⟨x', y', t, e, by simpa using l, ht⟩
def SgAt (nms : List Str) (m : Int) (s : Sg) : Prop := okSg m s = true ∧ ∀ p ∈ s.ears, p.1 ∈ nms
theorem sg_turn {nms : List Str} (hn : Nms nms) (n : Str) (hw : isWord n = true) (x y m : Int) (hm : 2 ≤ m) (hm2 : m ≤ 4) (F : List D) (hF : F.length ≤ 1000) (a5 a6 a7 a8 a9 : D) : ∃ x' y' s a5' a6' a7' a8' a9', b_sg [dice x y, .int m, .lst (nms.map .str), .lst F, .str n, a5, a6, a7, a8, a9] = .nx [dice x' y', .int m, .lst (nms.map .str), .lst (F ++ [eSg s]), .str n, a5', a6', a7', a8', a9'] ∧ s.nm = n ∧ SgAt nms m s := by
  obtain ⟨j, x1, y1, e1, j1, j2⟩ := roll_ok x y 3 (by omega) (by omega)
  obtain ⟨x2, y2, e, b6, b7, e2, he⟩ := ears_loop hn x1 y1 m j j1 j2 (.lst F) (.str n) a6 a7 a8 a9
  have hl := he.len
  have hp : dIx (.lst [.int 1, .int m, .int (m * m)]) (.int e.length) = some (.int (places m e.length)) := by
    match e, hl with
    | [], _ => simp [places]
    | [a], _ => simp [places]
    | [a, b], _ => simp [places]
  have hpl : places m e.length ≤ 16 := places_le hm2 (by omega)
  have hp0 : 0 ≤ places m e.length := by
    unfold places
    split
    · omega
    · split
      · omega
      · exact Int.mul_nonneg (by omega) (by omega)
  obtain ⟨x3, y3, t, e3, tl, tr⟩ := tab_comp x2 y2 m (places m e.length) (by omega) hm2 (.lst (nms.map .str)) (.lst F) (.str n) (.lst (e.map eEar)) b6 b7 (.int (places m e.length)) a9
  obtain ⟨s1, s2, s3⟩ := sort2_spec he (by omega)
  have hs : dSorted (.lst (e.map eEar)) = some (.lst ((sort2 e).map eEar)) := by
    show (if canSort (e.map eEar) then some (D.lst (sortD (e.map eEar))) else none) = _
    rw [canSort_ears e hl, sortD_ears e hl]
    rfl
  have hmm : dMul (.int m) (.int m) = some (.int (m * m)) := d_mulI (mulOk_r (by omega) (by omega))
  have hz : szL (t.map D.int) = some (.lst (t.map .int)) := szL_ok (by simp; omega)
  refine ⟨x3, y3, ⟨n, sort2 e, t⟩, .lst (e.map eEar), b6, b7, .int (places m e.length), a9, ?_, rfl, ?_, ?_⟩
  · have hap : fApp F (eSg ⟨n, sort2 e, t⟩) = some (.non, F ++ [eSg ⟨n, sort2 e, t⟩]) := d_app (by unfold SZ; omega)
    simp only [eSg, eLn] at hap
    have e3' := e3
    unfold b_sg
    simp [e1, rg1_ok (i := j) (by omega) (by omega), e2, hmm, hp, rg1_ok (i := places m e.length) (by omega) (by omega), e3, hs, hz, hap, lmD, eSg, eLn, -d_ixL]
  · unfold okSg okEars
    simp only [Bool.and_eq_true, List.all_eq_true, decide_eq_true_eq]
    refine ⟨⟨hw, by omega, fun p hp => ?_, s3⟩, ?_, fun i hi => ?_⟩
    · have := he.mem p ((s2 p).mp hp)
      unfold isEar
      simp [hn.w _ this.1, this.2.1, this.2.2]
    · show (t.length : Int) = places m (sort2 e).length
      rw [s1, tl]
      omega
    · have := tr i hi
      unfold inR
      simp [this.1, this.2]
  · exact fun p hp => (he.mem p ((s2 p).mp hp)).1
theorem any_singers_ok {nms : List Str} (hn : Nms nms) (x y m : Int) (hm : 2 ≤ m) (hm2 : m ≤ 4) : ∃ x' y', ∃ sgs : List Sg, r__law_any_singers [dice x y, .int m, .lst (nms.map .str)] = .ok (.tup (sgs.map eSg)) (dice x' y') ∧ sgs.map Sg.nm = nms ∧ ∀ s ∈ sgs, SgAt nms m s := by
  simp only [r__law_any_singers, m_any_singers_eq]
  obtain ⟨ρ', e, x', y', sgs, a4, a5, a6, a7, a8, a9, rfl, h1, h2⟩ := for_relS (mg := gNm 4) (b := b_sg) (fun done ρ => ∃ x' y', ∃ sgs : List Sg, ∃ a4 a5 a6 a7 a8 a9, ρ = [dice x' y', .int m, .lst (nms.map .str), .lst (sgs.map eSg), a4, a5, a6, a7, a8, a9] ∧ (sgs.map fun s => D.str s.nm) = done ∧ ∀ s ∈ sgs, SgAt nms m s) (nms.map .str) (fun done d rest ρ ha ⟨x', y', sgs, a4, a5, a6, a7, a8, a9, hρ, h1, h2⟩ => by
    subst hρ
    have hd : d ∈ nms.map D.str := by rw [← ha]; simp
    obtain ⟨n, hnn, rfl⟩ := List.mem_map.mp hd
    have hl : sgs.length ≤ 4 := by
      have e1 : sgs.length = done.length := by rw [← h1]; simp
      have e2 : done.length + (rest.length + 1) = nms.length := by
        have := congrArg List.length ha
        simpa using this
      have := hn.le
      omega
    obtain ⟨x2, y2, s, b5, b6, b7, b8, b9, t, t1, t2⟩ := sg_turn hn n (hn.w n hnn) x' y' m hm hm2 (sgs.map eSg) (by simp; omega) a5 a6 a7 a8 a9
    refine ⟨_, _, rfl, t, x2, y2, sgs ++ [s], .str n, b5, b6, b7, b8, b9, ?_, ?_, ?_⟩
    · simp
    · simp [h1, t1]
    · intro z hz
      rcases List.mem_append.mp hz with hz | hz
      · exact h2 z hz
      · simp at hz
        exact hz ▸ t2) (nms.map .str) [] [dice x y, .int m, .lst (nms.map .str), .lst [], .non, .non, .non, .non, .non, .non] rfl ⟨x, y, [], _, _, _, _, _, _, rfl, rfl, by simp⟩
  refine ⟨x', y', sgs, by simp [e], ?_, h2⟩
  have : (sgs.map Sg.nm).map D.str = nms.map .str := by rw [← h1]; simp
  exact (List.map_inj_right (fun a b h => D.str.inj h)).mp this
/-- few standings -/
def Few (c : Ch) : Prop := (c.many = 2 ∧ c.crew.length ≤ 3) ∨ (c.many = 3 ∧ c.crew.length ≤ 2) ∨ (c.many = 4 ∧ c.crew.length ≤ 1)
theorem any_choir_few (x y : Int) : ∃ x' y', ∃ c : Ch, r__law_any_choir [dice x y] = .ok (eCh c) (dice x' y') ∧ OkC c ∧ Few c ∧ c.nms = (["ann", "bob", "cy"] : List Str).take c.crew.length := by
  obtain ⟨j, x1, y1, e1, j1, j2⟩ := roll_ok x y 6 (by omega) (by omega)
  have hpick : ∃ m n : Int, dIx (.lst [.tup [.int 2, .int 1], .tup [.int 2, .int 2], .tup [.int 2, .int 3], .tup [.int 3, .int 1], .tup [.int 3, .int 2], .tup [.int 4, .int 1]]) (.int j) = some (.tup [.int m, .int n]) ∧ 2 ≤ m ∧ m ≤ 4 ∧ 1 ≤ n ∧ n ≤ 3 ∧ ((m = 2 ∧ n ≤ 3) ∨ (m = 3 ∧ n ≤ 2) ∨ (m = 4 ∧ n ≤ 1)) := by
    obtain ⟨k, rfl⟩ : ∃ k : Nat, j = k := ⟨j.toNat, by omega⟩
    rw [d_ixL, atI_nat]
    match k with
    | 0 => exact ⟨2, 1, rfl, by omega⟩
    | 1 => exact ⟨2, 2, rfl, by omega⟩
    | 2 => exact ⟨2, 3, rfl, by omega⟩
    | 3 => exact ⟨3, 1, rfl, by omega⟩
    | 4 => exact ⟨3, 2, rfl, by omega⟩
    | 5 => exact ⟨4, 1, rfl, by omega⟩
    | k + 6 => omega
  obtain ⟨m, n, hp, hm, hm2, hn1, hn2, hfew⟩ := hpick
  have hnm : ∃ nms : List Str, dSl (.lst [.str "ann", .str "bob", .str "cy"]) none (some n) = some (.lst (nms.map .str)) ∧ Nms nms ∧ riseL strLt nms = true ∧ (nms.length : Int) = n ∧ nms = (["ann", "bob", "cy"] : List Str).take nms.length := by
    obtain rfl | rfl | rfl : n = 1 ∨ n = 2 ∨ n = 3 := by omega
    · exact ⟨["ann"], rfl, ⟨by simp, by simp, by decide +kernel⟩, by decide +kernel, rfl, rfl⟩
    · exact ⟨["ann", "bob"], rfl, ⟨by simp, by simp, by decide +kernel⟩, by decide +kernel, rfl, rfl⟩
    · exact ⟨["ann", "bob", "cy"], rfl, ⟨by simp, by simp, by decide +kernel⟩, by decide +kernel, rfl, rfl⟩
  obtain ⟨nms, hsl, hN, hr, hnn, hnt⟩ := hnm
  obtain ⟨x2, y2, sgs, e2, h1, h2⟩ := any_singers_ok hN x1 y1 m hm hm2
  have hnl0 : sgs.length = nms.length := by rw [← h1]; simp
  refine ⟨x2, y2, ⟨m, sgs⟩, ?_, ?_, ?_, ?_⟩
  · simp only [r__law_any_choir, m__law_any_choir]
    simp [e1, hp, hsl, e2, eCh, -d_ixL, -d_slL]
  · have hnl : sgs.length = nms.length := by rw [← h1]; simp
    refine ⟨hm, hm2, ?_, ?_, fun s hs => (h2 s hs).1, ?_, fun s hs p hp => ?_⟩
    · show 1 ≤ sgs.length
      rw [hnl]; exact hN.ne
    · show sgs.length ≤ 4
      rw [hnl]; exact hN.le
    · show riseL strLt (sgs.map Sg.nm) = true
      rw [h1]; exact hr
    · show p.1 ∈ sgs.map Sg.nm
      rw [h1]
      exact (h2 s hs).2 p hp
  · unfold Few
    show (m = 2 ∧ sgs.length ≤ 3) ∨ (m = 3 ∧ sgs.length ≤ 2) ∨ (m = 4 ∧ sgs.length ≤ 1)
    omega
  · show sgs.map Sg.nm = (["ann", "bob", "cy"] : List Str).take sgs.length
    rw [h1, hnl0]
    exact hnt
theorem any_choir_ok (x y : Int) : ∃ x' y', ∃ c : Ch, r__law_any_choir [dice x y] = .ok (eCh c) (dice x' y') ∧ OkC c := by
  obtain ⟨x', y', c, h1, h2, _⟩ := any_choir_few x y
  exact ⟨x', y', c, h1, h2⟩
end Hs

namespace Hs
open PySem PySem.Spec L2

theorem line_draw (x y m : Int) (hm : 1 ≤ m) (hm2 : m ≤ 4) (C F nm a4 : D) (hC : dIx C (.int 0) = some (.int m)) : ∃ x' y', ∃ t : List Int, compL [4] (gNm 4) tsNo (mCallI 0 r__law_roll (aCons (oV (mOp2 dIx (oV (mVar 1)) (oV (mC (.int 0))))) aNil)) (rgD 0 3) [dice x y, C, F, nm, a4] = .ok (t.map .int) [dice x' y', C, F, nm, a4] ∧ t.length = 3 ∧ ∀ i ∈ t, 0 ≤ i ∧ i ≤ m - 1 := by
  obtain ⟨ys, ρ', e, ⟨x', y', rfl⟩, l, q⟩ := comp_rel (vs := [4]) (mg := gNm 4) (mt := tsNo) (me := mCallI 0 r__law_roll (aCons (oV (mOp2 dIx (oV (mVar 1)) (oV (mC (.int 0))))) aNil)) (fun ρ => ∃ x' y', ρ = [dice x' y', C, F, nm, a4]) (fun d => ∃ i, d = .int i ∧ 0 ≤ i ∧ i ≤ m - 1) (rgD 0 3) [dice x y, C, F, nm, a4] (fun d hd ρ ⟨x', y', hρ⟩ => by
    subst hρ
    obtain ⟨j, x1, y1, e1, j1, j2⟩ := roll_ok x' y' m (by omega) (by omega)
    exact ⟨.int j, _, by simp [stepL, restore, e1, hC], ⟨x1, y1, rfl⟩, j, rfl, j1, by omega⟩) ⟨x, y, rfl⟩
  rw [rg_len] at l
  have : ∃ t : List Int, ys = t.map .int ∧ ∀ i ∈ t, 0 ≤ i ∧ i ≤ m - 1 := by
    clear e l
    induction ys with
    | nil => exact ⟨[], rfl, by simp⟩
    | cons y ys ih =>
      obtain ⟨t, rfl, ht⟩ := ih fun z hz => q z (List.mem_cons_of_mem _ hz)
      obtain ⟨i, rfl, hi⟩ := q y List.mem_cons_self
      exact ⟨i :: t, rfl, fun j hj => (List.mem_cons.mp hj).elim (fun e => e ▸ hi) (ht j)⟩
  obtain ⟨t, rfl, ht⟩ := this
  exact ⟨x', y', t, e, by simpa using l, ht⟩
theorem any_standing_ok {c : Ch} (hc : OkC c) (x y : Int) : ∃ x' y', ∃ st, r__law_any_standing [dice x y, eCh c] = .ok (eSt st) (dice x' y') ∧ OkS c st := by
  simp only [r__law_any_standing, m__law_any_standing]
  have hC : dIx (eCh c) (.int 0) = some (.int c.many) := by simp [eCh]
  have hC1 : dIx (eCh c) (.int 1) = some (.tup (c.crew.map eSg)) := by simp [eCh]
  obtain ⟨ρ', e, x', y', st, a3, a4, rfl, h1, h2⟩ := for_relS (mg := gNm 3) (b := sE (mLm 2 fApp (mOpL (one1 dTuple) (aCons (oV (mLc [4] (mRg rg1 (aCons (oV (mC (.int 3))) aNil)) (gNm 4) tsNo (mCallI 0 r__law_roll (aCons (oV (mOp2 dIx (oV (mVar 1)) (oV (mC (.int 0))))) aNil)))) aNil)))) (fun done ρ => ∃ x' y', ∃ st : List (List Int), ∃ a3 a4, ρ = [dice x' y', eCh c, .lst (st.map eLn), a3, a4] ∧ st.length = done.length ∧ ∀ r ∈ st, r.length = 3 ∧ ∀ i ∈ r, 0 ≤ i ∧ i ≤ c.many - 1) (c.crew.map eSg) (fun done d rest ρ ha ⟨x', y', st, a3, a4, hρ, h1, h2⟩ => by
    subst hρ
    have hl : st.length ≤ 4 := by
      have e2 : done.length + (rest.length + 1) = c.crew.length := by
        have := congrArg List.length ha
        simpa using this
      have := hc.c4
      omega
    obtain ⟨x2, y2, t, e1, t1, t2⟩ := line_draw x' y' c.many (by have := hc.m2; omega) hc.m4 (eCh c) (.lst (st.map eLn)) d a4 hC
    have hz : szL (t.map D.int) = some (.lst (t.map .int)) := szL_ok (by simp; omega)
    have hap : fApp (st.map eLn) (eLn t) = some (.non, st.map eLn ++ [eLn t]) := d_app (by simp; unfold SZ; omega)
    simp only [eLn] at hap
    refine ⟨_, _, rfl, by simp [rg1_ok (i := 3) (by omega) (by omega), e1, hz, lmD, eLn, hap]; rfl, x2, y2, st ++ [t], d, a4, ?_, ?_, ?_⟩
    · simp [eLn]
    · simp [h1]
    · intro r hr
      rcases List.mem_append.mp hr with hr | hr
      · exact h2 r hr
      · simp at hr
        exact hr ▸ ⟨t1, t2⟩) (c.crew.map eSg) [] [dice x y, eCh c, .lst [], .non, .non] rfl ⟨x, y, [], _, _, rfl, rfl, by simp⟩
  refine ⟨x', y', st, ?_, by simpa using h1, h2⟩
  simp [hC1, e, eSt]
def songL (c : Ch) : Nat → List (List Int) → List (List Int)
  | 0, _ => []
  | n + 1, st => next c st :: songL c n (onward c st)
theorem r_rows_of_ok {c : Ch} {st : List (List Int)} (hc : OkC c) (hs : OkS c st) (n : Int) (h0 : 0 ≤ n) (hn : n ≤ 1000) : r_rows_of [eCh c, eSt st, .int n] = .ok (.lst ((songL c n.toNat st).map eLn)) (eCh c) := by
  have key : ∀ (xs : List D) (done : List (List Int)) (st : List (List Int)) (a4 : D), OkS c st → done.length + xs.length ≤ 1000 → ∃ st' a4', forL (gNm 4) (sSeq (sE (mLm 3 fApp (mCall r_all_next (aCons (oV (mVar 0)) (aCons (oV (mVar 1)) aNil))))) (sSet 1 (mCall r_on (aCons (oV (mVar 0)) (aCons (oV (mVar 1)) aNil))))) xs [eCh c, eSt st, .int n, .lst (done.map eLn), a4] = .nx [eCh c, eSt st', .int n, .lst ((done ++ songL c xs.length st).map eLn), a4'] := by
    intro xs
    induction xs with
    | nil => intro done st a4 hs _; exact ⟨st, a4, by simp [songL]⟩
    | cons x xs ih =>
      intro done st a4 hs hl
      simp at hl
      obtain ⟨st', a4', e⟩ := ih (done ++ [next c st]) (onward c st) x (onward_ok hc hs) (by simp; omega)
      refine ⟨st', a4', ?_⟩
      have hap : fApp (done.map eLn) (eLn (next c st)) = some (.non, (done ++ [next c st]).map eLn) := by
        rw [d_app (by simp; unfold SZ; omega)]; simp
      rw [v_forC]
      simp [r_all_next_ch c st hc hs, r_on_ch c st hc hs, lmD, hap, -List.map_append]
      rw [e]
      simp [songL]
  obtain ⟨st', a4', e⟩ := key (rgD 0 n) [] st .non hs (by rw [rg_len]; simp; omega)
  rw [rg_len] at e
  simp only [List.nil_append, List.map_nil] at e
  simp only [r_rows_of, m_rows_of]
  simp [rg1_ok (i := n) (by omega) (by omega), e]
theorem r_song_ok {c : Ch} {st : List (List Int)} (hc : OkC c) (hs : OkS c st) (n : Int) (h0 : 0 ≤ n) (hn : n ≤ 500) : r_song [eCh c, eSt st, .int n] = .ok (.lst ((songL c n.toNat st).map eLn)) (eCh c) := by
  have h1 : r_need_both [eCh c, eSt st] = .ok .non (eCh c) := by
    simp only [r_need_both, m_need_both]
    simp [hc.need, hs.need hc]
  have h2 : r_need_beats [.int n] = .ok .non (.int n) := by
    simp only [r_need_beats, m_need_beats]
    simp [r_is_whole_int, h0, hn]
  simp only [r_song, m_song]
  simp [h1, h2, r_rows_of_ok hc hs n h0 (by omega)]
end Hs

namespace Hs
open PySem PySem.Spec L2

theorem rgD_nat (m : Int) : rgD 0 m = (List.range m.toNat).map fun i => .int (i : Nat) := by
  unfold rgD
  simp
/-- a loop that may end -/
theorem for_any {γ : Type} {mg : MG} {b : MS} (enc : γ → D) (p : γ → Bool) (I : List D → Prop) (d z : D) : ∀ (xs : List γ) (ρ : List D), (∀ x ∈ xs, ∀ ρ, I ρ → ∃ ρ1 ρ2, mg (enc x) ρ = some ρ1 ∧ ((p x = true ∧ b ρ1 = .rt d ρ2 ∧ ρ2.getD 0 .non = z) ∨ (p x = false ∧ b ρ1 = .nx ρ2 ∧ I ρ2))) → I ρ → (xs.any p = true ∧ ∃ ρ', forL mg b (xs.map enc) ρ = .rt d ρ' ∧ ρ'.getD 0 .non = z) ∨ (xs.any p = false ∧ ∃ ρ', forL mg b (xs.map enc) ρ = .nx ρ' ∧ I ρ')
  | [], ρ, _, i => .inr ⟨rfl, ρ, rfl, i⟩
  | x :: xs, ρ, h, i => by
    obtain ⟨ρ1, ρ2, e1, h2⟩ := h x List.mem_cons_self ρ i
    rcases h2 with ⟨p1, e2, i2⟩ | ⟨p1, e2, i2⟩
    · refine .inl ⟨by simp [p1], ρ2, ?_, i2⟩
      rw [List.map_cons, v_forC, e1]
      simp [e2]
    · rcases for_any enc p I d z xs ρ2 (fun y hy => h y (List.mem_cons_of_mem _ hy)) i2 with ⟨q, ρ', e, j⟩ | ⟨q, ρ', e, j⟩
      · refine .inl ⟨by simp [q], ρ', ?_, j⟩
        rw [List.map_cons, v_forC, e1]
        simp [e2, e]
      · refine .inr ⟨by simp [p1, q], ρ', ?_, j⟩
        rw [List.map_cons, v_forC, e1]
        simp [e2, e]
def pairAt (at' : Nat) (line other : Int) : List Int := if at' = 0 then [line, other] else [other, line]
def plc (m : Int) (k at' : Nat) (other line : Int) : Int := place m ((pairAt at' line other).take k)
def rowL (m : Int) (s : Sg) (at' : Nat) (other : Int) : List Int := (List.range m.toNat).map fun line => s.tab.getD (plc m s.ears.length at' other (line : Nat)).toNat 0
def others (m : Int) (s : Sg) : Nat := if s.ears.length = 2 then m.toNat else 1
def counts (m : Int) (s : Sg) (at' : Nat) : Bool := (List.range (others m s)).any fun o => decide (1 < distinct (rowL m s at' (o : Nat)))
structure TabOk (m : Int) (s : Sg) : Prop where
  m2 : 2 ≤ m
  m4 : m ≤ 4
  el : s.ears.length ≤ 2
  tl : (s.tab.length : Int) = places m s.ears.length
theorem TabOk.of {m : Int} {s : Sg} (h2 : 2 ≤ m) (h4 : m ≤ 4) (h : okSg m s = true) : TabOk m s := ⟨h2, h4, (sgF h).el, (sgF h).tl⟩
theorem plc_at {m : Int} {s : Sg} (h : TabOk m s) (at' : Nat) {o l : Int} (ho : 0 ≤ o ∧ o < m) (hl : 0 ≤ l ∧ l < m) : ∃ k : Nat, plc m s.ears.length at' o l = k ∧ k < s.tab.length := by
  have hb : ∀ i ∈ (pairAt at' l o).take s.ears.length, 0 ≤ i ∧ i ≤ m - 1 := by
    intro i hi
    have := List.mem_of_mem_take hi
    unfold pairAt at this
    split at this <;> simp at this <;> rcases this with rfl | rfl <;> omega
  have hln : ((pairAt at' l o).take s.ears.length).length = s.ears.length := by
    have h1 : (pairAt at' l o).length = 2 := by unfold pairAt; split <;> rfl
    rw [List.length_take, h1]
    have := h.el
    omega
  have b := place_bd _ hb h.m2 (by rw [hln]; exact h.el)
  rw [hln, ← h.tl] at b
  unfold plc
  exact ⟨(place m ((pairAt at' l o).take s.ears.length)).toNat, by omega, by omega⟩
theorem lenset (ns : List Int) (h : ns.length ≤ 1000) : dLenSet (.lst (ns.map .int)) = some (.int (distinct ns)) := by
  show setLen _ = _
  unfold setLen
  rw [ints_map]
  simp
  omega
theorem r_do_count_ok {m : Int} {s : Sg} (h : TabOk m s) (at' : Nat) : r_do_count [.int m, eSg s, .int (at' : Nat)] = .ok (.bl (counts m s at')) (.int m) := by
  have e1 : dIx (eSg s) (.int 1) = some (.tup (s.ears.map eEar)) := by simp [eSg]
  have e2 : dIx (eSg s) (.int 2) = some (eLn s.tab) := by simp [eSg]
  have e3 : ∀ x : Nat, dEq (.int (x : Nat)) (.int 2) = some (.bl (decide (x = 2))) := fun x => by
    rw [dEq_g (n := 0) (m := 0) rfl rfl]
    congr 2
    simp only [D.int.injEq]
    exact decide_eq_decide.mpr (by omega)
  have e4 : dEq (.int (at' : Nat)) (.int 0) = some (.bl (decide (at' = 0))) := by rw [dEq_g (n := 0) (m := 0) rfl rfl]; simp
  have hm2 := h.m2
  have hm4 := h.m4
  have ho : ∃ k : Int, k.toNat = others m s ∧ k = (if s.ears.length = 2 then m else 1) ∧ 0 ≤ k ∧ k ≤ 4 := by
    unfold others
    split
    · exact ⟨m, rfl, rfl, by omega, by omega⟩
    · exact ⟨1, rfl, rfl, by omega, by omega⟩
  obtain ⟨k, k1, k2, k3, k4⟩ := ho
  have key := for_any (mg := gNm 5) (b := (sSeq (sSet 6 (mLc [7] (mRg rg1 (aCons (oV (mVar 0)) aNil)) (gNm 7) tsNo (mIf (tst (mOp2 dEq (oV (mVar 2)) (oV (mC (.int 0))))) (mTup (aCons (oV (mVar 7)) (aCons (oV (mVar 5)) aNil))) (mTup (aCons (oV (mVar 5)) (aCons (oV (mVar 7)) aNil)))))) (sIf (tst (mOp2 dGt (oV (mOp1 dLenSet (oV (mLc [8] (mItems (mVar 6)) (gNm 8) tsNo (mOp2 dIx (oV (mVar 4)) (oV (mCall r_place_of (aCons (oV (mVar 0)) (aCons (oV (mSl (oV (mVar 8)) sNo (sAt (mOpL (one1 dLen) (aCons (oV (mVar 3)) aNil))))) aNil))))))))) (oV (mC (.int 1))))) (sRet (mC (.bl true))) sNx))) (fun i : Nat => .int (i : Nat)) (fun o => decide (1 < distinct (rowL m s at' (o : Nat)))) (fun ρ => ∃ a5 a6, ρ = [.int m, eSg s, .int (at' : Nat), .tup (s.ears.map eEar), eLn s.tab, a5, a6, .non, .non]) (.bl true) (.int m) (List.range k.toNat) [.int m, eSg s, .int (at' : Nat), .tup (s.ears.map eEar), eLn s.tab, .non, .non, .non, .non] (fun o hoo ρ ⟨a5, a6, hρ⟩ => by
    subst hρ
    have hok : (o : Int) < m := by
      simp at hoo
      split at k2 <;> omega
    have c1 : ∀ a6, compL [7] (gNm 7) tsNo (mIf (tst (mOp2 dEq (oV (mVar 2)) (oV (mC (.int 0))))) (mTup (aCons (oV (mVar 7)) (aCons (oV (mVar 5)) aNil))) (mTup (aCons (oV (mVar 5)) (aCons (oV (mVar 7)) aNil)))) (rgD 0 m) [.int m, eSg s, .int (at' : Nat), .tup (s.ears.map eEar), eLn s.tab, .int (o : Nat), a6, .non, .non] = .ok ((List.range m.toNat).map fun l : Nat => .tup ((pairAt at' l o).map .int)) [.int m, eSg s, .int (at' : Nat), .tup (s.ears.map eEar), eLn s.tab, .int (o : Nat), a6, .non, .non] := fun a6 => by
      rw [rgD_nat]
      refine comp_map (enc := fun i : Nat => D.int (i : Nat)) (f := fun l : Nat => .tup ((pairAt at' l o).map .int)) _ fun l hl => ?_
      by_cases h0 : at' = 0
      · subst h0
        have e40 : dEq (.int 0) (.int 0) = some (.bl true) := by rw [dEq_g (n := 0) (m := 0) rfl rfl]; simp
        simp [stepL, restore, e40, pairAt]
      · simp [stepL, restore, e4, h0, pairAt]
    have c2 : ∀ a6, compL [8] (gNm 8) tsNo (mOp2 dIx (oV (mVar 4)) (oV (mCall r_place_of (aCons (oV (mVar 0)) (aCons (oV (mSl (oV (mVar 8)) sNo (sAt (mOpL (one1 dLen) (aCons (oV (mVar 3)) aNil))))) aNil))))) ((List.range m.toNat).map fun l : Nat => .tup ((pairAt at' l o).map .int)) [.int m, eSg s, .int (at' : Nat), .tup (s.ears.map eEar), eLn s.tab, .int (o : Nat), a6, .non, .non] = .ok ((rowL m s at' (o : Nat)).map .int) [.int m, eSg s, .int (at' : Nat), .tup (s.ears.map eEar), eLn s.tab, .int (o : Nat), a6, .non, .non] := fun a6 => by
      unfold rowL
      rw [List.map_map]
      refine comp_map (enc := fun l : Nat => D.tup ((pairAt at' l o).map .int)) (f := D.int ∘ fun l : Nat => s.tab.getD (plc m s.ears.length at' (o : Nat) (l : Nat)).toNat 0) _ fun l hl => ?_
      simp at hl
      obtain ⟨q, hq, hq2⟩ := plc_at h at' (o := (o : Nat)) (l := (l : Nat)) (by omega) (by omega)
      have hp := r_place_of_seq m ((pairAt at' l o).take s.ears.length) (.tup (((pairAt at' l o).take s.ears.length).map .int)) rfl (by omega) (by omega)
      have hq' : place m ((pairAt at' l o).take s.ears.length) = q := hq
      rw [hq'] at hp
      have hsl : dSl (.tup ((pairAt at' l o).map .int)) none (some ((s.ears.length : Nat) : Int)) = some (.tup (((pairAt at' l o).take s.ears.length).map .int)) := by
        rw [d_slT, cut_to, List.map_take]
      have hix : dIx (eLn s.tab) (.int (q : Nat)) = some (.int (s.tab.getD q 0)) := by
        rw [eLn, d_ixT, atI_nat]
        simp [hq2]
      simp [stepL, restore, hsl, hp, hix, hq, -List.map_take, -d_slT]
    refine ⟨_, [.int m, eSg s, .int (at' : Nat), .tup (s.ears.map eEar), eLn s.tab, .int (o : Nat), .lst ((List.range m.toNat).map fun l : Nat => .tup ((pairAt at' l o).map .int)), .non, .non], rfl, ?_⟩
    have z1 : szL ((List.range m.toNat).map fun l : Nat => D.tup ((pairAt at' l o).map .int)) = some (.lst ((List.range m.toNat).map fun l : Nat => D.tup ((pairAt at' l o).map .int))) := szL_ok (by simp; omega)
    have z2 : szL ((rowL m s at' (o : Nat)).map .int) = some (.lst ((rowL m s at' (o : Nat)).map .int)) := szL_ok (by simp [rowL]; omega)
    have z3 := lenset (rowL m s at' (o : Nat)) (by simp [rowL]; omega)
    by_cases hd : 1 < distinct (rowL m s at' (o : Nat))
    · refine .inl ⟨by simp [hd], ?_, rfl⟩
      simp [rg1_ok (i := m) (by omega) (by omega), c1, z1, c2, z2, z3, hd]
      omega
    · refine .inr ⟨by simp [hd], ?_, _, _, rfl⟩
      simp [rg1_ok (i := m) (by omega) (by omega), c1, z1, c2, z2, z3, hd]
      omega) ⟨_, _, rfl⟩
  have hk : rg1 [.int (if s.ears.length = 2 then m else 1)] = some ((List.range k.toNat).map fun i : Nat => .int (i : Nat)) := by
    rw [← k2, rg1_ok (by omega) (by omega), rgD_nat]
  unfold counts
  rw [← k1]
  simp only [r_do_count, m_do_count]
  rcases key with ⟨q, ρ', e, j⟩ | ⟨q, ρ', e, a5, a6, rfl⟩
  · rw [q]
    rw [List.getD_eq_getElem?_getD] at j
    by_cases h2 : s.ears.length = 2
    · rw [if_pos h2] at hk
      have e5 := e3 s.ears.length
      rw [decide_eq_true h2] at e5
      simp [e1, e2, e5, hk, e, j]
    · rw [if_neg h2] at hk
      have e5 := e3 s.ears.length
      rw [decide_eq_false h2] at e5
      simp [e1, e2, e5, hk, e, j]
  · rw [q]
    by_cases h2 : s.ears.length = 2
    · rw [if_pos h2] at hk
      have e5 := e3 s.ears.length
      rw [decide_eq_true h2] at e5
      simp [e1, e2, e5, hk, e]
    · rw [if_neg h2] at hk
      have e5 := e3 s.ears.length
      rw [decide_eq_false h2] at e5
      simp [e1, e2, e5, hk, e]
/-- the ears that count -/
def leftE (m : Int) (s : Sg) : List (Str × Int) := (s.ears.zipIdx.filter fun p => counts m s p.2).map Prod.fst
theorem r_ears_that_count_ok {m : Int} {s : Sg} (h : TabOk m s) : r_ears_that_count [.int m, eSg s] = .ok (.tup ((leftE m s).map eEar)) (.int m) := by
  have e1 : dIx (eSg s) (.int 1) = some (.tup (s.ears.map eEar)) := by simp [eSg]
  simp only [r_ears_that_count, m_ears_that_count]
  simp [e1, en_map]
  rw [comp_same (enc := fun p : (Str × Int) × Nat => D.tup [.int p.2, eEar p.1]) (f := fun p => if counts m s p.2 then some (eEar p.1) else none) s.ears.zipIdx (fun p hp => by
    by_cases hc : counts m s p.2
    · simp [stepL, restore, r_do_count_ok h, hc]
    · simp [stepL, restore, r_do_count_ok h, hc])]
  have e : (s.ears.zipIdx.filterMap fun p => if counts m s p.2 then some (eEar p.1) else none) = (leftE m s).map eEar := by
    unfold leftE
    generalize s.ears.zipIdx = l
    induction l with
    | nil => rfl
    | cons p l ih =>
      by_cases hc : counts m s p.2
      · rw [List.map_map] at ih; simp [hc]; exact ih
      · rw [List.map_map] at ih; simp [hc]; exact ih
  have hl : (leftE m s).length ≤ 2 := by
    unfold leftE
    rw [List.length_map]
    refine Nat.le_trans (List.length_filter_le _ _) ?_
    rw [List.length_zipIdx]
    exact h.el
  rw [e]
  simp
  rw [szL_ok (by simp; omega)]
  simp
end Hs

namespace Hs
open PySem PySem.Spec L2

theorem left_sub {m : Int} {s : Sg} : (leftE m s).Sublist s.ears := by
  unfold leftE
  have h : ((s.ears.zipIdx.filter fun p => counts m s p.2).map Prod.fst).Sublist (s.ears.zipIdx.map Prod.fst) := List.Sublist.map _ List.filter_sublist
  simpa using h
def lineL (m : Int) : List Int := (List.range m.toNat).map fun i => ((i : Nat) : Int)
theorem lineL_mem {m i : Int} : i ∈ lineL m ↔ 0 ≤ i ∧ i < m := by
  unfold lineL
  simp only [List.mem_map, List.mem_range]
  constructor
  · rintro ⟨a, h, rfl⟩; omega
  · rintro ⟨h1, h2⟩; exact ⟨i.toNat, by omega, by omega⟩
theorem rgD_line (m : Int) : rgD 0 m = (lineL m).map .int := by
  rw [rgD_nat, lineL, List.map_map]
  rfl
theorem line_len (m : Int) : (lineL m).length = m.toNat := by simp [lineL]
def tabAt (t : List Int) (i : Int) : Int := t.getD i.toNat 0
def leanP (m : Int) (s : Sg) (l : Int) : Int := if (leftE m s).head? = s.ears.head? then l * m else l
def leanSg (m : Int) (s : Sg) : Sg := if leftE m s = s.ears then s else if leftE m s = [] then ⟨s.nm, [], s.tab.take 1⟩ else ⟨s.nm, leftE m s, (lineL m).map fun l => tabAt s.tab (leanP m s l)⟩
theorem map_ear_inj {a b : List (Str × Int)} : a.map eEar = b.map eEar ↔ a = b := List.map_inj_right (fun _ _ h => ear_inj h)
theorem r_lean_singer_ok {m : Int} {s : Sg} (h : TabOk m s) (hw : ∀ p ∈ s.ears, isWord p.1 = true) : r_lean_singer [.int m, eSg s] = .ok (eSg (leanSg m s)) (.int m) := by
  have hm2 := h.m2
  have hm4 := h.m4
  have g1 : (D.tup (s.ears.map eEar)).g 2 = true := all_g fun p hp => ear_g (hw p hp)
  have g2 : (D.tup ((leftE m s).map eEar)).g 2 = true := all_g fun p hp => ear_g (hw p (left_sub.subset hp))
  have q1 : dEq (.tup ((leftE m s).map eEar)) (.tup (s.ears.map eEar)) = some (.bl (decide (leftE m s = s.ears))) := by
    rw [dEq_g g2 g1]
    simp [map_ear_inj]
  have q2 : dEq (.tup ((leftE m s).map eEar)) (.tup []) = some (.bl (decide (leftE m s = []))) := by
    rw [dEq_g (m := 1) g2 rfl]
    simp
  have hc := r_ears_that_count_ok h
  have e0 : eSg s = .tup [.str s.nm, .tup (s.ears.map eEar), eLn s.tab] := rfl
  simp only [r_lean_singer, m_lean_singer]
  by_cases h1 : leftE m s = s.ears
  · rw [decide_eq_true h1] at q1
    have e : leanSg m s = s := by unfold leanSg; rw [if_pos h1]
    rw [e]
    simp [e0]
    simp [← e0, hc, q1]
  · rw [decide_eq_false h1] at q1
    by_cases h2 : leftE m s = []
    · rw [decide_eq_true h2] at q2
      have e : leanSg m s = ⟨s.nm, [], s.tab.take 1⟩ := by unfold leanSg; rw [if_neg h1, if_pos h2]
      rw [e]
      have hsl : dSl (eLn s.tab) none (some 1) = some (eLn (s.tab.take 1)) := by
        rw [eLn, d_slT, show (1 : Int) = ((1 : Nat) : Int) from rfl, cut_to, ← List.map_take]; rfl
      simp [e0]
      simp [← e0, hc, q1, q2, hsl]
      rfl
    · rw [decide_eq_false h2] at q2
      have e : leanSg m s = ⟨s.nm, leftE m s, (lineL m).map fun l => tabAt s.tab (leanP m s l)⟩ := by unfold leanSg; rw [if_neg h1, if_neg h2]
      rw [e]
      obtain ⟨x, ls, hx⟩ := List.exists_cons_of_ne_nil h2
      have hne : s.ears ≠ [] := fun z => h2 (by have := left_sub (m := m) (s := s); rw [z] at this; exact List.sublist_nil.mp this)
      obtain ⟨y, ys, hy⟩ := List.exists_cons_of_ne_nil hne
      have hel : s.ears.length = 2 := by
        have h3 := left_sub (m := m) (s := s)
        have h4 := h3.length_le
        have h5 := h.el
        by_cases h6 : s.ears.length = 2
        · exact h6
        · exact (h1 (h3.eq_of_length (by rw [hx, hy] at *; simp at *; omega))).elim
      have htl : (s.tab.length : Int) = m * m := by rw [h.tl, hel]; rfl
      have hP : ∀ l ∈ lineL m, 0 ≤ leanP m s l ∧ leanP m s l < s.tab.length := fun l hl => by
        obtain ⟨l0, l1⟩ := lineL_mem.mp hl
        unfold leanP
        rw [htl]
        have a1 : m ≤ m * m := by have := Int.mul_le_mul_of_nonneg_left (show (1 : Int) ≤ m by omega) (show 0 ≤ m by omega); omega
        have a2 : l * m ≤ (m - 1) * m := Int.mul_le_mul_of_nonneg_right (by omega) (by omega)
        have a3 : (m - 1) * m = m * m - m := by rw [Int.sub_mul, Int.one_mul]
        have a4 : 0 ≤ l * m := Int.mul_nonneg l0 (by omega)
        split <;> omega
      have i1 : dIx (.tup ((leftE m s).map eEar)) (.int 0) = some (eEar x) := by rw [hx]; simp
      have i2 : dIx (.tup (s.ears.map eEar)) (.int 0) = some (eEar y) := by rw [hy]; simp
      have hxy : dEq (eEar x) (eEar y) = some (.bl (decide ((leftE m s).head? = s.ears.head?))) := by
        rw [dEq_g (ear_g (hw x (left_sub.subset (by rw [hx]; exact List.mem_cons_self)))) (ear_g (hw y (by rw [hy]; exact List.mem_cons_self))), hx, hy]
        congr 2
        simp only [List.head?_cons, Option.some.injEq]
        exact decide_eq_decide.mpr ⟨ear_inj, fun e => by rw [e]⟩
      have c1 : ∀ a5 : D, compL [7] (gNm 7) tsNo (mIf (tst (mOp2 dEq (oV (mOp2 dIx (oV (mVar 5)) (oV (mC (.int 0))))) (oV (mOp2 dIx (oV (mVar 3)) (oV (mC (.int 0))))))) (mOp2 dMul (oV (mVar 7)) (oV (mVar 0))) (mVar 7)) (rgD 0 m) [.int m, eSg s, .str s.nm, .tup (s.ears.map eEar), eLn s.tab, .tup ((leftE m s).map eEar), a5, .non, .non] = .ok ((lineL m).map fun l => .int (leanP m s l)) [.int m, eSg s, .str s.nm, .tup (s.ears.map eEar), eLn s.tab, .tup ((leftE m s).map eEar), a5, .non, .non] := fun a5 => by
        rw [rgD_line]
        refine comp_map (enc := D.int) (f := fun l => .int (leanP m s l)) _ fun l hl => ?_
        have hmul : dMul (.int l) (.int m) = some (.int (l * m)) := d_mulI (mulOk_r (by omega) (by omega))
        unfold leanP
        by_cases hh : (leftE m s).head? = s.ears.head?
        · rw [decide_eq_true hh] at hxy
          simp [stepL, restore, i1, i2, hxy, hh, hmul, -d_ixT]
        · rw [decide_eq_false hh] at hxy
          simp [stepL, restore, i1, i2, hxy, hh, -d_ixT]
      have c2 : ∀ a5 : D, compL [8] (gNm 8) tsNo (mOp2 dIx (oV (mVar 4)) (oV (mVar 8))) ((lineL m).map fun l => D.int (leanP m s l)) [.int m, eSg s, .str s.nm, .tup (s.ears.map eEar), eLn s.tab, .tup ((leftE m s).map eEar), a5, .non, .non] = .ok ((lineL m).map fun l => .int (tabAt s.tab (leanP m s l))) [.int m, eSg s, .str s.nm, .tup (s.ears.map eEar), eLn s.tab, .tup ((leftE m s).map eEar), a5, .non, .non] := fun a5 => by
        refine comp_map (enc := fun l => D.int (leanP m s l)) (f := fun l => .int (tabAt s.tab (leanP m s l))) _ fun l hl => ?_
        obtain ⟨p0, p1⟩ := hP l hl
        obtain ⟨q, hq⟩ : ∃ q : Nat, leanP m s l = q := ⟨(leanP m s l).toNat, by omega⟩
        have hix : dIx (eLn s.tab) (.int (leanP m s l)) = some (.int (tabAt s.tab (leanP m s l))) := by
          rw [hq] at p1 ⊢
          rw [eLn, d_ixT, atI_nat]
          simp [tabAt, show q < s.tab.length by omega]
        simp [stepL, restore, hix]
      have z1 : szL ((lineL m).map fun l => D.int (leanP m s l)) = some (.lst ((lineL m).map fun l => D.int (leanP m s l))) := szL_ok (by simp [line_len]; omega)
      have z2 : szL ((lineL m).map fun l => D.int (tabAt s.tab (leanP m s l))) = some (.lst ((lineL m).map fun l => D.int (tabAt s.tab (leanP m s l)))) := szL_ok (by simp [line_len]; omega)
      simp [e0]
      simp [← e0, hc, q1, q2, rg1_ok (i := m) (by omega) (by omega), c1, z1, c2, z2]
      simp [eSg, eLn, Function.comp_def]
end Hs

namespace Hs
open PySem PySem.Spec L2

theorem distinct_le (ns : List Int) : distinct ns ≤ 1 ↔ ∀ a ∈ ns, ∀ b ∈ ns, a = b := by
  unfold distinct
  have hm := ddup_mem ns
  have hn := ddup_nodup ns
  constructor
  · intro h a ha b hb
    have h1 := (hm a).mpr ha
    have h2 := (hm b).mpr hb
    match hd : ddup ns with
    | [] => rw [hd] at h1; cases h1
    | [x] =>
      rw [hd] at h1 h2
      simp at h1 h2
      rw [h1, h2]
    | x :: y :: r => rw [hd] at h; simp at h
  · intro h
    match hd : ddup ns with
    | [] => simp
    | [x] => simp
    | x :: y :: r =>
      rw [hd] at hn
      have h1 := (hm x).mp (by rw [hd]; simp)
      have h2 := (hm y).mp (by rw [hd]; simp)
      have := h x h1 y h2
      simp [this] at hn
theorem counts_no {m : Int} {s : Sg} {at' : Nat} : counts m s at' = false ↔ ∀ o : Nat, o < others m s → ∀ l l', 0 ≤ l → l < m → 0 ≤ l' → l' < m → tabAt s.tab (plc m s.ears.length at' (o : Nat) l) = tabAt s.tab (plc m s.ears.length at' (o : Nat) l') := by
  unfold counts
  rw [List.any_eq_false]
  constructor
  · intro h o ho l l' h1 h2 h3 h4
    have := h o (List.mem_range.mpr ho)
    simp only [decide_eq_true_eq, Nat.not_lt] at this
    refine (distinct_le _).mp this _ ?_ _ ?_
    · unfold rowL
      exact List.mem_map.mpr ⟨l.toNat, List.mem_range.mpr (by omega), by rw [show ((l.toNat : Nat) : Int) = l by omega]; rfl⟩
    · unfold rowL
      exact List.mem_map.mpr ⟨l'.toNat, List.mem_range.mpr (by omega), by rw [show ((l'.toNat : Nat) : Int) = l' by omega]; rfl⟩
  · intro h o ho
    simp only [decide_eq_true_eq, Nat.not_lt]
    refine (distinct_le _).mpr fun a ha b hb => ?_
    unfold rowL at ha hb
    obtain ⟨l, hl, rfl⟩ := List.mem_map.mp ha
    obtain ⟨l', hl', rfl⟩ := List.mem_map.mp hb
    rw [List.mem_range] at hl hl'
    exact h o (List.mem_range.mp ho) l l' (by omega) (by omega) (by omega) (by omega)
theorem plc1 (m l o : Int) : plc m 1 0 o l = l := by simp [plc, pairAt, place]
theorem plc20 (m l o : Int) : plc m 2 0 o l = l * m + o := by simp [plc, pairAt, place]
theorem plc21 (m l o : Int) : plc m 2 1 o l = o * m + l := by simp [plc, pairAt, place]
theorem no1 {m : Int} {s : Sg} (h : s.ears.length = 1) : counts m s 0 = false ↔ ∀ l l', 0 ≤ l → l < m → 0 ≤ l' → l' < m → tabAt s.tab l = tabAt s.tab l' := by
  have ho : others m s = 1 := by unfold others; rw [if_neg (by omega)]
  rw [counts_no, ho, h]
  simp only [plc1]
  exact ⟨fun z => z 0 (by omega), fun z _ _ => z⟩
theorem no20 {m : Int} {s : Sg} (h : s.ears.length = 2) : counts m s 0 = false ↔ ∀ o, 0 ≤ o → o < m → ∀ l l', 0 ≤ l → l < m → 0 ≤ l' → l' < m → tabAt s.tab (l * m + o) = tabAt s.tab (l' * m + o) := by
  have ho : others m s = m.toNat := by unfold others; rw [if_pos h]
  rw [counts_no, ho, h]
  simp only [plc20]
  refine ⟨fun z o h1 h2 => ?_, fun z o h1 => z o (by omega) (by omega)⟩
  have := z o.toNat (by omega)
  rw [show ((o.toNat : Nat) : Int) = o by omega] at this
  exact this
theorem no21 {m : Int} {s : Sg} (h : s.ears.length = 2) : counts m s 1 = false ↔ ∀ o, 0 ≤ o → o < m → ∀ l l', 0 ≤ l → l < m → 0 ≤ l' → l' < m → tabAt s.tab (o * m + l) = tabAt s.tab (o * m + l') := by
  have ho : others m s = m.toNat := by unfold others; rw [if_pos h]
  rw [counts_no, ho, h]
  simp only [plc21]
  refine ⟨fun z o h1 h2 => ?_, fun z o h1 => z o (by omega) (by omega)⟩
  have := z o.toNat (by omega)
  rw [show ((o.toNat : Nat) : Int) = o by omega] at this
  exact this
theorem tabAt_line {m : Int} (f : Int → Int) {i : Int} (h0 : 0 ≤ i) (h1 : i < m) : tabAt ((lineL m).map f) i = f i := by
  unfold tabAt lineL
  have : i.toNat < m.toNat := by omega
  simp [List.getD_eq_getElem?_getD, this]
  rw [Int.max_eq_left h0]
/-- how a singer becomes lean -/
inductive LeanOf (m : Int) (s : Sg) : Sg → Prop
  | same (h : leftE m s = s.ears) : LeanOf m s s
  | none (h : leftE m s = []) (h1 : s.ears ≠ []) (hc : ∀ i < s.ears.length, counts m s i = false) : LeanOf m s ⟨s.nm, [], s.tab.take 1⟩
  | fst (a b) (h : s.ears = [a, b]) (h0 : counts m s 0 = true) (h1 : counts m s 1 = false) (hl : leftE m s = [a]) : LeanOf m s ⟨s.nm, [a], (lineL m).map fun l => tabAt s.tab (l * m)⟩
  | snd (a b) (h : s.ears = [a, b]) (h0 : counts m s 0 = false) (h1 : counts m s 1 = true) (hl : leftE m s = [b]) : LeanOf m s ⟨s.nm, [b], (lineL m).map fun l => tabAt s.tab l⟩
theorem earLt_irr (p : Str × Int) : earLt p p = false := by
  cases h : earLt p p with
  | false => rfl
  | true => rw [earLt_asymm h] at h; cases h
theorem lean_of {m : Int} {s : Sg} (h : TabOk m s) (hr : riseL earLt s.ears = true) : LeanOf m s (leanSg m s) := by
  match he : s.ears, h.el with
  | [], _ =>
    have hl : leftE m s = s.ears := by unfold leftE; rw [he]; rfl
    unfold leanSg
    rw [if_pos hl]
    exact .same hl
  | [a], _ =>
    cases h0 : counts m s 0 with
    | true =>
      have hl : leftE m s = s.ears := by unfold leftE; rw [he]; simp [h0]
      unfold leanSg
      rw [if_pos hl]
      exact .same hl
    | false =>
      have hl : leftE m s = [] := by unfold leftE; rw [he]; simp [h0]
      have e : leanSg m s = ⟨s.nm, [], s.tab.take 1⟩ := by
        unfold leanSg
        rw [if_neg (by rw [hl, he]; simp), if_pos hl]
      rw [e]
      refine .none hl (by rw [he]; simp) fun i hi => ?_
      rw [he] at hi
      simp at hi
      rw [hi, h0]
  | [a, b], _ =>
    have hab : a ≠ b := fun e => by
      rw [he, e] at hr
      simp [riseL, earLt_irr] at hr
    cases h0 : counts m s 0 with
    | true =>
      cases h1 : counts m s 1 with
      | true =>
        have hl : leftE m s = s.ears := by unfold leftE; rw [he]; simp [h0, h1]
        unfold leanSg
        rw [if_pos hl]
        exact .same hl
      | false =>
        have hl : leftE m s = [a] := by unfold leftE; rw [he]; simp [h0, h1]
        have e : leanSg m s = ⟨s.nm, [a], (lineL m).map fun l => tabAt s.tab (l * m)⟩ := by
          unfold leanSg
          rw [if_neg (by rw [hl, he]; simp), if_neg (by rw [hl]; simp)]
          simp [leanP, hl, he]
        rw [e]
        exact .fst a b he h0 h1 hl
    | false =>
      cases h1 : counts m s 1 with
      | true =>
        have hl : leftE m s = [b] := by unfold leftE; rw [he]; simp [h0, h1]
        have e : leanSg m s = ⟨s.nm, [b], (lineL m).map fun l => tabAt s.tab l⟩ := by
          unfold leanSg
          rw [if_neg (by rw [hl, he]; simp), if_neg (by rw [hl]; simp)]
          simp [leanP, hl, he, Ne.symm hab]
        rw [e]
        exact .snd a b he h0 h1 hl
      | false =>
        have hl : leftE m s = [] := by unfold leftE; rw [he]; simp [h0, h1]
        have e : leanSg m s = ⟨s.nm, [], s.tab.take 1⟩ := by
          unfold leanSg
          rw [if_neg (by rw [hl, he]; simp), if_pos hl]
        rw [e]
        refine .none hl (by rw [he]; simp) fun i hi => ?_
        rw [he] at hi
        simp at hi
        match i, hi with
        | 0, _ => exact h0
        | 1, _ => exact h1
/-- a lean singer's ears all count -/
theorem lean_left {m : Int} {s s' : Sg} (h : TabOk m s) (hl : LeanOf m s s') : leftE m s' = s'.ears := by
  have hm2 := h.m2
  cases hl with
  | same h => exact h
  | none h h1 hc => rfl
  | fst a b he h0 h1 hl =>
    have hlen : s.ears.length = 2 := by rw [he]; rfl
    generalize hs : (⟨s.nm, [a], (lineL m).map fun l => tabAt s.tab (l * m)⟩ : Sg) = s'
    have h2 : counts m s' 0 = true := by
      cases hc : counts m s' 0 with
      | true => rfl
      | false =>
        have z := (no1 (s := s') (by rw [← hs]; rfl)).mp hc
        have y := (no21 hlen).mp h1
        have : counts m s 0 = false := (no20 hlen).mpr fun o o0 o1 l l' l0 l1 k0 k1 => by
          have e1 := y l l0 l1 o 0 o0 o1 (by omega) (by omega)
          have e2 := y l' k0 k1 o 0 o0 o1 (by omega) (by omega)
          have e3 := z l l' l0 l1 k0 k1
          rw [← hs] at e3
          simp only at e3
          rw [tabAt_line (fun l => tabAt s.tab (l * m)) l0 l1, tabAt_line (fun l => tabAt s.tab (l * m)) k0 k1] at e3
          rw [e1, e2, Int.add_zero, Int.add_zero, e3]
        rw [this] at h0; cases h0
    unfold leftE
    rw [show s'.ears = [a] by rw [← hs]]
    simp [h2]
  | snd a b he h0 h1 hl =>
    have hlen : s.ears.length = 2 := by rw [he]; rfl
    generalize hs : (⟨s.nm, [b], (lineL m).map fun l => tabAt s.tab l⟩ : Sg) = s'
    have h2 : counts m s' 0 = true := by
      cases hc : counts m s' 0 with
      | true => rfl
      | false =>
        have z := (no1 (s := s') (by rw [← hs]; rfl)).mp hc
        have y := (no20 hlen).mp h0
        have : counts m s 1 = false := (no21 hlen).mpr fun o o0 o1 l l' l0 l1 k0 k1 => by
          have e1 := y l l0 l1 o 0 o0 o1 (by omega) (by omega)
          have e2 := y l' k0 k1 o 0 o0 o1 (by omega) (by omega)
          have e3 := z l l' l0 l1 k0 k1
          rw [← hs] at e3
          simp only at e3
          rw [tabAt_line (fun l => tabAt s.tab l) l0 l1, tabAt_line (fun l => tabAt s.tab l) k0 k1] at e3
          rw [e1, e2, Int.zero_mul, Int.zero_add, Int.zero_add, e3]
        rw [this] at h1; cases h1
    unfold leftE
    rw [show s'.ears = [b] by rw [← hs]]
    simp [h2]
theorem lean_twice {m : Int} {s : Sg} (h : TabOk m s) (hr : riseL earLt s.ears = true) : leanSg m (leanSg m s) = leanSg m s := by
  have := lean_left h (lean_of h hr)
  show (if leftE m (leanSg m s) = (leanSg m s).ears then leanSg m s else _) = _
  rw [if_pos this]
end Hs

namespace Hs
open PySem PySem.Spec L2

theorem tabAt_mem {t : List Int} {i : Int} (h0 : 0 ≤ i) (h1 : i < t.length) : tabAt t i ∈ t := by
  have h : i.toNat < t.length := by omega
  unfold tabAt
  rw [List.getD_eq_getElem?_getD, List.getElem?_eq_getElem h]
  exact List.getElem_mem h
theorem mul_rng {m l : Int} (hm : 2 ≤ m) (h0 : 0 ≤ l) (h1 : l < m) : 0 ≤ l * m ∧ l * m < m * m ∧ m ≤ m * m := by
  have a1 : m ≤ m * m := by have := Int.mul_le_mul_of_nonneg_left (show (1 : Int) ≤ m by omega) (show 0 ≤ m by omega); omega
  have a2 : l * m ≤ (m - 1) * m := Int.mul_le_mul_of_nonneg_right (by omega) (by omega)
  have a3 : (m - 1) * m = m * m - m := by rw [Int.sub_mul, Int.one_mul]
  have a4 : 0 ≤ l * m := Int.mul_nonneg h0 (by omega)
  omega
theorem lean_ok {m : Int} {s s' : Sg} (h2 : 2 ≤ m) (h4 : m ≤ 4) (h : okSg m s = true) (hl : LeanOf m s s') : okSg m s' = true ∧ s'.nm = s.nm ∧ (∀ p ∈ s'.ears, p ∈ s.ears) := by
  have f := sgF h
  have ht := TabOk.of h2 h4 h
  have he := sg_ears h
  have isE : ∀ p ∈ s.ears, isEar p = true := fun p hp => by
    have := f.ew p hp
    unfold isEar
    simp [this.1, this.2.1, this.2.2]
  have hpos : 1 ≤ s.tab.length := by
    have := f.tl
    have hp : 1 ≤ places m s.ears.length := by
      unfold places
      split
      · omega
      · split
        · omega
        · have := (mul_rng h2 (l := 0) (by omega) (by omega)).2.2; omega
    omega
  have mk : ∀ (e : List (Str × Int)) (t : List Int), e.length ≤ 1 → (∀ p ∈ e, p ∈ s.ears) → (t.length : Int) = places m e.length → (∀ i ∈ t, 0 ≤ i ∧ i ≤ m - 1) → okSg m ⟨s.nm, e, t⟩ = true := fun e t h1 h2 h3 h4 => by
    unfold okSg okEars
    simp only [Bool.and_eq_true, List.all_eq_true, decide_eq_true_eq]
    refine ⟨⟨f.w, by omega, fun p hp => isE p (h2 p hp), ?_⟩, h3, fun i hi => ?_⟩
    · match e, h1 with
      | [], _ => rfl
      | [a], _ => rfl
    · have := h4 i hi
      unfold inR
      simp [this.1, this.2]
  cases hl with
  | same h' => exact ⟨h, rfl, fun p hp => hp⟩
  | none h' h1 hc => exact ⟨mk [] _ (by simp) (by simp) (by simp [places]; omega) (fun i hi => f.tr i (List.mem_of_mem_take hi)), rfl, by simp⟩
  | fst a b he h0 h1 hl =>
    have htl : (s.tab.length : Int) = m * m := by rw [f.tl, he]; rfl
    refine ⟨mk [a] _ (by simp) (by simp [he]) ?_ fun i hi => ?_, rfl, by simp [he]⟩
    · rw [List.length_map, line_len]
      show ((m.toNat : Nat) : Int) = m
      omega
    · obtain ⟨l, hl, rfl⟩ := List.mem_map.mp hi
      obtain ⟨l0, l1⟩ := lineL_mem.mp hl
      have := mul_rng h2 l0 l1
      exact f.tr _ (tabAt_mem this.1 (by omega))
  | snd a b he h0 h1 hl =>
    have htl : (s.tab.length : Int) = m * m := by rw [f.tl, he]; rfl
    refine ⟨mk [b] _ (by simp) (by simp [he]) ?_ fun i hi => ?_, rfl, by simp [he]⟩
    · rw [List.length_map, line_len]
      show ((m.toNat : Nat) : Int) = m
      omega
    · obtain ⟨l, hl, rfl⟩ := List.mem_map.mp hi
      obtain ⟨l0, l1⟩ := lineL_mem.mp hl
      have := mul_rng h2 l0 l1
      exact f.tr _ (tabAt_mem l0 (by omega))
theorem place0 (m : Int) : place m [] = 0 := rfl
theorem place1 (m a : Int) : place m [a] = a := by simp [place]
theorem place2 (m a b : Int) : place m [a, b] = a * m + b := by simp [place]
theorem tline_tab (c : Ch) (st : List (List Int)) (s : Sg) : tline c st s = tabAt s.tab (place c.many (heardBy c st s)) := rfl
theorem lean_tline {c : Ch} {st : List (List Int)} {s s' : Sg} (hc : OkC c) (hs : OkS c st) (h : SgOf c s) (hl : LeanOf c.many s s') : tline c st s' = tline c st s := by
  have hm2 := hc.m2
  rw [tline_tab, tline_tab]
  have hb := heard_bd hs h.hm
  have hln := heard_len c st s
  cases hl with
  | same h' => rfl
  | none h' h1 hcc =>
    have e0 : heardBy c st (⟨s.nm, [], s.tab.take 1⟩ : Sg) = [] := rfl
    rw [e0, place0]
    have et : tabAt (s.tab.take 1) 0 = tabAt s.tab 0 := by
      unfold tabAt
      cases s.tab <;> rfl
    show tabAt (s.tab.take 1) 0 = _
    rw [et]
    match he : s.ears, (sgF h.ok).el with
    | [], _ => exact (h1 he).elim
    | [a], _ =>
      have h3 : s.ears.length = 1 := by rw [he]; rfl
      rw [h3] at hln
      match hh : heardBy c st s, hln with
      | [x], _ =>
        have := hb x (by rw [hh]; simp)
        rw [place1]
        exact (no1 h3).mp (hcc 0 (by omega)) 0 x (by omega) (by omega) this.1 (by omega)
    | [a, b], _ =>
      have h3 : s.ears.length = 2 := by rw [he]; rfl
      rw [h3] at hln
      match hh : heardBy c st s, hln with
      | [x, y], _ =>
        have bx := hb x (by rw [hh]; simp)
        have by' := hb y (by rw [hh]; simp)
        rw [place2]
        have e1 := (no20 h3).mp (hcc 0 (by omega)) y by'.1 (by omega) x 0 bx.1 (by omega) (by omega) (by omega)
        have e2 := (no21 h3).mp (hcc 1 (by omega)) 0 (by omega) (by omega) y 0 by'.1 (by omega) (by omega) (by omega)
        rw [e1, e2, Int.zero_mul, Int.zero_add]
  | fst a b he h0 h1 hl =>
    have h3 : s.ears.length = 2 := by rw [he]; rfl
    rw [h3] at hln
    have e0 : heardBy c st s = [(st.getD (c.ix a.1) []).getD (3 - a.2).toNat 0, (st.getD (c.ix b.1) []).getD (3 - b.2).toNat 0] := by unfold heardBy; rw [he]; rfl
    have e1 : heardBy c st (⟨s.nm, [a], (lineL c.many).map fun l => tabAt s.tab (l * c.many)⟩ : Sg) = [(st.getD (c.ix a.1) []).getD (3 - a.2).toNat 0] := rfl
    rw [e1]
    rw [e0] at hb ⊢
    generalize (st.getD (c.ix a.1) []).getD (3 - a.2).toNat 0 = x at hb ⊢
    generalize (st.getD (c.ix b.1) []).getD (3 - b.2).toNat 0 = y at hb ⊢
    have bx := hb x (by simp)
    have by' := hb y (by simp)
    rw [place1, place2]
    show tabAt ((lineL c.many).map fun l => tabAt s.tab (l * c.many)) x = _
    rw [tabAt_line (fun l => tabAt s.tab (l * c.many)) bx.1 (by omega)]
    have := (no21 h3).mp h1 x bx.1 (by omega) y 0 by'.1 (by omega) (by omega) (by omega)
    rw [this, Int.add_zero]
  | snd a b he h0 h1 hl =>
    have h3 : s.ears.length = 2 := by rw [he]; rfl
    rw [h3] at hln
    have e0 : heardBy c st s = [(st.getD (c.ix a.1) []).getD (3 - a.2).toNat 0, (st.getD (c.ix b.1) []).getD (3 - b.2).toNat 0] := by unfold heardBy; rw [he]; rfl
    have e1 : heardBy c st (⟨s.nm, [b], (lineL c.many).map fun l => tabAt s.tab l⟩ : Sg) = [(st.getD (c.ix b.1) []).getD (3 - b.2).toNat 0] := rfl
    rw [e1]
    rw [e0] at hb ⊢
    generalize (st.getD (c.ix a.1) []).getD (3 - a.2).toNat 0 = x at hb ⊢
    generalize (st.getD (c.ix b.1) []).getD (3 - b.2).toNat 0 = y at hb ⊢
    have bx := hb x (by simp)
    have by' := hb y (by simp)
    rw [place1, place2]
    show tabAt ((lineL c.many).map fun l => tabAt s.tab l) y = _
    rw [tabAt_line (fun l => tabAt s.tab l) by'.1 (by omega)]
    have := (no20 h3).mp h0 y by'.1 (by omega) x 0 bx.1 (by omega) (by omega) (by omega)
    rw [this, Int.zero_mul, Int.zero_add]
def leanCh (c : Ch) : Ch := ⟨c.many, c.crew.map (leanSg c.many)⟩
theorem OkC.tab {c : Ch} (hc : OkC c) {s : Sg} (h : s ∈ c.crew) : TabOk c.many s := TabOk.of hc.m2 hc.m4 (hc.sg s h)
theorem OkC.lof {c : Ch} (hc : OkC c) {s : Sg} (h : s ∈ c.crew) : LeanOf c.many s (leanSg c.many s) := lean_of (hc.tab h) (sgF (hc.sg s h)).er
theorem lean_nms {c : Ch} (hc : OkC c) : (leanCh c).nms = c.nms := by
  unfold Ch.nms leanCh
  rw [List.map_map]
  refine List.map_congr_left fun s h => ?_
  exact (lean_ok hc.m2 hc.m4 (hc.sg s h) (hc.lof h)).2.1
theorem lean_okC {c : Ch} (hc : OkC c) : OkC (leanCh c) := by
  refine ⟨hc.m2, hc.m4, by simp [leanCh]; exact hc.c1, by simp [leanCh]; exact hc.c4, fun s hs => ?_, by rw [lean_nms hc]; exact hc.rise, fun s hs p hp => ?_⟩
  · obtain ⟨z, hz, rfl⟩ := List.mem_map.mp hs
    exact (lean_ok hc.m2 hc.m4 (hc.sg z hz) (hc.lof hz)).1
  · obtain ⟨z, hz, rfl⟩ := List.mem_map.mp hs
    rw [lean_nms hc]
    exact hc.mem z hz p ((lean_ok hc.m2 hc.m4 (hc.sg z hz) (hc.lof hz)).2.2 p hp)
theorem lean_lean {c : Ch} (hc : OkC c) : leanCh (leanCh c) = leanCh c := by
  show (⟨c.many, (c.crew.map (leanSg c.many)).map (leanSg c.many)⟩ : Ch) = ⟨c.many, c.crew.map (leanSg c.many)⟩
  rw [List.map_map]
  congr 1
  refine List.map_congr_left fun s h => ?_
  exact lean_twice (hc.tab h) (sgF (hc.sg s h)).er
theorem lean_okS {c : Ch} {st : List (List Int)} (hs : OkS c st) : OkS (leanCh c) st := ⟨by rw [hs.len]; simp [leanCh], hs.row⟩
theorem lean_heard {c : Ch} (hc : OkC c) (st : List (List Int)) (s : Sg) : heardBy (leanCh c) st s = heardBy c st s := by
  unfold heardBy Ch.ix
  rw [lean_nms hc]
theorem lean_next {c : Ch} {st : List (List Int)} (hc : OkC c) (hs : OkS c st) : next (leanCh c) st = next c st := by
  unfold next
  show (c.crew.map (leanSg c.many)).map _ = _
  rw [List.map_map]
  refine List.map_congr_left fun s h => ?_
  show tline (leanCh c) st (leanSg c.many s) = _
  rw [← lean_tline hc hs (hc.of h) (hc.lof h)]
  unfold tline
  rw [lean_heard hc]
  rfl
theorem lean_song {c : Ch} (hc : OkC c) : ∀ (n : Nat) (st : List (List Int)), OkS c st → songL (leanCh c) n st = songL c n st
  | 0, _, _ => rfl
  | n + 1, st, hs => by
    have e : onward (leanCh c) st = onward c st := by unfold onward; rw [lean_next hc hs]
    rw [songL, songL, e, lean_next hc hs, lean_song hc n _ (onward_ok hc hs)]
theorem OkC.earw {c : Ch} (hc : OkC c) {s : Sg} (h : s ∈ c.crew) : ∀ p ∈ s.ears, isWord p.1 = true := fun p hp => ((sgF (hc.sg s h)).ew p hp).1
theorem r_leaned_ok {c : Ch} (hc : OkC c) : r_leaned [eCh c] = .ok (eCh (leanCh c)) (eCh c) := by
  have e0 : dIx (eCh c) (.int 0) = some (.int c.many) := by simp [eCh]
  have e1 : dIx (eCh c) (.int 1) = some (.tup (c.crew.map eSg)) := by simp [eCh]
  have c1 : compL [1] (gNm 1) tsNo (mCall r_lean_singer (aCons (oV (mOp2 dIx (oV (mVar 0)) (oV (mC (.int 0))))) (aCons (oV (mVar 1)) aNil))) (c.crew.map eSg) [eCh c, .non] = .ok (c.crew.map fun s => eSg (leanSg c.many s)) [eCh c, .non] :=
    comp_map (enc := eSg) (f := fun s => eSg (leanSg c.many s)) c.crew (fun s hs => by simp [stepL, restore, e0, r_lean_singer_ok (hc.tab hs) (hc.earw hs)])
  have z : szL (c.crew.map fun s => eSg (leanSg c.many s)) = some (.lst (c.crew.map fun s => eSg (leanSg c.many s))) := szL_ok (by have := hc.c4; simp; omega)
  simp only [r_leaned, m_leaned]
  simp [e0, e1, c1, z]
  simp [eCh, leanCh, Function.comp_def]
theorem r_lean_ok {c : Ch} (hc : OkC c) : r_lean [eCh c] = .ok (eCh (leanCh c)) (eCh c) := by
  simp only [r_lean, m_lean]
  simp [hc.need, r_leaned_ok hc]
end Hs

namespace Hs
open PySem PySem.Spec L2

theorem strLt_trans {a b c : Str} (h : strLt a b = true) (k : strLt b c = true) : strLt a c = true := by
  unfold strLt at *
  simp only [decide_eq_true_eq] at *
  exact List.lt_trans h k
theorem rise_pw : ∀ xs : List Str, riseL strLt xs = true → xs.Pairwise fun a b => strLt a b = true
  | [], _ => .nil
  | [a], _ => by simp
  | a :: b :: r, h => by
    rw [riseL, Bool.and_eq_true] at h
    have ih := rise_pw (b :: r) h.2
    refine List.pairwise_cons.mpr ⟨fun z hz => ?_, ih⟩
    rcases List.mem_cons.mp hz with rfl | hz
    · exact h.1
    · exact strLt_trans h.1 ((List.pairwise_cons.mp ih).1 z hz)
theorem strLt_irr (a : Str) : strLt a a = false := by
  cases h : strLt a a with
  | false => rfl
  | true => rw [strLt_asymm h] at h; cases h
theorem rise_nd {xs : List Str} (h : riseL strLt xs = true) : xs.Nodup := by
  unfold List.Nodup
  exact (rise_pw xs h).imp fun {a b} z e => by rw [e, strLt_irr] at z; cases z
theorem idx_at {xs : List Str} (h : xs.Nodup) : ∀ (i : Nat) (hi : i < xs.length), xs.idxOf xs[i] = i := by
  induction xs with
  | nil => intro i hi; simp at hi
  | cons x xs ih =>
    intro i hi
    rw [List.nodup_cons] at h
    cases i with
    | zero => simp
    | succ i =>
      simp at hi
      have hne : ¬ x = xs[i] := fun e => h.1 (e ▸ List.getElem_mem hi)
      rw [List.idxOf_cons]
      have e1 : (x == xs[i]) = false := by simpa using hne
      simp [e1, ih h.2 i hi]
theorem r_need_name_ok {c : Ch} (hc : OkC c) {n : Str} (hn : n ∈ c.nms) : r_need_name [eCh c, .str n] = .ok .non (eCh c) := by
  have hw := hc.word hn
  have h1 := dNotIn_lst (n := 0) (m := 0) (x := .str n) hc.nmg (by rw [g_str]; exact word_ok hw)
  rw [decide_eq_true (List.mem_map.mpr ⟨n, hn, rfl⟩)] at h1
  simp only [r_need_name, m_need_name]
  simp [r_all_names_ch c hc.sm.crew, h1]
theorem r_counting_ok {c : Ch} (hc : OkC c) {i : Nat} (hi : i < c.crew.length) : r_counting [eCh c, .str c.crew[i].nm] = .ok (.tup ((leftE c.many c.crew[i]).map eEar)) (eCh c) := by
  have hn : c.crew[i].nm ∈ c.nms := List.mem_map.mpr ⟨_, List.getElem_mem hi, rfl⟩
  have hix : c.ix c.crew[i].nm = i := by
    have h2 : i < c.nms.length := by rw [nms_len]; exact hi
    have e : c.crew[i].nm = c.nms[i] := by simp [Ch.nms]
    unfold Ch.ix
    rw [e]
    exact idx_at (rise_nd hc.rise) i h2
  have e0 : dIx (eCh c) (.int 0) = some (.int c.many) := by simp [eCh]
  have e1 : dIx (eCh c) (.int 1) = some (.tup (c.crew.map eSg)) := by simp [eCh]
  have e2 : dIx (.tup (c.crew.map eSg)) (.int (i : Nat)) = some (eSg c.crew[i]) := by
    rw [d_ixT, atI_nat]; simp [hi]
  have e3 := r_number_of_ch c hc _ hn
  rw [hix] at e3
  simp only [r_counting, m_counting]
  simp [hc.need, r_need_name_ok hc hn, e0, e1, e3, e2, r_ears_that_count_ok (hc.tab (List.getElem_mem hi)), -d_ixT]
def isHead (s : Sg) : Bool := s.ears.all fun p => decide (p.1 = s.nm)
def headsL (c : Ch) : List Str := (c.crew.filter isHead).map Sg.nm
theorem eq_str {a b : Str} (ha : isWord a = true) (hb : isWord b = true) : dEq (.str a) (.str b) = some (.bl (decide (a = b))) := by
  rw [dEq_g (n := 0) (m := 0) (by rw [g_str]; exact word_ok ha) (by rw [g_str]; exact word_ok hb)]
  simp
theorem ne_str {a b : Str} (ha : isWord a = true) (hb : isWord b = true) : dNe (.str a) (.str b) = some (.bl (!decide (a = b))) := by
  rw [dNe_g (n := 0) (m := 0) (by rw [g_str]; exact word_ok ha) (by rw [g_str]; exact word_ok hb)]
  simp
theorem r_heads_ok {c : Ch} (hc : OkC c) : r_heads [eCh c] = .ok (.lst ((headsL (leanCh c)).map .str)) (eCh c) := by
  have hl := lean_okC hc
  generalize hk : leanCh c = k at *
  have e1 : dIx (eCh k) (.int 1) = some (.tup (k.crew.map eSg)) := by simp [eCh]
  have c1 : compL [2] (gNm 2) (tst (mOpL (one1 dAll) (aCons (oV (mLc [3] (mItems (mOp2 dIx (oV (mVar 2)) (oV (mC (.int 1))))) (gNm 3) tsNo (mOp2 dEq (oV (mOp2 dIx (oV (mVar 3)) (oV (mC (.int 0))))) (oV (mOp2 dIx (oV (mVar 2)) (oV (mC (.int 0)))))))) aNil))) (mOp2 dIx (oV (mVar 2)) (oV (mC (.int 0)))) (k.crew.map eSg) [eCh c, .tup (k.crew.map eSg), .non, .non] = .ok ((headsL k).map .str) [eCh c, .tup (k.crew.map eSg), .non, .non] := by
    rw [comp_same (enc := eSg) (f := fun s => if isHead s then some (.str s.nm) else none) k.crew (fun s hs => by
      have f := sgF (hl.sg s hs)
      have i0 : dIx (eSg s) (.int 0) = some (.str s.nm) := by simp [eSg]
      have i1 : dIx (eSg s) (.int 1) = some (.tup (s.ears.map eEar)) := by simp [eSg]
      have c2 : compL [3] (gNm 3) tsNo (mOp2 dEq (oV (mOp2 dIx (oV (mVar 3)) (oV (mC (.int 0))))) (oV (mOp2 dIx (oV (mVar 2)) (oV (mC (.int 0)))))) (s.ears.map eEar) [eCh c, .tup (k.crew.map eSg), eSg s, .non] = .ok (s.ears.map fun p => .bl (decide (p.1 = s.nm))) [eCh c, .tup (k.crew.map eSg), eSg s, .non] :=
        comp_map (enc := eEar) (f := fun p => .bl (decide (p.1 = s.nm))) s.ears (fun p hp => by
          have j0 : dIx (eEar p) (.int 0) = some (.str p.1) := by simp [eEar]
          simp [stepL, restore, i0, j0, eq_str (f.ew p hp).1 f.w])
      have z : szL (s.ears.map fun p => D.bl (decide (p.1 = s.nm))) = some (.lst (s.ears.map fun p => D.bl (decide (p.1 = s.nm)))) := szL_ok (by have := f.el; simp; omega)
      have al := d_allM (fun p : Str × Int => decide (p.1 = s.nm)) s.ears
      by_cases hh : isHead s
      · have al' := al
        rw [show (s.ears.all fun p => decide (p.1 = s.nm)) = true from hh] at al'
        simp [stepL, restore, i0, i1, c2, z, al', hh]
      · have hh' : isHead s = false := by simpa using hh
        have al' := al
        rw [show (s.ears.all fun p => decide (p.1 = s.nm)) = false from hh'] at al'
        simp [stepL, restore, i0, i1, c2, z, al', hh'])]
    congr 1
    unfold headsL
    generalize k.crew = l
    induction l with
    | nil => rfl
    | cons s l ih =>
      by_cases hh : isHead s
      · simp [hh]; rw [List.map_map] at ih; exact ih
      · simp [hh]; rw [List.map_map] at ih; exact ih
  have z : szL ((headsL k).map D.str) = some (.lst ((headsL k).map .str)) := szL_ok (by
    have := hl.c4
    have h2 : (headsL k).length ≤ k.crew.length := by unfold headsL; rw [List.length_map]; exact List.length_filter_le _ _
    simp; omega)
  simp only [r_heads, m_heads]
  simp [hc.need, r_leaned_ok hc, hk, e1, c1, z]
theorem ch_g {c : Ch} (hc : OkC c) : (eCh c).g 5 = true := by
  have h1 : ∀ s ∈ c.crew, (eSg s).g 3 = true := fun s hs => by
    have f := sgF (hc.sg s hs)
    unfold eSg
    have a : (s.ears.map eEar).all (D.g 1) = true := all_g fun p hp => by
      unfold eEar
      simp [word_ok (f.ew p hp).1]
    have b : (s.tab.map D.int).all (D.g 1) = true := all_g fun p hp => rfl
    rw [g_tup, List.all_cons, List.all_cons, List.all_cons, g_str, word_ok f.w, g_tup, a, eLn, g_tup, b]
    rfl
  unfold eCh
  rw [g_tup, List.all_cons, List.all_cons, g_int, g_tup, all_g h1]
  rfl
theorem r_alike_ok {c k : Ch} (hc : OkC c) (hk : OkC k) (hm : c.many = k.many) (hn : c.nms = k.nms) : r_alike_always [eCh c, eCh k] = .ok (.bl (decide (eCh (leanCh c) = eCh (leanCh k)))) (eCh c) := by
  have e0 : dIx (eCh c) (.int 0) = some (.int c.many) := by simp [eCh]
  have e0' : dIx (eCh k) (.int 0) = some (.int c.many) := by simp [eCh, hm]
  have n1 : dNe (.int c.many) (.int c.many) = some (.bl false) := by rw [dNe_g (n := 0) (m := 0) rfl rfl]; simp
  have hg : (D.lst (c.nms.map D.str)).g 1 = true := hc.nmg
  have n2 : dNe (.lst (c.nms.map D.str)) (.lst (c.nms.map D.str)) = some (.bl false) := by rw [dNe_g hg hg]; simp
  have a1 := r_all_names_ch c hc.sm.crew
  have a2 := r_all_names_ch k hk.sm.crew
  rw [← hn] at a2
  have h2 : r_need_two [eCh c, eCh k] = .ok .non (eCh c) := by
    simp only [r_need_two, m_need_two]
    simp [hc.need, hk.need, e0, e0', n1, n2, a1, a2]
  have q := dEq_g (ch_g (lean_okC hc)) (ch_g (lean_okC hk))
  simp only [r_alike_always, m_alike_always]
  simp [h2, r_leaned_ok hc, r_leaned_ok hk, q]
end Hs

namespace Hs
open PySem PySem.Spec L2

def stOf (n : Nat) (g : Nat → Nat → Int) : List (List Int) := (List.range n).map fun i => (List.range 3).map fun j => g i j
theorem stOf_ok {c : Ch} {g : Nat → Nat → Int} (h : ∀ i j, 0 ≤ g i j ∧ g i j ≤ c.many - 1) : OkS c (stOf c.crew.length g) := by
  refine ⟨by simp [stOf], fun r hr => ?_⟩
  obtain ⟨i, _, rfl⟩ := List.mem_map.mp hr
  refine ⟨by simp, fun x hx => ?_⟩
  obtain ⟨j, _, rfl⟩ := List.mem_map.mp hx
  exact h i j
def Ch.co (c : Ch) (p : Str × Int) : Nat × Nat := (c.ix p.1, (3 - p.2).toNat)
theorem stOf_heard {c : Ch} {s : Sg} (g : Nat → Nat → Int) (h : SgOf c s) : heardBy c (stOf c.crew.length g) s = s.ears.map fun p => g (c.co p).1 (c.co p).2 := by
  unfold heardBy
  refine List.map_congr_left fun p hp => ?_
  obtain ⟨h1, h2, h3⟩ := h.hm p hp
  have hi := ix_lt h1
  have hj : (3 - p.2).toNat < 3 := by omega
  unfold stOf Ch.co
  simp [List.getD_eq_getElem?_getD, hi, hj]
theorem ix_inj {c : Ch} {a b : Str} (ha : a ∈ c.nms) (e : c.ix a = c.ix b) : a = b := by
  unfold Ch.ix at e
  have h1 : c.nms.idxOf a < c.nms.length := List.idxOf_lt_length_iff.mpr ha
  have h2 : c.nms[c.nms.idxOf a]'h1 = a := List.getElem_idxOf h1
  have h3 : c.nms.idxOf b < c.nms.length := by rw [← e]; exact h1
  have h4 : c.nms[c.nms.idxOf b]'h3 = b := List.getElem_idxOf h3
  rw [← h2, ← h4]
  congr 1
theorem co_inj {c : Ch} {s t : Sg} (hs : SgOf c s) (ht : SgOf c t) {p q : Str × Int} (hp : p ∈ s.ears) (hq : q ∈ t.ears) (e : c.co p = c.co q) : p = q := by
  obtain ⟨p1, p2, p3⟩ := hs.hm p hp
  obtain ⟨q1, q2, q3⟩ := ht.hm q hq
  unfold Ch.co at e
  obtain ⟨e1, e2⟩ := Prod.mk.inj e
  exact Prod.ext (ix_inj p1 e1) (by omega)
/-- the standing with chosen values at some coordinates -/
def pick (f : Nat × Nat → Option Int) (i j : Nat) : Int := (f (i, j)).getD 0
def two (a b : Nat × Nat) (x y : Int) (k : Nat × Nat) : Option Int := if k = a then some x else if k = b then some y else none
/-- a lean singer -/
structure LeanSg (c : Ch) (s : Sg) : Prop where
  of : SgOf c s
  all : leftE c.many s = s.ears
theorem lean_lean' {c : Ch} (hc : OkC c) {s : Sg} (h : SgOf c s) : LeanSg c (leanSg c.many s) := by
  have ht := TabOk.of hc.m2 hc.m4 h.ok
  have hl := lean_of ht (sgF h.ok).er
  have := lean_ok hc.m2 hc.m4 h.ok hl
  exact ⟨⟨this.1, fun p hp => h.mem p (this.2.2 p hp)⟩, lean_left ht hl⟩
theorem filter_all {α : Type} {p : α → Bool} {l : List α} (h : (l.filter p).length = l.length) : ∀ a ∈ l, p a = true := List.length_filter_eq_length_iff.mp h
theorem counts_of_left {m : Int} {s : Sg} (h : leftE m s = s.ears) (i : Nat) (hi : i < s.ears.length) : counts m s i = true := by
  have h2 : ((s.ears.zipIdx.filter fun p => counts m s p.2).map Prod.fst).length = s.ears.length := congrArg List.length h
  generalize hc : counts m s = f at *
  have hm : (s.ears[i], i) ∈ s.ears.zipIdx := List.mk_mem_zipIdx_iff_getElem?.mpr (List.getElem?_eq_getElem hi)
  have hz : s.ears.zipIdx.length = s.ears.length := List.length_zipIdx
  generalize s.ears.zipIdx = l at *
  rw [List.length_map] at h2
  exact filter_all (p := fun p => f p.2) (h2.trans hz.symm) _ hm
theorem counts_yes {m : Int} {s : Sg} {at' : Nat} (h : counts m s at' = true) : ∃ o : Nat, o < others m s ∧ ∃ l l', 0 ≤ l ∧ l < m ∧ 0 ≤ l' ∧ l' < m ∧ tabAt s.tab (plc m s.ears.length at' (o : Nat) l) ≠ tabAt s.tab (plc m s.ears.length at' (o : Nat) l') := by
  refine Classical.byContradiction fun hn => ?_
  have : counts m s at' = false := counts_no.mpr fun o ho l l' h1 h2 h3 h4 => Classical.byContradiction fun z => hn ⟨o, ho, l, l', h1, h2, h3, h4, z⟩
  rw [this] at h; cases h
/-- what the singer sings by what is heard -/
theorem tline_heard (c : Ch) (st : List (List Int)) (s : Sg) {xs : List Int} (h : heardBy c st s = xs) : tline c st s = tabAt s.tab (place c.many xs) := by rw [tline_tab, h]
/-- an ear that counts is told by two standings that differ at it alone -/
theorem ear_told {c : Ch} (hc : OkC c) {a : Sg} (ha : LeanSg c a) {p : Str × Int} (hp : p ∈ a.ears) : ∃ st st', OkS c st ∧ OkS c st' ∧ tline c st a ≠ tline c st' a ∧ ∀ b, SgOf c b → p ∉ b.ears → heardBy c st b = heardBy c st' b := by
  have hm2 := hc.m2
  have hel := (sgF ha.of.ok).el
  have hcnt := counts_of_left ha.all
  have fin : ∀ (g g' : Nat → Nat → Int), (∀ i j, 0 ≤ g i j ∧ g i j ≤ c.many - 1) → (∀ i j, 0 ≤ g' i j ∧ g' i j ≤ c.many - 1) → (∀ i j, (i, j) ≠ c.co p → g i j = g' i j) → tabAt a.tab (place c.many (a.ears.map fun p => g (c.co p).1 (c.co p).2)) ≠ tabAt a.tab (place c.many (a.ears.map fun p => g' (c.co p).1 (c.co p).2)) → ∃ st st', OkS c st ∧ OkS c st' ∧ tline c st a ≠ tline c st' a ∧ ∀ b, SgOf c b → p ∉ b.ears → heardBy c st b = heardBy c st' b := fun g g' h1 h2 h3 h4 => by
    refine ⟨_, _, stOf_ok h1, stOf_ok h2, ?_, fun b hb hn => ?_⟩
    · rw [tline_heard c _ a (stOf_heard g ha.of), tline_heard c _ a (stOf_heard g' ha.of)]
      exact h4
    · rw [stOf_heard g hb, stOf_heard g' hb]
      refine List.map_congr_left fun q hq => h3 _ _ fun e => hn ?_
      have : q = p := co_inj hb ha.of hq hp e
      exact this ▸ hq
  have rng : ∀ (A B : Nat × Nat) (x y : Int), 0 ≤ x → x < c.many → 0 ≤ y → y < c.many → ∀ i j, 0 ≤ pick (two A B x y) i j ∧ pick (two A B x y) i j ≤ c.many - 1 := fun A B x y x0 x1 y0 y1 i j => by
    unfold pick two
    split
    · simp; omega
    · split
      · simp; omega
      · simp; omega
  match he : a.ears, hel with
  | [], _ => rw [he] at hp; cases hp
  | [e], _ =>
    rw [he] at hp
    simp at hp
    subst hp
    obtain ⟨o, ho, l, l', l0, l1, k0, k1, hne⟩ := counts_yes (hcnt 0 (by rw [he]; simp))
    rw [he] at hne
    simp only [List.length_cons, List.length_nil, Nat.zero_add, plc1] at hne
    refine fin (pick (two (c.co p) (c.co p) l 0)) (pick (two (c.co p) (c.co p) l' 0)) (rng _ _ _ _ l0 l1 (by omega) (by omega)) (rng _ _ _ _ k0 k1 (by omega) (by omega)) (fun i j hij => by simp [pick, two, hij]) ?_
    rw [he]
    simpa [pick, two, place1] using hne
  | [e0, e1], _ =>
    have hne01 : c.co e0 ≠ c.co e1 := fun e => by
      have h01 := co_inj ha.of ha.of (by rw [he]; simp) (by rw [he]; simp) e
      have := (sgF ha.of.ok).er
      rw [he, h01] at this
      simp [riseL, earLt_irr] at this
    have hlen2 : others c.many a = c.many.toNat := by unfold others; rw [he]; rfl
    rw [he] at hp
    rcases List.mem_cons.mp hp with rfl | hp
    · obtain ⟨o, ho, l, l', l0, l1, k0, k1, hne⟩ := counts_yes (hcnt 0 (by rw [he]; simp))
      rw [show a.ears.length = 2 by rw [he]; rfl] at hne
      rw [hlen2] at ho
      simp only [plc20] at hne
      refine fin (pick (two (c.co p) (c.co e1) l o)) (pick (two (c.co p) (c.co e1) l' o)) (rng _ _ _ _ l0 l1 (by omega) (by omega)) (rng _ _ _ _ k0 k1 (by omega) (by omega)) (fun i j hij => by simp [pick, two, hij]) ?_
      rw [he]
      simpa [pick, two, place2, Ne.symm hne01] using hne
    · simp at hp
      subst hp
      obtain ⟨o, ho, l, l', l0, l1, k0, k1, hne⟩ := counts_yes (hcnt 1 (by rw [he]; simp))
      rw [show a.ears.length = 2 by rw [he]; rfl] at hne
      rw [hlen2] at ho
      simp only [plc21] at hne
      refine fin (pick (two (c.co e0) (c.co p) o l)) (pick (two (c.co e0) (c.co p) o l')) (rng _ _ _ _ (by omega) (by omega) l0 l1) (rng _ _ _ _ (by omega) (by omega) k0 k1) (fun i j hij => by simp [pick, two, hij]) ?_
      rw [he]
      simpa [pick, two, place2, Ne.symm hne01] using hne
theorem ears_sub {c : Ch} (hc : OkC c) {a b : Sg} (ha : LeanSg c a) (hb : LeanSg c b) (h : ∀ st, OkS c st → tline c st a = tline c st b) : ∀ p ∈ a.ears, p ∈ b.ears := fun p hp => Classical.byContradiction fun hn => by
  obtain ⟨st, st', s1, s2, hne, hb'⟩ := ear_told hc ha hp
  refine hne ?_
  rw [h st s1, h st' s2]
  unfold tline
  rw [hb' b hb.of hn]
theorem rise_eq : ∀ (x y : List (Str × Int)), x.length ≤ 2 → y.length ≤ 2 → riseL earLt x = true → riseL earLt y = true → (∀ p ∈ x, p ∈ y) → (∀ p ∈ y, p ∈ x) → x = y
  | [], [], _, _, _, _, _, _ => rfl
  | [], b :: r, _, _, _, _, _, h => by have := h b (by simp); cases this
  | a :: r, [], _, _, _, _, h, _ => by have := h a (by simp); cases this
  | [a], [b], _, _, _, _, h, _ => by have := h a (by simp); simp at this; rw [this]
  | [a], [b, b'], _, _, _, r2, h, k => by
    have h1 := k b (by simp)
    have h2 := k b' (by simp)
    simp at h1 h2
    rw [h1, h2] at r2
    simp [riseL, earLt_irr] at r2
  | [a, a'], [b], _, _, r1, _, h, k => by
    have h1 := h a (by simp)
    have h2 := h a' (by simp)
    simp at h1 h2
    rw [h1, h2] at r1
    simp [riseL, earLt_irr] at r1
  | [a, a'], [b, b'], _, _, r1, r2, h, k => by
    have h1 := h a (by simp)
    have h2 := h a' (by simp)
    simp only [riseL, Bool.and_true] at r1 r2
    simp at h1 h2
    rcases h1 with rfl | rfl
    · rcases h2 with rfl | rfl
      · rw [earLt_irr] at r1; cases r1
      · rfl
    · rcases h2 with rfl | rfl
      · rw [earLt_asymm r1] at r2; cases r2
      · rw [earLt_irr] at r1; cases r1
  | _ :: _ :: _ :: _, _, h, _, _, _, _, _ => by simp at h
  | _, _ :: _ :: _ :: _, _, h, _, _, _, _ => by simp at h
theorem tab_ext {t u : List Int} {n : Int} (h1 : (t.length : Int) = n) (h2 : (u.length : Int) = n) (h : ∀ i, 0 ≤ i → i < n → tabAt t i = tabAt u i) : t = u := by
  refine List.ext_getElem (by omega) fun i a b => ?_
  have := h i (by omega) (by omega)
  unfold tabAt at this
  simpa [List.getD_eq_getElem?_getD, a, b] using this
theorem lean_told {c : Ch} (hc : OkC c) {a b : Sg} (ha : LeanSg c a) (hb : LeanSg c b) (hn : a.nm = b.nm) (h : ∀ st, OkS c st → tline c st a = tline c st b) : a = b := by
  have hm2 := hc.m2
  have fa := sgF ha.of.ok
  have fb := sgF hb.of.ok
  have he : a.ears = b.ears := rise_eq _ _ fa.el fb.el fa.er fb.er (ears_sub hc ha hb h) (ears_sub hc hb ha fun st hs => (h st hs).symm)
  have ht : a.tab = b.tab := by
    refine tab_ext fa.tl (by rw [fb.tl, he]) fun i i0 i1 => ?_
    have key : ∀ (g : Nat → Nat → Int), (∀ i j, 0 ≤ g i j ∧ g i j ≤ c.many - 1) → place c.many (a.ears.map fun p => g (c.co p).1 (c.co p).2) = i → tabAt a.tab i = tabAt b.tab i := fun g hg hp => by
      have e := h _ (stOf_ok hg)
      rw [tline_heard c _ a (stOf_heard g ha.of), tline_heard c _ b (stOf_heard g hb.of), ← he, hp] at e
      exact e
    have rng : ∀ (A B : Nat × Nat) (x y : Int), 0 ≤ x → x < c.many → 0 ≤ y → y < c.many → ∀ i j, 0 ≤ pick (two A B x y) i j ∧ pick (two A B x y) i j ≤ c.many - 1 := fun A B x y x0 x1 y0 y1 i j => by
      unfold pick two
      split
      · simp; omega
      · split
        · simp; omega
        · simp; omega
    match hh : a.ears, fa.el with
    | [], _ =>
      rw [hh] at i1
      simp [places] at i1
      exact key (fun _ _ => 0) (fun _ _ => by omega) (by rw [hh]; simp [place]; omega)
    | [e], _ =>
      rw [hh] at i1
      simp [places] at i1
      exact key (pick (two (c.co e) (c.co e) i 0)) (rng _ _ _ _ i0 i1 (by omega) (by omega)) (by rw [hh]; simp [pick, two, place])
    | [e0, e1], _ =>
      have hne01 : c.co e0 ≠ c.co e1 := fun e => by
        have h01 := co_inj ha.of ha.of (by rw [hh]; simp) (by rw [hh]; simp) e
        have := fa.er
        rw [hh, h01] at this
        simp [riseL, earLt_irr] at this
      rw [hh] at i1
      simp [places] at i1
      have d0 : 0 ≤ i / c.many := Int.ediv_nonneg i0 (by omega)
      have d1 : i / c.many < c.many := Int.ediv_lt_of_lt_mul (by omega) i1
      have m0 := Int.emod_nonneg i (show c.many ≠ 0 by omega)
      have m1 := Int.emod_lt_of_pos i (show 0 < c.many by omega)
      refine key (pick (two (c.co e0) (c.co e1) (i / c.many) (i % c.many))) (rng _ _ _ _ d0 d1 m0 m1) ?_
      rw [hh]
      simp [pick, two, place, Ne.symm hne01]
      exact Int.ediv_mul_add_emod i c.many
  cases a
  cases b
  simp only at hn he ht
  subst hn he ht
  rfl
end Hs

namespace Hs
open PySem PySem.Spec L2
theorem ln_g (ns : List Int) : (eLn ns).g 1 = true := all_g fun p hp => rfl
theorem forO_ok {b : MS} {i : Nat} (I : List D → Prop) : ∀ (xs : List D) (ρ : List D), (∀ x ∈ xs, ∀ ρ, I ρ → ∃ ρ2, b (ρ.set i x) = .nx ρ2 ∧ I ρ2) → I ρ → ∃ ρ', forO i b xs ρ = .nx ρ' ∧ I ρ'
  | [], ρ, _, i => ⟨ρ, rfl, i⟩
  | x :: xs, ρ, h, hi => by
    obtain ⟨ρ2, e2, i2⟩ := h x List.mem_cons_self ρ hi
    obtain ⟨ρ', e3, i3⟩ := forO_ok I xs ρ2 (fun y hy => h y (List.mem_cons_of_mem _ hy)) i2
    exact ⟨ρ', by rw [forO, e2]; exact e3, i3⟩
theorem rows_dice (zs : List Int) : (zs.map fun z => dice z 0).all rowOk = true := by
  rw [List.all_eq_true]
  intro d hd
  obtain ⟨z, _, rfl⟩ := List.mem_map.mp hd
  rfl
theorem sh_bl (b : Bool) : (D.bl b).sh = true := by cases b <;> decide +kernel
theorem dNe_bl (a b : Bool) : dNe (.bl a) (.bl b) = some (.bl (!(a == b))) := by
  unfold dNe
  rw [sh_bl, sh_bl]
  cases a <;> cases b <;> rfl
theorem cut_both {α : Type} (xs : List α) (a b : Nat) (h : a ≤ b) (hb : b ≤ xs.length) : cutD xs (some (a : Int)) (some (b : Int)) = (xs.drop a).take (b - a) := by
  unfold cutD
  rw [HT.sIx_nat, HT.sIx_nat, Nat.min_eq_left hb, Nat.min_eq_left (show a ≤ xs.length by omega)]
theorem okC_of {nms : List Str} (hN : Nms nms) (hr : riseL strLt nms = true) {m : Int} {sgs : List Sg} (hm : 2 ≤ m) (hm2 : m ≤ 4) (h1 : sgs.map Sg.nm = nms) (h2 : ∀ s ∈ sgs, SgAt nms m s) : OkC ⟨m, sgs⟩ := by
  have hnl : sgs.length = nms.length := by rw [← h1]; simp
  refine ⟨hm, hm2, ?_, ?_, fun s hs => (h2 s hs).1, ?_, fun s hs p hp => ?_⟩
  · show 1 ≤ sgs.length
    rw [hnl]; exact hN.ne
  · show sgs.length ≤ 4
    rw [hnl]; exact hN.le
  · show riseL strLt (sgs.map Sg.nm) = true
    rw [h1]; exact hr
  · show p.1 ∈ sgs.map Sg.nm
    rw [h1]
    exact (h2 s hs).2 p hp
end Hs

namespace Hs
open PySem PySem.Spec PyProof.Rows L2
def m_need_beat : MS := (sIf (tNotM (tst (mCall r_is_whole (aCons (oV (mVar 0)) (aCons (oV (mC (.int 0))) (aCons (oV (mC (.int 1000000000000000000))) aNil)))))) sBad sNx)
def r_need_beat : Fn := fnOf 1 0 m_need_beat
def m_walked : MS := (sSeq (sPar [2, 3] (pCons mDct0 (pCons (mLst aNil) pNil))) (sSeq (sWhile FU (tst (mOp2 dDNotIn (oV (mVar 1)) (oS 2))) (sSeq (sDSet 2 (mOpL (one1 dLen) (aCons (oS 3) aNil)) (mVar 1)) (sSeq (sE (mLm 3 fApp (mVar 1))) (sSeq (sSet 1 (mCall r_on (aCons (oV (mVar 0)) (aCons (oV (mVar 1)) aNil)))) (sIf (tst (mOp2 dEq (oV (mOpL (one1 dLen) (aCons (oS 3) aNil))) (oV (mC (.int 20000))))) sBad sNx))))) (sRet (mTup (aCons (oV (mVar 3)) (aCons (oV (mOp2 dDIx (oS 2) (oV (mVar 1)))) aNil))))))
def r_walked : Fn := fnOf 2 2 m_walked
def m_spot_of : MS := (sRet (mIf (tst (mOp2 dLtX (oV (mVar 2)) (oV (mOpL (one1 dLen) (aCons (oV (mVar 0)) aNil))))) (mVar 2) (mOp2 dAdd (oV (mVar 1)) (oV (mOp2 dMod (oV (mOp2 dSub (oV (mVar 2)) (oV (mVar 1)))) (oV (mOp2 dSub (oV (mOpL (one1 dLen) (aCons (oV (mVar 0)) aNil))) (oV (mVar 1)))))))))
def r_spot_of : Fn := fnOf 3 0 m_spot_of
def m_standing_at : MS := (sSeq (sE (mCall r_need_both (aCons (oV (mVar 0)) (aCons (oV (mVar 1)) aNil)))) (sSeq (sE (mCall r_need_beat (aCons (oV (mVar 2)) aNil))) (sSeq (sAsg (mCall r_walked (aCons (oV (mVar 0)) (aCons (oV (mVar 1)) aNil))) (gTp (gCn (gNm 3) (gCn (gNm 4) gNo)))) (sRet (mOp2 dIx (oV (mVar 3)) (oV (mCall r_spot_of (aCons (oV (mVar 3)) (aCons (oV (mVar 4)) (aCons (oV (mVar 2)) aNil))))))))))
def r_standing_at : Fn := fnOf 3 2 m_standing_at
def m__law_crew : MS := (sRet (mLc [1] (mItems (mOp2 dIx (oV (mVar 0)) (oV (mC (.int 1))))) (gNm 1) tsNo (mOp2 dIx (oV (mVar 1)) (oV (mC (.int 0))))))
def r__law_crew : Fn := fnOf 1 1 m__law_crew
def m__law_heard : MS := (sSeq (sSet 4 (mCall r__law_crew (aCons (oV (mVar 0)) aNil))) (sRet (mLc [5, 6] (mItems (mVar 2)) (gTp (gCn (gNm 5) (gCn (gNm 6) gNo))) tsNo (mOp2 dIx (oV (mOp2 dIx (oV (mVar 1)) (oV (mOp2 dSub (oV (mOp2 dAdd (oV (mVar 3)) (oV (mC (.int 3))))) (oV (mVar 6)))))) (oV (mLr dIndex (oV (mVar 4)) (oV (mVar 5))))))))
def r__law_heard : Fn := fnOf 4 3 m__law_heard
def m__law_history : MS := (sRet (mLc [1] (mRg rg1 (aCons (oV (mC (.int 3))) aNil)) (gNm 1) tsNo (mOpL (one1 dTuple) (aCons (oV (mLc [2] (mItems (mVar 0)) (gNm 2) tsNo (mOp2 dIx (oV (mVar 2)) (oV (mVar 1))))) aNil))))
def r__law_history : Fn := fnOf 1 2 m__law_history
def m__law_tells : MS := (sSeq (sSet 4 (mC (.int 0))) (sSeq (sFor (mItems (mCall r__law_heard (aCons (oV (mVar 0)) (aCons (oV (mVar 2)) (aCons (oV (mOp2 dIx (oV (mVar 1)) (oV (mC (.int 1))))) (aCons (oV (mVar 3)) aNil)))))) (gNm 5) (sSet 4 (mOp2 dAdd (oV (mOp2 dMul (oV (mVar 4)) (oV (mOp2 dIx (oV (mVar 0)) (oV (mC (.int 0))))))) (oV (mVar 5))))) (sRet (mOp2 dIx (oV (mOp2 dIx (oV (mVar 1)) (oV (mC (.int 2))))) (oV (mVar 4))))))
def r__law_tells : Fn := fnOf 4 2 m__law_tells
def m__law_sung : MS := (sSeq (sSet 4 (mCallN r__law_history (aCons (oV (mVar 1)) aNil))) (sSeq (sFor (mRg rg1 (aCons (oV (mVar 3)) aNil)) (gNm 5) (sSeq (sSet 6 (mLst aNil)) (sSeq (sFor (mItems (mOp2 dIx (oV (mVar 0)) (oV (mC (.int 1))))) (gNm 7) (sSeq (sSet 8 (mDGet (oV (mVar 2)) (oV (mTup (aCons (oV (mVar 5)) (aCons (oV (mOp2 dIx (oV (mVar 7)) (oV (mC (.int 0))))) aNil)))))) (sE (mLm 6 fApp (mIf (tst (mOp2 dIsN (oV (mVar 8)) (oV (mC .non)))) (mCall r__law_tells (aCons (oV (mVar 0)) (aCons (oV (mVar 7)) (aCons (oS 4) (aCons (oV (mVar 5)) aNil))))) (mVar 8)))))) (sE (mLm 4 fApp (mOpL (one1 dTuple) (aCons (oS 6) aNil))))))) (sRet (mSl (oS 4) (sAt (mC (.int 3))) sNo))))
def r__law_sung : Fn := fnOf 4 5 m__law_sung
def m__law_stand_behind : MS := (sSeq (sSet 2 (mSl (oV (mOp2 dAdd (oV (mCallN r__law_history (aCons (oV (mVar 0)) aNil))) (oV (mVar 1)))) (sAt (mOp1 dNeg (oV (mC (.int 3))))) sNo)) (sRet (mOpL (one1 dTuple) (aCons (oV (mLc [3] (mRg rg1 (aCons (oV (mOpL (one1 dLen) (aCons (oV (mVar 0)) aNil))) aNil)) (gNm 3) tsNo (mOpL (one1 dTuple) (aCons (oV (mLc [4] (mItems (mVar 2)) (gNm 4) tsNo (mOp2 dIx (oV (mVar 4)) (oV (mVar 3))))) aNil)))) aNil))))
def r__law_stand_behind : Fn := fnOf 2 3 m__law_stand_behind
def m__law_ring : MS := (sSeq (sPar [2, 3, 4] (pCons mDct0 (pCons (mLst aNil) (pCons (mVar 1) pNil)))) (sSeq (sWhile FU (tst (mOp2 dDNotIn (oV (mVar 4)) (oS 2))) (sSeq (sDSet 2 (mOpL (one1 dLen) (aCons (oV (mVar 3)) aNil)) (mVar 4)) (sSeq (sSet 3 (mOp2 dAdd (oV (mVar 3)) (oV (mCall r__law_sung (aCons (oV (mVar 0)) (aCons (oV (mVar 4)) (aCons (oV mDct0) (aCons (oV (mC (.int 1))) aNil)))))))) (sSet 4 (mCall r__law_stand_behind (aCons (oV (mVar 4)) (aCons (oV (mSl (oV (mVar 3)) (sAt (mOp1 dNeg (oV (mC (.int 1))))) sNo)) aNil))))))) (sRet (mTup (aCons (oV (mOp2 dDIx (oS 2) (oV (mVar 4)))) (aCons (oV (mOp2 dSub (oV (mOpL (one1 dLen) (aCons (oV (mVar 3)) aNil))) (oV (mOp2 dDIx (oS 2) (oV (mVar 4)))))) (aCons (oV (mVar 3)) aNil)))))))
def r__law_ring : Fn := fnOf 2 3 m__law_ring
end Hs

namespace Hs
open PySem PySem.Spec PyProof.Rows L2
def m_lines_round : MS := (sSeq (sAsg (mCall r_walked (aCons (oV (mVar 0)) (aCons (oV (mVar 1)) aNil))) (gTp (gCn (gNm 2) (gCn (gNm 3) gNo)))) (sRet (mTup (aCons (oV (mLc [4] (mItems (mVar 2)) (gNm 4) tsNo (mCall r_all_next (aCons (oV (mVar 0)) (aCons (oV (mVar 4)) aNil))))) (aCons (oV (mVar 3)) aNil)))))
def r_lines_round : Fn := fnOf 2 3 m_lines_round
end Hs

namespace Hs
open PySem PySem.Spec L2

@[simp] theorem v_mDct0 {ρ : List D} : mDct0 ρ = .ok (.dct [] []) ρ := rfl
@[simp] theorem isDct_dct (ks ds : List D) : isDct (.dct ks ds) = true := rfl
@[simp] theorem v_mDGet {ρ : List D} (mo m : M OV) : mDGet mo m ρ = (mo ρ).bind fun x ρ => if isDct (x.get ρ) then (m ρ).bind (fun y ρ => M.opt (dDGet (x.get ρ) (y.get ρ) .non) ρ) else .bad := rfl
@[simp] theorem v_mDGetX {ρ : List D} (mo m : M OV) (mx : M D) : mDGetX mo m mx ρ = (mo ρ).bind fun x ρ => if isDct (x.get ρ) then (m ρ).bind (fun y ρ => (mx ρ).bind fun z ρ => M.opt (dDGet (x.get ρ) (y.get ρ) z) ρ) else .bad := rfl
def dsetR (i : Nat) (d j : D) (ρ : List D) : RS := match ρ.getD i .non with
  | .dct ks ds => match dPutO ks ds j d with
    | some p => .nx (ρ.set i (.dct p.1 p.2))
    | none => .bad
  | _ => .bad
@[simp] theorem v_sDSet {ρ : List D} (i : Nat) (m mi : M D) : sDSet i m mi ρ = (m ρ).rs fun d ρ => (mi ρ).rs fun j ρ => dsetR i d j ρ := rfl
theorem dsetR_of {ρ : List D} {i : Nat} {d j : D} {ks ds : List D} {p : List D × List D} (h : ρ.getD i .non = .dct ks ds) (e : dPutO ks ds j d = some p) : dsetR i d j ρ = .nx (ρ.set i (.dct p.1 p.2)) := by
  unfold dsetR; rw [h]; dsimp only; rw [e]
/-- a while by its turns -/
theorem while_step {c : M Bool} {b : MS} {n : Nat} {ρ ρ2 : List D} {r : RS} (h : c ρ = .ok true ρ) (h2 : b ρ = .nx ρ2) (h3 : whileN c b n ρ2 = r) : whileN c b (n + 1) ρ = r := by
  rw [whileN, h]
  show (match b ρ with
      | .nx ρ2 => whileN c b n ρ2
      | .rt d ρ2 => .rt d ρ2
      | .ex e ρ2 => .ex e ρ2
      | .bad => .bad) = r
  rw [h2]
  exact h3
theorem while_end {c : M Bool} {b : MS} {n : Nat} {ρ : List D} (h : c ρ = .ok false ρ) : whileN c b (n + 1) ρ = .nx ρ := by
  rw [whileN, h]; rfl
section
variable {α : Type} [DecidableEq α] (enc : α → D) (nkf : α → NestedKey)
theorem nkL_map (h : ∀ a, (enc a).nk = some (nkf a)) : ∀ xs : List α, D.nkL (xs.map enc) = some (xs.map nkf)
  | [] => rfl
  | a :: xs => by rw [List.map_cons, D.nkL, h, nkL_map h xs]; rfl
theorem lkN_idx (inj : ∀ a b, nkf a = nkf b → a = b) (a : α) : ∀ (xs : List α) (vs : List D), xs.length = vs.length → lkN (xs.map nkf) vs (nkf a) = if a ∈ xs then vs[xs.idxOf a]? else none
  | [], [], _ => rfl
  | x :: xs, v :: vs, hl => by
    rw [List.map_cons, lkN]
    by_cases h : x = a
    · subst h; simp
    · rw [if_neg fun e => h (inj _ _ e), lkN_idx inj a xs vs (by simpa using hl)]
      have h' : ¬ a = x := fun e => h e.symm
      have hb : (x == a) = false := beq_eq_false_iff_ne.mpr h
      by_cases hm : a ∈ xs
      · simp [hm, List.idxOf_cons, hb]
      · simp [hm, h']
end
theorem idx_nd {α : Type} [DecidableEq α] : ∀ {xs : List α} (h : xs.Nodup) (i : Nat) (hi : i < xs.length), xs.idxOf xs[i] = i
  | x :: xs, h, 0, _ => by simp
  | x :: xs, h, i + 1, hi => by
    rw [List.nodup_cons] at h
    have hi' : i < xs.length := by simpa using hi
    have hne : (x == xs[i]) = false := beq_eq_false_iff_ne.mpr fun e => h.1 (by rw [e]; exact List.getElem_mem hi')
    show (x :: xs).idxOf xs[i] = i + 1
    rw [List.idxOf_cons, hne, idx_nd h.2 i hi']
    rfl
def nkSt (st : List (List Int)) : NestedKey := .tup (st.map fun r => .tup (r.map .num))
theorem nk_ints : ∀ xs : List Int, D.nkL (xs.map .int) = some (xs.map .num)
  | [] => rfl
  | x :: xs => by rw [List.map_cons, D.nkL, nk_ints xs]; rfl
theorem nk_st (st : List (List Int)) : (eSt st).nk = some (nkSt st) := by
  have h : ∀ r : List Int, (eLn r).nk = some (NestedKey.tup (r.map .num)) := fun r => by
    unfold eLn; rw [D.nk, nk_ints]; rfl
  unfold eSt nkSt
  rw [D.nk, nkL_map eLn _ h]
  rfl
theorem nkSt_inj (a b : List (List Int)) (h : nkSt a = nkSt b) : a = b := by
  unfold nkSt at h
  have h1 := NestedKey.tup.inj h
  refine (List.map_inj_right fun x y e => ?_).mp h1
  exact (List.map_inj_right fun i j z => NestedKey.num.inj z).mp (NestedKey.tup.inj e)
theorem nkSt_depth (st : List (List Int)) : (nkSt st).depth ≤ 8 := by
  have h0 : ∀ xs : List Int, NestedKey.depthAll (xs.map .num) = 0 := fun xs => by
    induction xs with
    | nil => rfl
    | cons x xs ih => simp [NestedKey.depthAll, NestedKey.depth, ih]
  have h1 : ∀ st : List (List Int), NestedKey.depthAll (st.map fun r => .tup (r.map .num)) ≤ 1 := fun st => by
    induction st with
    | nil => simp [NestedKey.depthAll]
    | cons r st ih =>
      rw [List.map_cons, NestedKey.depthAll, NestedKey.depth, h0]
      omega
  unfold nkSt
  rw [NestedKey.depth]
  have := h1 st
  omega
theorem kok_st (L : List (List (List Int))) (st : List (List Int)) : kok (L.map eSt) (eSt st) (nkSt st) = true := by
  have h : (L.map eSt).all isTupD = true := by rw [List.all_map]; exact List.all_eq_true.mpr fun p _ => rfl
  unfold kok
  rw [h, decide_eq_true (nkSt_depth st)]
  rfl
theorem get_st (L : List (List (List Int))) (vs : List D) (hl : L.length = vs.length) (st : List (List Int)) : dGetO (L.map eSt) vs (eSt st) = some (if st ∈ L then vs[@List.idxOf (List (List Int)) instBEqOfDecidableEq st L]? else none) := by
  unfold dGetO
  rw [nk_st, nkL_map eSt nkSt nk_st]
  dsimp only
  rw [kok_st, if_pos rfl, lkN_idx nkSt nkSt_inj st L vs hl]
  by_cases hm : st ∈ L
  · rw [if_pos hm, if_pos hm]
  · rw [if_neg hm, if_neg hm]
theorem put_st (L : List (List (List Int))) (vs : List D) (hl : L.length = vs.length) (st : List (List Int)) (hn : st ∉ L) (hz : L.length < 1000000) (v : D) : dPutO (L.map eSt) vs (eSt st) v = some ((L ++ [st]).map eSt, vs ++ [v]) := by
  unfold dPutO
  rw [nk_st, nkL_map eSt nkSt nk_st]
  dsimp only
  rw [kok_st, lkN_idx nkSt nkSt_inj st L vs hl, if_neg hn, List.length_map, decide_eq_true (by unfold SZ; omega)]
  simp
def way (c : Ch) (st : List (List Int)) : Nat → List (List Int)
  | 0 => st
  | n + 1 => onward c (way c st n)
theorem way_ok {c : Ch} {st : List (List Int)} (hc : OkC c) (hs : OkS c st) : ∀ n, OkS c (way c st n)
  | 0 => hs
  | n + 1 => onward_ok hc (way_ok hc hs n)
theorem way_add (c : Ch) (st : List (List Int)) (n : Nat) : ∀ k, way c st (n + k) = way c (way c st n) k
  | 0 => rfl
  | k + 1 => by show onward c (way c st (n + k)) = _; rw [way_add c st n k]; rfl
theorem len_sub {α : Type} [DecidableEq α] : ∀ (xs ys : List α), xs.Nodup → (∀ x ∈ xs, x ∈ ys) → xs.length ≤ ys.length
  | [], ys, _, _ => Nat.zero_le _
  | x :: xs, ys, hn, h => by
    rw [List.nodup_cons] at hn
    have hx := h x List.mem_cons_self
    have := len_sub xs (ys.erase x) hn.2 fun z hz => by
      have hne : z ≠ x := fun e => hn.1 (by rw [← e]; exact hz)
      exact (List.mem_erase_of_ne hne).mpr (h z (List.mem_cons_of_mem _ hz))
    rw [List.length_erase_of_mem hx] at this
    have h0 : 0 < ys.length := List.length_pos_of_mem hx
    rw [List.length_cons]
    omega
/-- where the way meets itself -/
structure Ring (c : Ch) (st : List (List Int)) (n f : Nat) : Prop where
  lt : f < n
  nd : ((List.range n).map (way c st)).Nodup
  eq : way c st n = way c st f
theorem Ring.uniq {c : Ch} {st : List (List Int)} {n f m g : Nat} (h : Ring c st n f) (k : Ring c st m g) : n = m ∧ f = g := by
  have inj : ∀ {n f : Nat}, Ring c st n f → ∀ i j, i < n → j < n → way c st i = way c st j → i = j := fun {n f} h i j hi hj e => by
    have hi' : i < ((List.range n).map (way c st)).length := by simpa using hi
    have hj' : j < ((List.range n).map (way c st)).length := by simpa using hj
    exact (List.getElem_inj h.nd (h₀ := hi') (h₁ := hj')).mp (by simpa using e)
  have hnm : n = m := by
    rcases Nat.lt_trichotomy n m with hlt | rfl | hlt
    · exact absurd (inj k n f hlt (by have := h.lt; omega) h.eq) (by have := h.lt; omega)
    · rfl
    · exact absurd (inj h m g hlt (by have := k.lt; omega) k.eq) (by have := k.lt; omega)
  subst hnm
  exact ⟨rfl, inj h f g h.lt k.lt (h.eq.symm.trans k.eq)⟩
end Hs

namespace Hs
open PySem PySem.Spec L2

def tupsL (m : Int) : Nat → List (List Int)
  | 0 => [[]]
  | n + 1 => (tupsL m n).flatMap fun t => (lineL m).map fun l => t ++ [l]
theorem tups_mem {m : Int} : ∀ {n : Nat} {t : List Int}, t ∈ tupsL m n ↔ t.length = n ∧ ∀ i ∈ t, 0 ≤ i ∧ i < m
  | 0, t => by
    simp only [tupsL, List.mem_singleton]
    constructor
    · rintro rfl; simp
    · rintro ⟨h, _⟩; exact List.length_eq_zero_iff.mp h
  | n + 1, t => by
    simp only [tupsL, List.mem_flatMap, List.mem_map]
    constructor
    · rintro ⟨u, hu, l, hl, rfl⟩
      have := tups_mem.mp hu
      refine ⟨by simp [this.1], fun i hi => ?_⟩
      rcases List.mem_append.mp hi with hi | hi
      · exact this.2 i hi
      · simp at hi
        exact hi ▸ lineL_mem.mp hl
    · rintro ⟨h1, h2⟩
      have hne : t ≠ [] := fun e => by rw [e] at h1; simp at h1
      have e := List.dropLast_concat_getLast hne
      refine ⟨t.dropLast, tups_mem.mpr ⟨by simp [h1], fun i hi => h2 i ((List.dropLast_sublist t).subset hi)⟩, t.getLast hne, lineL_mem.mpr (h2 _ (List.getLast_mem hne)), e⟩
theorem tups_len (m : Int) : ∀ n, (tupsL m n).length = m.toNat ^ n
  | 0 => rfl
  | n + 1 => by
    rw [tupsL, List.length_flatMap]
    have : ((tupsL m n).map fun t => ((lineL m).map fun l => t ++ [l]).length) = (tupsL m n).map fun _ => m.toNat := by
      refine List.map_congr_left fun t _ => ?_
      simp [line_len]
    rw [this, List.map_const', List.sum_replicate_nat, tups_len m n, Nat.pow_succ]
def stT (n : Nat) (t : List Int) : List (List Int) := (List.range n).map fun i => (t.drop (3 * i)).take 3
theorem stT_ok {c : Ch} {t : List Int} (h : t.length = 3 * c.crew.length) (hb : ∀ i ∈ t, 0 ≤ i ∧ i < c.many) : OkS c (stT c.crew.length t) := by
  refine ⟨by simp [stT], fun r hr => ?_⟩
  obtain ⟨i, hi, rfl⟩ := List.mem_map.mp hr
  rw [List.mem_range] at hi
  refine ⟨by rw [List.length_take, List.length_drop]; omega, fun x hx => ?_⟩
  have := hb x (List.mem_of_mem_drop (List.mem_of_mem_take hx))
  omega
theorem stT_flat : ∀ (st : List (List Int)), (∀ r ∈ st, r.length = 3) → stT st.length st.flatten = st
  | [], _ => rfl
  | r :: st, h => by
    have h1 := h r List.mem_cons_self
    have ih := stT_flat st fun z hz => h z (List.mem_cons_of_mem _ hz)
    unfold stT at *
    rw [List.length_cons, List.range_succ_eq_map, List.map_cons, List.map_map]
    congr 1
    · rw [List.flatten_cons, Nat.mul_zero, List.drop_zero, ← h1, List.take_left]
    · conv => rhs; rw [← ih]
      refine List.map_congr_left fun i _ => ?_
      show (((r :: st).flatten).drop (3 * (i + 1))).take 3 = _
      rw [List.flatten_cons, show 3 * (i + 1) = r.length + 3 * i by omega, List.drop_append, List.drop_eq_nil_of_le (by omega), List.nil_append, Nat.add_sub_cancel_left]
theorem flat3_len : ∀ (st : List (List Int)), (∀ r ∈ st, r.length = 3) → st.flatten.length = 3 * st.length
  | [], _ => rfl
  | r :: st, h => by
    rw [List.flatten_cons, List.length_append, h r List.mem_cons_self, flat3_len st fun z hz => h z (List.mem_cons_of_mem _ hz), List.length_cons]
    omega
theorem flat_inj {a b : List (List Int)} (ha : ∀ r ∈ a, r.length = 3) (hb : ∀ r ∈ b, r.length = 3) (h : a.flatten = b.flatten) : a = b := by
  have h1 := flat3_len a ha
  have h2 := flat3_len b hb
  rw [h] at h1
  have hl : a.length = b.length := by omega
  rw [← stT_flat a ha, ← stT_flat b hb, h, hl]
/-- few enough standings -/
def Fit (c : Ch) : Prop := c.many.toNat ^ (3 * c.crew.length) < 20000
theorem few_fit {c : Ch} (h : Few c) : Fit c := by
  unfold Fit
  obtain ⟨h1, h2⟩ | ⟨h1, h2⟩ | ⟨h1, h2⟩ := h
  · rw [h1]
    exact Nat.lt_of_le_of_lt (Nat.pow_le_pow_right (by decide) (show 3 * c.crew.length ≤ 9 by omega)) (by decide)
  · rw [h1]
    exact Nat.lt_of_le_of_lt (Nat.pow_le_pow_right (by decide) (show 3 * c.crew.length ≤ 6 by omega)) (by decide)
  · rw [h1]
    exact Nat.lt_of_le_of_lt (Nat.pow_le_pow_right (by decide) (show 3 * c.crew.length ≤ 3 by omega)) (by decide)
theorem st_count {c : Ch} {L : List (List (List Int))} (hf : Fit c) (hn : L.Nodup) (h : ∀ s ∈ L, OkS c s) : L.length < 20000 := by
  have h3 : ∀ s ∈ L, ∀ r ∈ s, r.length = 3 := fun s hs r hr => ((h s hs).row r hr).1
  have n2 : (L.map List.flatten).Nodup := by
    unfold List.Nodup
    rw [List.pairwise_map]
    refine List.Pairwise.imp_of_mem (fun {a b} ha hb e z => e (flat_inj (h3 a ha) (h3 b hb) z)) hn
  have := len_sub (L.map List.flatten) (tupsL c.many (3 * c.crew.length)) n2 fun x hx => by
    obtain ⟨s, hs, rfl⟩ := List.mem_map.mp hx
    refine tups_mem.mpr ⟨by rw [flat3_len s (h3 s hs), (h s hs).len], fun i hi => ?_⟩
    obtain ⟨r, hr, hi⟩ := List.mem_flatten.mp hi
    have := ((h s hs).row r hr).2 i hi
    omega
  rw [List.length_map, tups_len] at this
  exact Nat.lt_of_le_of_lt this hf
def b_walk : MS := (sSeq (sDSet 2 (mOpL (one1 dLen) (aCons (oS 3) aNil)) (mVar 1)) (sSeq (sE (mLm 3 fApp (mVar 1))) (sSeq (sSet 1 (mCall r_on (aCons (oV (mVar 0)) (aCons (oV (mVar 1)) aNil)))) (sIf (tst (mOp2 dEq (oV (mOpL (one1 dLen) (aCons (oS 3) aNil))) (oV (mC (.int 20000))))) sBad sNx))))
def c_walk : M Bool := (tst (mOp2 dDNotIn (oV (mVar 1)) (oS 2)))
theorem m_walked_eq : m_walked = (sSeq (sPar [2, 3] (pCons mDct0 (pCons (mLst aNil) pNil))) (sSeq (sWhile FU c_walk b_walk) (sRet (mTup (aCons (oV (mVar 3)) (aCons (oV (mOp2 dDIx (oS 2) (oV (mVar 1)))) aNil)))))) := rfl
theorem walk_turn (C S S' : D) (ks ds ks' ds' rs : List D) (l l' : Int) (h1 : dLen (.lst rs) = some (.int l)) (h2 : dPutO ks ds S (.int l) = some (ks', ds')) (h3 : fApp rs S = some (.non, rs ++ [S])) (h4 : r_on [C, S] = .ok S' C) (h5 : dLen (.lst (rs ++ [S])) = some (.int l')) (h6 : dEq (.int l') (.int 20000) = some (.bl false)) :
    b_walk [C, S, .dct ks ds, .lst rs] = .nx [C, S', .dct ks' ds', .lst (rs ++ [S])] := by
  unfold b_walk
  simp [h1, dsetR, h2, lmD, h3, h4, h5, h6, -d_lenL]
theorem walk_test (C S R : D) (ks ds : List D) (o : Option D) (h : dGetO ks ds S = some o) : c_walk [C, S, .dct ks ds, R] = .ok (!o.isSome) [C, S, .dct ks ds, R] := by
  unfold c_walk
  simp [dDNotIn, h]
def waysL (c : Ch) (st : List (List Int)) (k : Nat) : List (List (List Int)) := (List.range k).map (way c st)
def idxL (k : Nat) : List D := (List.range k).map fun i => .int (i : Nat)
theorem ways_len (c : Ch) (st : List (List Int)) (k : Nat) : (waysL c st k).length = k := by simp [waysL]
theorem idx_len (k : Nat) : (idxL k).length = k := by simp [idxL]
theorem ways_succ (c : Ch) (st : List (List Int)) (k : Nat) : waysL c st (k + 1) = waysL c st k ++ [way c st k] := by simp [waysL, List.range_succ]
theorem idx_succ (k : Nat) : idxL (k + 1) = idxL k ++ [.int (k : Nat)] := by simp [idxL, List.range_succ]
theorem ways_get {c : Ch} {st : List (List Int)} {k f : Nat} (hn : (waysL c st k).Nodup) (hf : f < k) : dGetO ((waysL c st k).map eSt) (idxL k) (eSt (way c st f)) = some (some (.int (f : Nat))) := by
  rw [get_st _ _ (by rw [ways_len, idx_len])]
  have hl : f < (waysL c st k).length := by rw [ways_len]; exact hf
  have e : (waysL c st k)[f] = way c st f := by simp [waysL]
  have hm : way c st f ∈ waysL c st k := e ▸ List.getElem_mem hl
  have := idx_nd hn f hl
  rw [e] at this
  rw [if_pos hm, this]
  simp [idxL, hf]
theorem ways_not {c : Ch} {st : List (List Int)} {k : Nat} (h : way c st k ∉ waysL c st k) : dGetO ((waysL c st k).map eSt) (idxL k) (eSt (way c st k)) = some none := by
  rw [get_st _ _ (by rw [ways_len, idx_len]), if_neg h]
theorem ways_put {c : Ch} {st : List (List Int)} {k : Nat} (h : way c st k ∉ waysL c st k) (hk : k < 20000) (i : Int) (hi : i = (k : Nat)) : dPutO ((waysL c st k).map eSt) (idxL k) (eSt (way c st k)) (.int i) = some ((waysL c st (k + 1)).map eSt, idxL (k + 1)) := by
  rw [put_st _ _ (by rw [ways_len, idx_len]) _ h (by rw [ways_len]; omega), ways_succ, idx_succ, hi]
theorem ways_nd {c : Ch} {st : List (List Int)} {k : Nat} (hn : (waysL c st k).Nodup) (h : way c st k ∉ waysL c st k) : (waysL c st (k + 1)).Nodup := by
  rw [ways_succ, List.nodup_append]
  refine ⟨hn, by simp, fun a ha b hb => ?_⟩
  simp at hb
  subst hb
  exact fun e => h (e ▸ ha)
theorem ways_bd {c : Ch} {st : List (List Int)} (hc : OkC c) (hs : OkS c st) (hf : Fit c) {k : Nat} (hn : (waysL c st k).Nodup) : k < 20000 := by
  have := st_count hf hn fun s hs' => by
    obtain ⟨i, _, rfl⟩ := List.mem_map.mp hs'
    exact way_ok hc hs i
  rwa [ways_len] at this
theorem ways_mem {c : Ch} {st : List (List Int)} {s : List (List Int)} {k : Nat} (h : s ∈ waysL c st k) : ∃ f, f < k ∧ s = way c st f := by
  obtain ⟨i, hi, rfl⟩ := List.mem_map.mp h
  exact ⟨i, List.mem_range.mp hi, rfl⟩
theorem walk_loop {c : Ch} {st : List (List Int)} (hc : OkC c) (hs : OkS c st) (hf : Fit c) : ∀ (m k : Nat), (waysL c st k).Nodup → 20001 ≤ m + k → ∃ n f, Ring c st n f ∧ whileN c_walk b_walk m [eCh c, eSt (way c st k), .dct ((waysL c st k).map eSt) (idxL k), .lst ((waysL c st k).map eSt)] = .nx [eCh c, eSt (way c st n), .dct ((waysL c st n).map eSt) (idxL n), .lst ((waysL c st n).map eSt)]
  | 0, k, hn, hm => by
    have := ways_bd hc hs hf hn
    omega
  | m + 1, k, hn, hm => by
    have hk := ways_bd hc hs hf hn
    by_cases h : way c st k ∈ waysL c st k
    · obtain ⟨f, h1, h2⟩ := ways_mem h
      refine ⟨k, f, ⟨h1, hn, h2⟩, while_end ?_⟩
      rw [h2]
      exact walk_test _ _ _ _ _ _ (ways_get hn h1)
    · have hn2 := ways_nd hn h
      have hk2 := ways_bd hc hs hf hn2
      obtain ⟨n, f, r, e⟩ := walk_loop hc hs hf m (k + 1) hn2 (by omega)
      refine ⟨n, f, r, while_step (walk_test _ _ _ _ _ _ (ways_not h)) (walk_turn _ _ (eSt (way c st (k + 1))) _ _ _ _ _ (k : Int) ((k : Int) + 1) ?_ (ways_put h hk _ rfl) ?_ (r_on_ch c _ hc (way_ok hc hs k)) ?_ ?_) ?_⟩
      · rw [d_lenL, List.length_map, ways_len]
      · exact d_app (by rw [List.length_map, ways_len]; unfold SZ; omega)
      · rw [d_lenL]; simp [ways_len]
      · rw [dEq_g (n := 0) (m := 0) rfl rfl]
        congr 2
        exact decide_eq_false fun z => by have := D.int.inj z; omega
      · rw [← e]
        congr 1
        rw [ways_succ]
        simp
theorem r_walked_ok {c : Ch} {st : List (List Int)} (hc : OkC c) (hs : OkS c st) (hf : Fit c) : ∃ n f, Ring c st n f ∧ n < 20000 ∧ r_walked [eCh c, eSt st] = .ok (.tup [.lst ((waysL c st n).map eSt), .int (f : Nat)]) (eCh c) := by
  obtain ⟨n, f, r, e⟩ := walk_loop hc hs hf FU 0 List.nodup_nil (FU_ge (by decide))
  refine ⟨n, f, r, ways_bd hc hs hf r.nd, ?_⟩
  have e' : sWhile FU c_walk b_walk [eCh c, eSt st, .dct [] [], .lst []] = .nx [eCh c, eSt (way c st n), .dct ((waysL c st n).map eSt) (idxL n), .lst ((waysL c st n).map eSt)] := e
  have g := ways_get r.nd r.lt
  rw [← r.eq] at g
  have g' : dDIx (.dct ((waysL c st n).map eSt) (idxL n)) (eSt (way c st n)) = some (.int (f : Nat)) := by
    show (dGetO _ _ _).bind id = _
    rw [g]; rfl
  simp only [r_walked, m_walked_eq]
  generalize (D.dct ((waysL c st n).map eSt) (idxL n)) = K at *
  generalize (D.lst ((waysL c st n).map eSt)) = R at *
  generalize eSt (way c st n) = S at *
  generalize ((f : Nat) : Int) = fi at *
  generalize sWhile FU c_walk b_walk = W at *
  simp [e', g']
end Hs

namespace Hs
open PySem PySem.Spec L2

theorem crew_law_ok (c : Ch) (h : c.crew.length ≤ 1000000) : r__law_crew [eCh c] = .ok (.lst (c.nms.map .str)) (eCh c) := by
  have e : (c.crew.map fun s => D.str s.nm) = c.nms.map .str := by unfold Ch.nms; rw [List.map_map]; rfl
  simp only [r__law_crew, m__law_crew, eCh]
  simp
  rw [comp_map (enc := eSg) (f := fun s => .str s.nm) c.crew (fun s hs => by simp [stepL, restore, eSg])]
  simp
  rw [e, szL_ok (by simpa [nms_len] using h)]
  rfl
theorem getD_app {α : Type} {a b : List α} {k : Nat} {d : α} (h : k < a.length) : (a ++ b).getD k d = a.getD k d := by
  simp [List.getD_eq_getElem?_getD, List.getElem?_append_left h]
theorem getD_at {α : Type} {a : List α} {k : Nat} {d : α} (h : k < a.length) : a.getD k d = a[k] := by
  simp [List.getD_eq_getElem?_getD, h]
def cell (h : List (List Int)) (b i : Nat) : Int := (h.getD b []).getD i 0
def cols (st : List (List Int)) : List (List Int) := (List.range 3).map fun j => st.map fun r => r.getD j 0
/-- the standing that the rows b, b+1, b+2 make -/
def sF (n : Nat) (h : List (List Int)) (b : Nat) : List (List Int) := (List.range n).map fun i => [cell h b i, cell h (b + 1) i, cell h (b + 2) i]
theorem cols_len (st : List (List Int)) : (cols st).length = 3 := by simp [cols]
theorem cols_cell (st : List (List Int)) (j : Nat) (hj : j < 3) (i : Nat) (hi : i < st.length) : cell (cols st) j i = (st.getD i []).getD j 0 := by
  unfold cell cols
  simp [List.getD_eq_getElem?_getD, hj, hi]
theorem three {r : List Int} (h : r.length = 3) : r = [r.getD 0 0, r.getD 1 0, r.getD 2 0] := by
  match r, h with
  | [a, b, c], _ => rfl
theorem sF_cols {c : Ch} {st : List (List Int)} (hs : OkS c st) (rows : List (List Int)) : sF c.crew.length (cols st ++ rows) 0 = st := by
  have hc : ∀ j i, j < 3 → cell (cols st ++ rows) j i = cell (cols st) j i := fun j i hj => by
    unfold cell
    rw [getD_app (by rw [cols_len]; exact hj)]
  unfold sF
  rw [← hs.len]
  refine List.ext_getElem (by simp) fun i a b => ?_
  simp only [List.getElem_map, List.getElem_range, Nat.zero_add]
  rw [hc _ _ (by omega), hc _ _ (by omega), hc _ _ (by omega), cols_cell _ _ (by omega) _ b, cols_cell _ _ (by omega) _ b, cols_cell _ _ (by omega) _ b]
  have e : st.getD i [] = st[i] := by simp [List.getD_eq_getElem?_getD, b]
  rw [e]
  exact (three (hs.row _ (List.getElem_mem b)).1).symm
theorem cell_app {h : List (List Int)} {r : List Int} {b i : Nat} (hb : b < h.length) : cell (h ++ [r]) b i = cell h b i := by
  unfold cell
  rw [getD_app hb]
theorem cell_last {h : List (List Int)} {r : List Int} {i : Nat} : cell (h ++ [r]) h.length i = r.getD i 0 := by
  unfold cell
  simp [List.getD_eq_getElem?_getD]
/-- a row more: the standing behind -/
theorem sF_next (n : Nat) (h : List (List Int)) (r : List Int) (hr : r.length = n) (b : Nat) (hb : h.length = b + 3) : sF n (h ++ [r]) (b + 1) = behind (sF n h b) r := by
  unfold behind
  refine List.ext_getElem (by simp [sF, hr]) fun i a z => ?_
  have hi : i < n := by simpa [sF] using a
  simp only [sF, List.getElem_map, List.getElem_range, List.getElem_zip]
  rw [cell_app (by omega), cell_app (by omega), show b + 1 + 2 = h.length by omega, cell_last]
  simp [List.getD_eq_getElem?_getD, hr, hi]
def ledN (c : Ch) (ld : Nat → Str → Option Int) (b : Nat) (st : List (List Int)) : List Int := c.crew.map fun s => (ld b s.nm).getD (tline c st s)
def ledWay (c : Ch) (ld : Nat → Str → Option Int) (st : List (List Int)) : Nat → List (List Int)
  | 0 => st
  | n + 1 => behind (ledWay c ld st n) (ledN c ld n (ledWay c ld st n))
def ledS (c : Ch) (ld : Nat → Str → Option Int) (st : List (List Int)) (n : Nat) : List (List Int) := (List.range n).map fun b => ledN c ld b (ledWay c ld st b)
theorem ledS_len (c : Ch) (ld : Nat → Str → Option Int) (st : List (List Int)) (n : Nat) : (ledS c ld st n).length = n := by simp [ledS]
theorem ledS_succ (c : Ch) (ld : Nat → Str → Option Int) (st : List (List Int)) (n : Nat) : ledS c ld st (n + 1) = ledS c ld st n ++ [ledN c ld n (ledWay c ld st n)] := by simp [ledS, List.range_succ]
theorem ledN_len (c : Ch) (ld : Nat → Str → Option Int) (b : Nat) (st : List (List Int)) : (ledN c ld b st).length = c.crew.length := by simp [ledN]
def LdOk (c : Ch) (ld : Nat → Str → Option Int) : Prop := ∀ b n l, ld b n = some l → 0 ≤ l ∧ l ≤ c.many - 1
theorem ledN_bd {c : Ch} {ld : Nat → Str → Option Int} {st : List (List Int)} (hc : OkC c) (hs : OkS c st) (hl : LdOk c ld) (b : Nat) : ∀ i ∈ ledN c ld b st, 0 ≤ i ∧ i ≤ c.many - 1 := fun i hi => by
  obtain ⟨s, hs', rfl⟩ := List.mem_map.mp hi
  cases e : ld b s.nm with
  | none => exact tline_bd hc hs (hc.of hs')
  | some l => exact hl b _ l e
theorem ledWay_ok {c : Ch} {ld : Nat → Str → Option Int} {st : List (List Int)} (hc : OkC c) (hs : OkS c st) (hl : LdOk c ld) : ∀ n, OkS c (ledWay c ld st n)
  | 0 => hs
  | n + 1 => behind_ok (ledWay_ok hc hs hl n) (ledN_len ..) (ledN_bd hc (ledWay_ok hc hs hl n) hl n)
theorem hist_way {c : Ch} {ld : Nat → Str → Option Int} {st : List (List Int)} (hs : OkS c st) : ∀ b, sF c.crew.length (cols st ++ ledS c ld st b) b = ledWay c ld st b
  | 0 => sF_cols hs _
  | b + 1 => by
    rw [ledS_succ, ← List.append_assoc, sF_next _ _ _ (ledN_len ..) b (by rw [List.length_append, cols_len, ledS_len]; omega), hist_way hs b]
    rfl
theorem sF_app (n : Nat) (h : List (List Int)) (r : List (List Int)) (b : Nat) (hb : b + 3 ≤ h.length) : sF n (h ++ r) b = sF n h b := by
  have e : ∀ j i, j < 3 → cell (h ++ r) (b + j) i = cell h (b + j) i := fun j i hj => by
    unfold cell
    rw [getD_app (by omega)]
  unfold sF
  refine List.map_congr_left fun i _ => ?_
  have e0 := e 0 i (by omega)
  rw [Nat.add_zero] at e0
  rw [e0, e 1 i (by omega), e 2 i (by omega)]
/-- a history: rows of lines -/
structure HistOk (c : Ch) (h : List (List Int)) : Prop where
  row : ∀ r ∈ h, r.length = c.crew.length ∧ ∀ i ∈ r, 0 ≤ i ∧ i ≤ c.many - 1
theorem cols_ok {c : Ch} {st : List (List Int)} (hs : OkS c st) : HistOk c (cols st) := ⟨fun r hr => by
  obtain ⟨j, hj, rfl⟩ := List.mem_map.mp hr
  rw [List.mem_range] at hj
  refine ⟨by simp [hs.len], fun i hi => ?_⟩
  obtain ⟨q, hq, rfl⟩ := List.mem_map.mp hi
  have := hs.row q hq
  refine this.2 _ ?_
  simp [List.getD_eq_getElem?_getD, show j < q.length by omega]⟩
theorem HistOk.app {c : Ch} {h k : List (List Int)} (a : HistOk c h) (b : HistOk c k) : HistOk c (h ++ k) := ⟨fun r hr => (List.mem_append.mp hr).elim (a.row r) (b.row r)⟩
theorem ledS_ok {c : Ch} {ld : Nat → Str → Option Int} {st : List (List Int)} (hc : OkC c) (hs : OkS c st) (hl : LdOk c ld) (n : Nat) : HistOk c (ledS c ld st n) := ⟨fun r hr => by
  obtain ⟨b, _, rfl⟩ := List.mem_map.mp hr
  exact ⟨ledN_len .., ledN_bd hc (ledWay_ok hc hs hl b) hl b⟩⟩
theorem sF_ok {c : Ch} {h : List (List Int)} (ho : HistOk c h) {b : Nat} (hb : b + 3 ≤ h.length) : OkS c (sF c.crew.length h b) := by
  refine ⟨by simp [sF], fun r hr => ?_⟩
  obtain ⟨i, hi, rfl⟩ := List.mem_map.mp hr
  rw [List.mem_range] at hi
  refine ⟨rfl, fun x hx => ?_⟩
  have key : ∀ k, k < h.length → 0 ≤ cell h k i ∧ cell h k i ≤ c.many - 1 := fun k hk => by
    have := ho.row h[k] (List.getElem_mem hk)
    have e : cell h k i = (h[k]).getD i 0 := by unfold cell; rw [getD_at hk]
    rw [e]
    refine this.2 _ ?_
    simp [List.getD_eq_getElem?_getD, show i < (h[k]).length by omega]
  simp only [List.mem_cons, List.not_mem_nil, or_false] at hx
  rcases hx with rfl | rfl | rfl
  · exact key _ (by omega)
  · exact key _ (by omega)
  · exact key _ (by omega)
theorem r__law_heard_ok {c : Ch} (hc : OkC c) {h : List (List Int)} (ho : HistOk c h) {b : Nat} (hb : b + 3 ≤ h.length) (B : Int) (hB : B = (b : Nat)) {s : Sg} (hs : SgOf c s) : r__law_heard [eCh c, .lst (h.map eLn), .tup (s.ears.map eEar), .int B] = .ok (.lst ((heardBy c (sF c.crew.length h b) s).map .int)) (eCh c) := by
  have hcrew := crew_law_ok c hc.sm.crew
  have hc4 := hc.c4
  have f := sgF hs.ok
  have e : (heardBy c (sF c.crew.length h b) s).map D.int = s.ears.map fun p => .int (cell h (b + (3 - p.2).toNat) (c.ix p.1)) := by
    unfold heardBy
    rw [List.map_map]
    refine List.map_congr_left fun p hp => ?_
    obtain ⟨h1, h2, h3⟩ := hs.hm p hp
    have hi := ix_lt h1
    show D.int (((sF c.crew.length h b).getD (c.ix p.1) []).getD (3 - p.2).toNat 0) = _
    have e1 : (sF c.crew.length h b).getD (c.ix p.1) [] = [cell h b (c.ix p.1), cell h (b + 1) (c.ix p.1), cell h (b + 2) (c.ix p.1)] := by
      simp [sF, List.getD_eq_getElem?_getD, hi]
    rw [e1]
    obtain e2 | e2 | e2 : (3 - p.2).toNat = 0 ∨ (3 - p.2).toNat = 1 ∨ (3 - p.2).toNat = 2 := by omega
    all_goals rw [e2]; rfl
  have turn : ∀ p ∈ s.ears, ∀ a5 a6 : D, stepL [5, 6] (gTp (gCn (gNm 5) (gCn (gNm 6) gNo))) tsNo (mOp2 dIx (oV (mOp2 dIx (oV (mVar 1)) (oV (mOp2 dSub (oV (mOp2 dAdd (oV (mVar 3)) (oV (mC (.int 3))))) (oV (mVar 6)))))) (oV (mLr dIndex (oV (mVar 4)) (oV (mVar 5))))) (eEar p) [eCh c, .lst (h.map eLn), .tup (s.ears.map eEar), .int B, .lst (c.nms.map .str), a5, a6] = .ok (some (.int (cell h (b + (3 - p.2).toNat) (c.ix p.1)))) [eCh c, .lst (h.map eLn), .tup (s.ears.map eEar), .int B, .lst (c.nms.map .str), a5, a6] := fun p hp a5 a6 => by
    obtain ⟨h1, h2, h3⟩ := hs.hm p hp
    have hi := ix_lt h1
    have hk : b + (3 - p.2).toNat < h.length := by omega
    have ep : eEar p = .tup [.str p.1, .int p.2] := rfl
    have s1 : dSub (.int (B + 3)) (.int p.2) = some (.int (b + (3 - p.2).toNat : Nat)) := by
      show some (D.int (B + 3 - p.2)) = _
      rw [show B + 3 - p.2 = ((b + (3 - p.2).toNat : Nat) : Int) by omega]
    have x1 : dIx (.lst (h.map eLn)) (.int (b + (3 - p.2).toNat : Nat)) = some (eLn h[b + (3 - p.2).toNat]) := by
      rw [d_ixL, atI_nat]; simp [hk]
    have x2 : dIndex (.lst (c.nms.map .str)) (.str p.1) = some (.int (c.ix p.1 : Nat)) := by
      rw [index_g (n := 0) (m := 0) hc.nmg (by rw [g_str]; exact word_ok (hc.word h1)) (List.mem_map.mpr ⟨_, h1, rfl⟩), idxOf_map_str]
      rfl
    have hl := (ho.row _ (List.getElem_mem hk)).1
    have x3 : dIx (eLn h[b + (3 - p.2).toNat]) (.int (c.ix p.1 : Nat)) = some (.int (cell h (b + (3 - p.2).toNat) (c.ix p.1))) := by
      rw [eLn, d_ixT, atI_nat]
      have : c.ix p.1 < (h[b + (3 - p.2).toNat]).length := by omega
      simp [cell, List.getD_eq_getElem?_getD, hk, this]
    have a1 : dAdd (.int B) (.int 3) = some (.int (B + 3)) := rfl
    rw [ep]
    generalize (D.int (cell h (b + (3 - p.2).toNat) (c.ix p.1))) = RES at *
    generalize (D.int ((b + (3 - p.2).toNat : Nat) : Int)) = I1 at *
    generalize (D.int ((c.ix p.1 : Nat) : Int)) = I2 at *
    generalize D.int (B + 3) = I3 at *
    generalize (D.lst (h.map eLn)) = HH at *
    generalize eLn h[b + (3 - p.2).toNat] = ROW at *
    simp [stepL, restore, a1, s1, x1, x2, x3]
  have cc := comp_map (vs := [5, 6]) (mg := (gTp (gCn (gNm 5) (gCn (gNm 6) gNo)))) (mt := tsNo) (me := (mOp2 dIx (oV (mOp2 dIx (oV (mVar 1)) (oV (mOp2 dSub (oV (mOp2 dAdd (oV (mVar 3)) (oV (mC (.int 3))))) (oV (mVar 6)))))) (oV (mLr dIndex (oV (mVar 4)) (oV (mVar 5)))))) (ρ := [eCh c, .lst (h.map eLn), .tup (s.ears.map eEar), .int B, .lst (c.nms.map .str), .non, .non]) (enc := eEar) (f := fun p => .int (cell h (b + (3 - p.2).toNat) (c.ix p.1))) s.ears (fun p hp => turn p hp .non .non)
  have z : szL (s.ears.map fun p => D.int (cell h (b + (3 - p.2).toNat) (c.ix p.1))) = some (.lst (s.ears.map fun p => D.int (cell h (b + (3 - p.2).toNat) (c.ix p.1)))) := szL_ok (by have := f.el; simp; omega)
  rw [e]
  have itm : itemsOf (.tup (s.ears.map eEar)) = some (s.ears.map eEar) := rfl
  generalize (s.ears.map fun p => D.int (cell h (b + (3 - p.2).toNat) (c.ix p.1))) = RES at *
  generalize s.ears.map eEar = EE at *
  generalize (D.lst (h.map eLn)) = HH at *
  generalize eCh c = CC at *
  simp only [r__law_heard, m__law_heard]
  simp [hcrew, itm, cc, z]
theorem r__law_tells_ok {c : Ch} (hc : OkC c) {h : List (List Int)} (ho : HistOk c h) {b : Nat} (hb : b + 3 ≤ h.length) (B : Int) (hB : B = (b : Nat)) {s : Sg} (hs : SgOf c s) : r__law_tells [eCh c, eSg s, .lst (h.map eLn), .int B] = .ok (.int (tline c (sF c.crew.length h b) s)) (eCh c) := by
  have hh := r__law_heard_ok hc ho hb B hB hs
  have hm2 := hc.m2
  have hm4 := hc.m4
  have e0 : dIx (eCh c) (.int 0) = some (.int c.many) := by simp [eCh]
  have e1 : dIx (eSg s) (.int 1) = some (.tup (s.ears.map eEar)) := by simp [eSg]
  have e2 : dIx (eSg s) (.int 2) = some (eLn s.tab) := by simp [eSg]
  have hO := sF_ok ho hb
  obtain ⟨k, ek, hk⟩ := tline_at hc hO hs
  have x3 : dIx (eLn s.tab) (.int (k : Nat)) = some (.int (tline c (sF c.crew.length h b) s)) := by
    rw [eLn, d_ixT, atI_nat]
    simp [hk, tline, ek]
  rw [← ek] at x3
  generalize heardBy c (sF c.crew.length h b) s = xs at *
  obtain ⟨ρ', e, x, i⟩ := for_inv (mg := gNm 5) (b := sSet 4 (mOp2 dAdd (oV (mOp2 dMul (oV (mVar 4)) (oV (mOp2 dIx (oV (mVar 0)) (oV (mC (.int 0))))))) (oV (mVar 5)))) (enc := D.int) (step := fun f l => f * c.many + l) (I := fun s' ρ => ∃ x, ρ = [eCh c, eSg s, .lst (h.map eLn), .int B, .int s', x]) xs (fun l _ s' ρ ⟨x, e⟩ => by
    subst e
    exact ⟨[eCh c, eSg s, .lst (h.map eLn), .int B, .int s', .int l], [eCh c, eSg s, .lst (h.map eLn), .int B, .int (s' * c.many + l), .int l], rfl, by simp [e0, d_mulI (mulOk_r (i := s') (j := c.many) (by omega) (by omega))], _, rfl⟩) 0 [eCh c, eSg s, .lst (h.map eLn), .int B, .int 0, .non] ⟨_, rfl⟩
  subst i
  have ep : place c.many xs = xs.foldl (fun f l => f * c.many + l) 0 := rfl
  rw [ep] at x3
  generalize xs.foldl (fun f l => f * c.many + l) 0 = P at *
  have itm : itemsOf (.lst (xs.map D.int)) = some (xs.map .int) := rfl
  generalize xs.map D.int = XS at *
  generalize D.lst XS = XL at *
  generalize (D.lst (h.map eLn)) = HH at *
  generalize tline c (sF c.crew.length h b) s = RES at *
  generalize eSg s = SS at *
  generalize eCh c = CC at *
  simp only [r__law_tells, m__law_tells]
  simp [e1, e2, hh, itm, e, x3]
end Hs

namespace Hs
open PySem PySem.Spec L2

theorem for_stepG {b : MS} {i : Nat} {x : D} {xs ρ ρ1 : List D} {r : RS} (h : b (ρ.set i x) = .nx ρ1) (h2 : forL (gNm i) b xs ρ1 = r) : forL (gNm i) b (x :: xs) ρ = r := by
  rw [v_forC, v_gNm, ofO_some, then_nx, h, then_nx, h2]
theorem r__law_history_ok {c : Ch} {st : List (List Int)} (hc : OkC c) (hs : OkS c st) : r__law_history [eSt st] = .ok (.lst ((cols st).map eLn)) (eSt st) := by
  have hc4 := hc.c4
  have hl : st.length ≤ 4 := by have := hs.len; omega
  have inner : ∀ (j : Int) (hj : 0 ≤ j ∧ j < 3), compL [2] (gNm 2) tsNo (mOp2 dIx (oV (mVar 2)) (oV (mVar 1))) (st.map eLn) [eSt st, .int j, .non] = .ok (st.map fun r => .int (r.getD j.toNat 0)) [eSt st, .int j, .non] := fun j hj => by
    refine comp_map (enc := eLn) (f := fun r => .int (r.getD j.toNat 0)) st fun r hr => ?_
    have h3 := (hs.row r hr).1
    have x1 : dIx (eLn r) (.int j) = some (.int (r.getD j.toNat 0)) := by
      obtain ⟨k, rfl⟩ : ∃ k : Nat, j = k := ⟨j.toNat, by omega⟩
      have hk : k < r.length := by omega
      rw [eLn, d_ixT, atI_nat, Int.toNat_natCast, getD_at hk]
      simp [hk]
    generalize eLn r = R at *
    generalize D.int (r.getD j.toNat 0) = V at *
    simp [stepL, restore, x1]
  have e : (cols st).map eLn = (lineL 3).map fun j => .tup (st.map fun r => .int (r.getD j.toNat 0)) := by
    show _ = ((List.range 3).map fun i => ((i : Nat) : Int)).map _
    unfold cols
    rw [List.map_map, List.map_map]
    refine List.map_congr_left fun j _ => ?_
    show eLn (st.map fun r => r.getD j 0) = _
    unfold eLn
    rw [List.map_map]
    rfl
  have z : ∀ j : Int, szL (st.map fun r => D.int (r.getD j.toNat 0)) = some (.lst (st.map fun r => D.int (r.getD j.toNat 0))) := fun j => szL_ok (by simp; omega)
  have itm : itemsOf (eSt st) = some (st.map eLn) := rfl
  have outer : compL [1] (gNm 1) tsNo (mOpL (one1 dTuple) (aCons (oV (mLc [2] (mItems (mVar 0)) (gNm 2) tsNo (mOp2 dIx (oV (mVar 2)) (oV (mVar 1))))) aNil)) (rgD 0 3) [eSt st, .non, .non] = .ok ((cols st).map eLn) [eSt st, .non, .non] := by
    rw [rgD_line, e]
    refine comp_map (enc := D.int) (f := fun j => .tup (st.map fun r => .int (r.getD j.toNat 0))) (lineL 3) fun j hj => ?_
    have i1 := inner j (lineL_mem.mp hj)
    have z1 := z j
    generalize (st.map fun r => D.int (r.getD j.toNat 0)) = RR at *
    generalize (st.map eLn) = EE at *
    generalize eSt st = SS at *
    simp [stepL, restore, itm, i1, z1]
  have z3 : szL ((cols st).map eLn) = some (.lst ((cols st).map eLn)) := szL_ok (by simp [cols_len])
  generalize (cols st).map eLn = CC at *
  generalize eSt st = SS at *
  simp only [r__law_history, m__law_history]
  simp [rg1_ok (i := 3) (by omega) (by omega), outer, z3]
def optD : Option Int → D
  | none => .non
  | some l => .int l
/-- the datum of the leads -/
structure LdIs (LD : D) (ld : Nat → Str → Option Int) : Prop where
  dct : isDct LD = true
  get : ∀ (b : Nat) (n : Str) (B : Int), B = (b : Nat) → dDGet LD (.tup [.int B, .str n]) .non = some (optD (ld b n))
theorem no_leads : LdIs (.dct [] []) fun _ _ => none := ⟨rfl, fun b n B _ => rfl⟩
theorem ldOk_none (c : Ch) : LdOk c fun _ _ => none := fun _ _ _ h => nomatch h
def bs_sing : MS := (sSeq (sSet 8 (mDGet (oV (mVar 2)) (oV (mTup (aCons (oV (mVar 5)) (aCons (oV (mOp2 dIx (oV (mVar 7)) (oV (mC (.int 0))))) aNil)))))) (sE (mLm 6 fApp (mIf (tst (mOp2 dIsN (oV (mVar 8)) (oV (mC .non)))) (mCall r__law_tells (aCons (oV (mVar 0)) (aCons (oV (mVar 7)) (aCons (oS 4) (aCons (oV (mVar 5)) aNil))))) (mVar 8)))))
def bs_beat : MS := (sSeq (sSet 6 (mLst aNil)) (sSeq (sFor (mItems (mOp2 dIx (oV (mVar 0)) (oV (mC (.int 1))))) (gNm 7) bs_sing) (sE (mLm 4 fApp (mOpL (one1 dTuple) (aCons (oS 6) aNil))))))
theorem m_sung_eq : m__law_sung = (sSeq (sSet 4 (mCallN r__law_history (aCons (oV (mVar 1)) aNil))) (sSeq (sFor (mRg rg1 (aCons (oV (mVar 3)) aNil)) (gNm 5) bs_beat) (sRet (mSl (oS 4) (sAt (mC (.int 3))) sNo)))) := rfl
theorem sing_none (C S LD T B SG NM V o8 : D) (hh row : List D) (h1 : dIx SG (.int 0) = some NM) (h2 : isDct LD = true) (h3 : dDGet LD (.tup [B, NM]) .non = some .non) (hv : V.flat = true) (h4 : r__law_tells [C, SG, .lst hh, B] = .ok V C) (h5 : fApp row V = some (.non, row ++ [V])) :
    bs_sing [C, S, LD, T, .lst hh, B, .lst row, SG, o8] = .nx [C, S, LD, T, .lst hh, B, .lst (row ++ [V]), SG, .non] := by
  unfold bs_sing
  simp [h1, h2, h3, h4, hv, h5, lmD]
theorem sing_led (C S LD T B SG NM o8 : D) (l : Int) (hh row : List D) (h1 : dIx SG (.int 0) = some NM) (h2 : isDct LD = true) (h3 : dDGet LD (.tup [B, NM]) .non = some (.int l)) (h5 : fApp row (.int l) = some (.non, row ++ [.int l])) :
    bs_sing [C, S, LD, T, .lst hh, B, .lst row, SG, o8] = .nx [C, S, LD, T, .lst hh, B, .lst (row ++ [.int l]), SG, .int l] := by
  unfold bs_sing
  simp [h1, h2, h3, h5, lmD]
theorem sing_all {c : Ch} {ld : Nat → Str → Option Int} (hc : OkC c) {h : List (List Int)} (ho : HistOk c h) {b : Nat} (hb : b + 3 ≤ h.length) (B : Int) (hB : B = (b : Nat)) {LD : D} (hd : LdIs LD ld) (S T : D) : ∀ (sgs : List Sg) (row : List Int) (a7 a8 : D), (∀ s ∈ sgs, SgOf c s) → row.length + sgs.length ≤ 100 → ∃ b7 b8, forL (gNm 7) bs_sing (sgs.map eSg) [eCh c, S, LD, T, .lst (h.map eLn), .int B, .lst (row.map .int), a7, a8] = .nx [eCh c, S, LD, T, .lst (h.map eLn), .int B, .lst ((row ++ sgs.map fun s => (ld b s.nm).getD (tline c (sF c.crew.length h b) s)).map .int), b7, b8]
  | [], row, a7, a8, _, _ => ⟨a7, a8, by simp⟩
  | s :: sgs, row, a7, a8, hs, hl => by
    rw [List.length_cons] at hl
    have hsg := hs s List.mem_cons_self
    have e0 : dIx (eSg s) (.int 0) = some (.str s.nm) := by simp [eSg]
    have g := hd.get b s.nm B hB
    have tl := r__law_tells_ok hc ho hb B hB hsg
    have ap : ∀ V : D, fApp (row.map .int) V = some (.non, row.map .int ++ [V]) := fun V => d_app (by rw [List.length_map]; unfold SZ; omega)
    cases el : ld b s.nm with
    | none =>
      rw [el] at g
      obtain ⟨b7, b8, e⟩ := sing_all hc ho hb B hB hd S T sgs (row ++ [tline c (sF c.crew.length h b) s]) (eSg s) .non (fun z hz => hs z (List.mem_cons_of_mem _ hz)) (by simp; omega)
      refine ⟨b7, b8, ?_⟩
      rw [List.map_cons, List.map_cons, el]
      refine for_stepG (sing_none _ _ _ _ _ _ _ _ _ _ _ e0 hd.dct g rfl tl (ap _)) ?_
      have e1 : row.map D.int ++ [.int (tline c (sF c.crew.length h b) s)] = (row ++ [tline c (sF c.crew.length h b) s]).map .int := by simp
      rw [e1, e]
      simp
    | some l =>
      rw [el] at g
      obtain ⟨b7, b8, e⟩ := sing_all hc ho hb B hB hd S T sgs (row ++ [l]) (eSg s) (.int l) (fun z hz => hs z (List.mem_cons_of_mem _ hz)) (by simp; omega)
      refine ⟨b7, b8, ?_⟩
      rw [List.map_cons, List.map_cons, el]
      refine for_stepG (sing_led _ _ _ _ _ _ _ _ _ _ _ e0 hd.dct g (ap _)) ?_
      have e1 : row.map D.int ++ [.int l] = (row ++ [l]).map .int := by simp
      rw [e1, e]
      simp
theorem beat_eval (C S LD T B K a6 a7 a8 b7 b8 : D) (hh : List D) (sg row : List D) (h1 : dIx C (.int 1) = some K) (h2 : itemsOf K = some sg) (h3 : forL (gNm 7) bs_sing sg [C, S, LD, T, .lst hh, B, .lst [], a7, a8] = .nx [C, S, LD, T, .lst hh, B, .lst row, b7, b8]) (h4 : fApp hh (.tup row) = some (.non, hh ++ [.tup row])) :
    bs_beat [C, S, LD, T, .lst hh, B, a6, a7, a8] = .nx [C, S, LD, T, .lst (hh ++ [.tup row]), B, .lst row, b7, b8] := by
  unfold bs_beat
  simp [h1, h2, h3, h4, lmD]
theorem beats_all {c : Ch} {ld : Nat → Str → Option Int} {st : List (List Int)} (hc : OkC c) (hs : OkS c st) (hl : LdOk c ld) {LD : D} (hd : LdIs LD ld) (T : D) : ∀ (m b : Nat) (a5 a6 a7 a8 : D), m + b ≤ 1000 → ∃ b5 b6 b7 b8, forL (gNm 5) bs_beat ((List.range' b m).map fun i => .int ((i : Nat) : Int)) [eCh c, eSt st, LD, T, .lst ((cols st ++ ledS c ld st b).map eLn), a5, a6, a7, a8] = .nx [eCh c, eSt st, LD, T, .lst ((cols st ++ ledS c ld st (b + m)).map eLn), b5, b6, b7, b8]
  | 0, b, a5, a6, a7, a8, _ => ⟨a5, a6, a7, a8, by simp⟩
  | m + 1, b, a5, a6, a7, a8, hm => by
    have ho := (cols_ok hs).app (ledS_ok hc hs hl b)
    have hlen : (cols st ++ ledS c ld st b).length = b + 3 := by rw [List.length_append, cols_len, ledS_len]; omega
    have hc4 := hc.c4
    obtain ⟨b7, b8, e1⟩ := sing_all hc ho (b := b) (by omega) (b : Int) rfl hd (eSt st) T c.crew [] a7 a8 (fun s hs => hc.of hs) (by simp; omega)
    rw [List.nil_append, hist_way hs] at e1
    have er : (c.crew.map fun s => (ld b s.nm).getD (tline c (ledWay c ld st b) s)) = ledN c ld b (ledWay c ld st b) := rfl
    rw [er] at e1
    have h1 : dIx (eCh c) (.int 1) = some (.tup (c.crew.map eSg)) := by simp [eCh]
    have ap : fApp ((cols st ++ ledS c ld st b).map eLn) (.tup ((ledN c ld b (ledWay c ld st b)).map .int)) = some (.non, (cols st ++ ledS c ld st b).map eLn ++ [.tup ((ledN c ld b (ledWay c ld st b)).map .int)]) := d_app (by rw [List.length_map, hlen]; unfold SZ; omega)
    obtain ⟨c5, c6, c7, c8, e2⟩ := beats_all hc hs hl hd T m (b + 1) (.int (b : Int)) (.lst ((ledN c ld b (ledWay c ld st b)).map .int)) b7 b8 (by omega)
    refine ⟨c5, c6, c7, c8, ?_⟩
    rw [List.range'_succ, List.map_cons]
    refine for_stepG (beat_eval _ _ _ _ _ _ a6 a7 a8 b7 b8 _ _ _ h1 rfl e1 ap) ?_
    have e3 : (cols st ++ ledS c ld st b).map eLn ++ [.tup ((ledN c ld b (ledWay c ld st b)).map .int)] = (cols st ++ ledS c ld st (b + 1)).map eLn := by
      rw [ledS_succ]
      simp [eLn]
    rw [e3, show b + (m + 1) = b + 1 + m by omega]
    exact e2
theorem sung_eval (C S LD T HL RES b5 b6 b7 b8 : D) (hh hh2 bt : List D) (h1 : r__law_history [S] = .ok (.lst hh) S) (h2 : rg1 [T] = some bt) (h3 : forL (gNm 5) bs_beat bt [C, S, LD, T, .lst hh, .non, .non, .non, .non] = .nx [C, S, LD, T, .lst hh2, b5, b6, b7, b8]) (h4 : dSl (.lst hh2) (some 3) none = some RES) : r__law_sung [C, S, LD, T] = .ok RES C := by
  simp only [r__law_sung, m_sung_eq]
  simp [h1, h2, h3, h4]
theorem r__law_sung_ok {c : Ch} {ld : Nat → Str → Option Int} {st : List (List Int)} (hc : OkC c) (hs : OkS c st) (hl : LdOk c ld) {LD : D} (hd : LdIs LD ld) (T : Int) (h0 : 0 ≤ T) (h1 : T ≤ 1000) : r__law_sung [eCh c, eSt st, LD, .int T] = .ok (.lst ((ledS c ld st T.toNat).map eLn)) (eCh c) := by
  obtain ⟨b5, b6, b7, b8, e⟩ := beats_all hc hs hl hd (.int T) T.toNat 0 .non .non .non .non (by omega)
  have e0 : ledS c ld st 0 = [] := rfl
  rw [e0, List.append_nil, Nat.zero_add] at e
  have er : rg1 [.int T] = some ((List.range' 0 T.toNat).map fun i => .int ((i : Nat) : Int)) := by
    rw [rg1_ok (by omega) (by omega), ← List.range_eq_range', rgD_line, lineL, List.map_map]
    rfl
  refine sung_eval _ _ _ _ (.lst []) _ _ _ _ _ _ _ _ (r__law_history_ok hc hs) er e ?_
  show dSl (.lst ((cols st ++ ledS c ld st T.toNat).map eLn)) (some ((3 : Nat) : Int)) none = _
  rw [d_slL, cut_from, List.map_append, List.drop_left' (by rw [List.length_map, cols_len])]
theorem cut_neg3 {α : Type} (xs : List α) (h : 3 ≤ xs.length) : cutD xs (some (-3)) none = xs.drop (xs.length - 3) := by
  unfold cutD
  have e : HT.sIx xs.length 0 (some (-3)) = xs.length - 3 := by
    unfold HT.sIx
    simp
    omega
  have e2 : HT.sIx xs.length xs.length none = xs.length := rfl
  rw [e, e2]
  exact List.take_of_length_le (by rw [List.length_drop]; omega)
end Hs

namespace Hs
open PySem PySem.Spec L2

theorem beh_in (S RR LL R V : D) (i : Int) (x1 : dIx R (.int i) = some V) : stepL [4] (gNm 4) tsNo (mOp2 dIx (oV (mVar 4)) (oV (mVar 3))) R [S, RR, LL, .int i, .non] = .ok (some V) [S, RR, LL, .int i, .non] := by
  simp [stepL, restore, x1]
theorem beh_out (S RR LL : D) (ls VS : List D) (i : Int) (itm : itemsOf LL = some ls) (i1 : compL [4] (gNm 4) tsNo (mOp2 dIx (oV (mVar 4)) (oV (mVar 3))) ls [S, RR, LL, .int i, .non] = .ok VS [S, RR, LL, .int i, .non]) (z1 : szL VS = some (.lst VS)) : stepL [3] (gNm 3) tsNo (mOpL (one1 dTuple) (aCons (oV (mLc [4] (mItems (mVar 2)) (gNm 4) tsNo (mOp2 dIx (oV (mVar 4)) (oV (mVar 3))))) aNil)) (.int i) [S, RR, LL, .non, .non] = .ok (some (.tup VS)) [S, RR, LL, .non, .non] := by
  simp [stepL, restore, itm, i1, z1]
theorem beh_eval (S RR CR LL : D) (co RG RES : List D) (L : Int) (h1 : r__law_history [S] = .ok (.lst co) S) (h2 : dAdd (.lst co) RR = some CR) (h3 : dSl CR (some (-3)) none = some LL) (ln : dLen S = some (.int L)) (er : rg1 [.int L] = some RG) (outer : compL [3] (gNm 3) tsNo (mOpL (one1 dTuple) (aCons (oV (mLc [4] (mItems (mVar 2)) (gNm 4) tsNo (mOp2 dIx (oV (mVar 4)) (oV (mVar 3))))) aNil)) RG [S, RR, LL, .non, .non] = .ok RES [S, RR, LL, .non, .non]) (zo : szL RES = some (.lst RES)) : r__law_stand_behind [S, RR] = .ok (.tup RES) S := by
  have hn : dNeg (.int 3) = some (.int (-3)) := rfl
  simp only [r__law_stand_behind, m__law_stand_behind]
  simp [h1, h2, hn, h3, ln, er, outer, zo]
theorem line3 {last : List (List Int)} (h : last.length = 3) (i : Nat) : D.tup (last.map fun r => D.int (r.getD i 0)) = eLn [(last.getD 0 []).getD i 0, (last.getD 1 []).getD i 0, (last.getD 2 []).getD i 0] := by
  obtain ⟨x, y, z, rfl⟩ : ∃ x y z, last = [x, y, z] := by
    match last, h with
    | [x, y, z], _ => exact ⟨x, y, z, rfl⟩
  simp [eLn]
theorem r__law_stand_behind_ok {c : Ch} {st : List (List Int)} (hc : OkC c) (hs : OkS c st) {rows : List (List Int)} (hr : HistOk c rows) (hl : rows.length ≤ 100000) : r__law_stand_behind [eSt st, .lst (rows.map eLn)] = .ok (eSt (sF c.crew.length (cols st ++ rows) rows.length)) (eSt st) := by
  have hc4 := hc.c4
  have ho := (cols_ok hs).app hr
  have hlen : (cols st ++ rows).length = rows.length + 3 := by rw [List.length_append, cols_len]; omega
  have h1 := r__law_history_ok hc hs
  have h2 : dAdd (.lst ((cols st).map eLn)) (.lst (rows.map eLn)) = some (.lst ((cols st ++ rows).map eLn)) := by
    rw [d_addL (by simp [cols_len]; unfold SZ; omega), List.map_append]
  have h3 : dSl (.lst ((cols st ++ rows).map eLn)) (some (-3)) none = some (.lst (((cols st ++ rows).drop rows.length).map eLn)) := by
    rw [d_slL, cut_neg3 _ (by rw [List.length_map, hlen]; omega), List.length_map, hlen, List.map_drop]
    rfl
  have ln : dLen (eSt st) = some (.int st.length) := by simp [eSt]
  have hsl := hs.len
  have hl3 : ((cols st ++ rows).drop rows.length).length = 3 := by rw [List.length_drop, hlen]; omega
  have hlr : ∀ r ∈ (cols st ++ rows).drop rows.length, r.length = c.crew.length := fun r hr => (ho.row r (List.mem_of_mem_drop hr)).1
  have e1 : ∀ i j, cell (cols st ++ rows) (rows.length + j) i = (((cols st ++ rows).drop rows.length).getD j []).getD i 0 := fun i j => by
    unfold cell
    simp [List.getD_eq_getElem?_getD]
  have eres : D.tup ((lineL (st.length : Int)).map fun i => D.tup (((cols st ++ rows).drop rows.length).map fun r => .int (r.getD i.toNat 0))) = eSt (sF c.crew.length (cols st ++ rows) rows.length) := by
    unfold eSt sF lineL
    rw [List.map_map, List.map_map, Int.toNat_natCast, ← hsl]
    congr 1
    refine List.map_congr_left fun i hi => ?_
    show D.tup (((cols st ++ rows).drop rows.length).map fun r => D.int (r.getD i 0)) = eLn [cell (cols st ++ rows) rows.length i, cell (cols st ++ rows) (rows.length + 1) i, cell (cols st ++ rows) (rows.length + 2) i]
    have e0 := e1 i 0
    rw [Nat.add_zero] at e0
    rw [e0, e1 i 1, e1 i 2]
    exact line3 hl3 i
  rw [← eres]
  clear eres e1
  generalize (cols st ++ rows).drop rows.length = last at *
  refine beh_eval _ _ _ _ _ _ _ (st.length : Int) h1 h2 h3 ln (rg1_ok (by omega) (by omega)) ?_ (szL_ok (by simp [line_len]; omega))
  rw [rgD_line]
  refine comp_map (enc := D.int) (f := fun i => .tup (last.map fun r => .int (r.getD i.toNat 0))) (lineL (st.length : Int)) fun i hi => ?_
  have hi' := lineL_mem.mp hi
  refine beh_out _ _ _ _ _ i rfl ?_ (szL_ok (by simp; omega))
  refine comp_map (enc := eLn) (f := fun r => .int (r.getD i.toNat 0)) last fun r hr => beh_in _ _ _ _ _ i ?_
  have h3 := hlr r hr
  obtain ⟨k, rfl⟩ : ∃ k : Nat, i = k := ⟨i.toNat, by omega⟩
  have hk : k < r.length := by omega
  rw [eLn, d_ixT, atI_nat, Int.toNat_natCast, getD_at hk]
  simp [hk]
theorem ledN_none (c : Ch) (b : Nat) (st : List (List Int)) : ledN c (fun _ _ => none) b st = next c st := rfl
theorem ledWay_none (c : Ch) (st : List (List Int)) : ∀ n, ledWay c (fun _ _ => none) st n = way c st n
  | 0 => rfl
  | n + 1 => by
    show behind (ledWay c (fun _ _ => none) st n) (next c (ledWay c (fun _ _ => none) st n)) = onward c (way c st n)
    rw [ledWay_none c st n]; rfl
def rowsL (c : Ch) (st : List (List Int)) (k : Nat) : List (List Int) := (List.range k).map fun i => next c (way c st i)
theorem rows_len (c : Ch) (st : List (List Int)) (k : Nat) : (rowsL c st k).length = k := by simp [rowsL]
theorem rows_succ (c : Ch) (st : List (List Int)) (k : Nat) : rowsL c st (k + 1) = rowsL c st k ++ [next c (way c st k)] := by simp [rowsL, List.range_succ]
theorem ledS_none (c : Ch) (st : List (List Int)) (n : Nat) : ledS c (fun _ _ => none) st n = rowsL c st n := by
  unfold ledS rowsL
  refine List.map_congr_left fun i _ => ?_
  rw [ledWay_none]; rfl
theorem rows_ok {c : Ch} {st : List (List Int)} (hc : OkC c) (hs : OkS c st) (n : Nat) : HistOk c (rowsL c st n) := by
  rw [← ledS_none]; exact ledS_ok hc hs (ldOk_none c) n
theorem songL_rows (c : Ch) : ∀ (n : Nat) (st : List (List Int)), songL c n st = rowsL c st n
  | 0, _ => rfl
  | n + 1, st => by
    rw [songL, songL_rows c n, rowsL, rowsL, List.range_succ_eq_map, List.map_cons, List.map_map]
    congr 1
    refine List.map_congr_left fun i _ => ?_
    show next c (way c (way c st 1) i) = next c (way c st (i + 1))
    rw [← way_add, Nat.add_comm]
/-- where rows of the song end -/
theorem sF_rows {c : Ch} {st : List (List Int)} (hs : OkS c st) (k : Nat) : sF c.crew.length (cols st ++ rowsL c st k) k = way c st k := by
  rw [← ledS_none, hist_way hs, ledWay_none]
theorem behind_rows {c : Ch} {st : List (List Int)} (hc : OkC c) (hs : OkS c st) (k : Nat) (hk : k ≤ 100000) : r__law_stand_behind [eSt st, .lst ((rowsL c st k).map eLn)] = .ok (eSt (way c st k)) (eSt st) := by
  have := r__law_stand_behind_ok hc hs (rows_ok hc hs k) (by rw [rows_len]; exact hk)
  rw [rows_len, sF_rows hs] at this
  exact this
theorem sung_plain {c : Ch} {st : List (List Int)} (hc : OkC c) (hs : OkS c st) (T : Int) (h0 : 0 ≤ T) (h1 : T ≤ 1000) : r__law_sung [eCh c, eSt st, .dct [] [], .int T] = .ok (.lst ((rowsL c st T.toNat).map eLn)) (eCh c) := by
  have := r__law_sung_ok hc hs (ldOk_none c) no_leads T h0 h1
  rwa [ledS_none] at this
def br_body : MS := (sSeq (sDSet 2 (mOpL (one1 dLen) (aCons (oV (mVar 3)) aNil)) (mVar 4)) (sSeq (sSet 3 (mOp2 dAdd (oV (mVar 3)) (oV (mCall r__law_sung (aCons (oV (mVar 0)) (aCons (oV (mVar 4)) (aCons (oV mDct0) (aCons (oV (mC (.int 1))) aNil)))))))) (sSet 4 (mCall r__law_stand_behind (aCons (oV (mVar 4)) (aCons (oV (mSl (oV (mVar 3)) (sAt (mOp1 dNeg (oV (mC (.int 1))))) sNo)) aNil))))))
def br_test : M Bool := (tst (mOp2 dDNotIn (oV (mVar 4)) (oS 2)))
theorem m_ring_eq : m__law_ring = (sSeq (sPar [2, 3, 4] (pCons mDct0 (pCons (mLst aNil) (pCons (mVar 1) pNil)))) (sSeq (sWhile FU br_test br_body) (sRet (mTup (aCons (oV (mOp2 dDIx (oS 2) (oV (mVar 4)))) (aCons (oV (mOp2 dSub (oV (mOpL (one1 dLen) (aCons (oV (mVar 3)) aNil))) (oV (mOp2 dDIx (oS 2) (oV (mVar 4)))))) (aCons (oV (mVar 3)) aNil))))))) := rfl
theorem ring_turn (C S0 S S' X : D) (ks ds ks' ds' rs : List D) (l : Int) (h1 : dLen (.lst rs) = some (.int l)) (h2 : dPutO ks ds S (.int l) = some (ks', ds')) (h3 : r__law_sung [C, S, .dct [] [], .int 1] = .ok (.lst [X]) C) (h4 : dAdd (.lst rs) (.lst [X]) = some (.lst (rs ++ [X]))) (h5 : dSl (.lst (rs ++ [X])) (some (-1)) none = some (.lst [X])) (h6 : r__law_stand_behind [S, .lst [X]] = .ok S' S) :
    br_body [C, S0, .dct ks ds, .lst rs, S] = .nx [C, S0, .dct ks' ds', .lst (rs ++ [X]), S'] := by
  have hn : dNeg (.int 1) = some (.int (-1)) := rfl
  unfold br_body
  simp [h1, dsetR, h2, h3, h4, hn, h5, h6, -d_lenL, -d_addL, -d_slL]
theorem ring_test (C S0 S R : D) (ks ds : List D) (o : Option D) (h : dGetO ks ds S = some o) : br_test [C, S0, .dct ks ds, R, S] = .ok (!o.isSome) [C, S0, .dct ks ds, R, S] := by
  unfold br_test
  simp [dDNotIn, h]
theorem cut_neg1 {α : Type} (xs : List α) (x : α) : cutD (xs ++ [x]) (some (-1)) none = [x] := by
  unfold cutD
  have e : HT.sIx (xs ++ [x]).length 0 (some (-1)) = xs.length := by
    unfold HT.sIx
    simp
    omega
  have e2 : HT.sIx (xs ++ [x]).length (xs ++ [x]).length none = (xs ++ [x]).length := rfl
  rw [e, e2]
  simp
theorem ring_loop {c : Ch} {st : List (List Int)} (hc : OkC c) (hs : OkS c st) (hf : Fit c) : ∀ (m k : Nat), (waysL c st k).Nodup → 20001 ≤ m + k → ∃ n f, Ring c st n f ∧ whileN br_test br_body m [eCh c, eSt st, .dct ((waysL c st k).map eSt) (idxL k), .lst ((rowsL c st k).map eLn), eSt (way c st k)] = .nx [eCh c, eSt st, .dct ((waysL c st n).map eSt) (idxL n), .lst ((rowsL c st n).map eLn), eSt (way c st n)]
  | 0, k, hn, hm => by
    have := ways_bd hc hs hf hn
    omega
  | m + 1, k, hn, hm => by
    have hk := ways_bd hc hs hf hn
    by_cases h : way c st k ∈ waysL c st k
    · obtain ⟨f, h1, h2⟩ := ways_mem h
      refine ⟨k, f, ⟨h1, hn, h2⟩, while_end ?_⟩
      rw [h2]
      exact ring_test _ _ _ _ _ _ _ (ways_get hn h1)
    · have hn2 := ways_nd hn h
      have hk2 := ways_bd hc hs hf hn2
      obtain ⟨n, f, r, e⟩ := ring_loop hc hs hf m (k + 1) hn2 (by omega)
      have hw := way_ok hc hs k
      have su : r__law_sung [eCh c, eSt (way c st k), .dct [] [], .int 1] = .ok (.lst [eLn (next c (way c st k))]) (eCh c) := sung_plain hc hw 1 (by decide) (by decide)
      have be : r__law_stand_behind [eSt (way c st k), .lst [eLn (next c (way c st k))]] = .ok (eSt (way c st (k + 1))) (eSt (way c st k)) := behind_rows hc hw 1 (by decide)
      refine ⟨n, f, r, while_step (ring_test _ _ _ _ _ _ _ (ways_not h)) (ring_turn _ _ _ (eSt (way c st (k + 1))) (eLn (next c (way c st k))) _ _ _ _ _ (k : Int) ?_ (ways_put h hk _ rfl) su ?_ ?_ be) ?_⟩
      · rw [d_lenL, List.length_map, rows_len]
      · exact d_addL (by rw [List.length_map, rows_len, List.length_singleton]; unfold SZ; omega)
      · rw [d_slL, cut_neg1]
      · rw [← e]
        congr 1
        rw [rows_succ]
        simp
theorem ring_eval (C S KD F F2 RS S2 : D) (h1 : sWhile FU br_test br_body [C, S, .dct [] [], .lst [], S] = .nx [C, S, KD, RS, S2]) (h2 : dDIx KD S2 = some F) {l : Int} (h3 : dLen RS = some (.int l)) (h4 : dSub (.int l) F = some F2) : r__law_ring [C, S] = .ok (.tup [F, F2, RS]) C := by
  simp only [r__law_ring, m_ring_eq]
  generalize sWhile FU br_test br_body = W at *
  simp [h1, h2, h3, h4]
theorem r__law_ring_ok {c : Ch} {st : List (List Int)} (hc : OkC c) (hs : OkS c st) (hf : Fit c) : ∃ n f, Ring c st n f ∧ n < 20000 ∧ r__law_ring [eCh c, eSt st] = .ok (.tup [.int (f : Nat), .int ((n - f : Nat) : Int), .lst ((rowsL c st n).map eLn)]) (eCh c) := by
  obtain ⟨n, f, r, e⟩ := ring_loop hc hs hf FU 0 List.nodup_nil (FU_ge (by decide))
  refine ⟨n, f, r, ways_bd hc hs hf r.nd, ring_eval _ _ _ _ _ _ _ e ?_ (l := (n : Nat)) ?_ ?_⟩
  · show (dGetO _ _ _).bind id = _
    rw [r.eq, ways_get r.nd r.lt]; rfl
  · rw [d_lenL, List.length_map, rows_len]
  · have := r.lt
    show some (D.int ((n : Int) - (f : Int))) = _
    rw [show (n : Int) - (f : Int) = ((n - f : Nat) : Int) by omega]
theorem Ring.turn {c : Ch} {st : List (List Int)} {n f : Nat} (h : Ring c st n f) (k : Nat) (hk : f ≤ k) : way c st (k + (n - f)) = way c st k := by
  have hl := h.lt
  rw [show k + (n - f) = n + (k - f) by omega, way_add, h.eq, ← way_add, show f + (k - f) = k by omega]
theorem Ring.turns {c : Ch} {st : List (List Int)} {n f : Nat} (h : Ring c st n f) : ∀ (m k : Nat), f ≤ k → way c st (k + m * (n - f)) = way c st k
  | 0, k, _ => by rw [Nat.zero_mul, Nat.add_zero]
  | m + 1, k, hk => by rw [Nat.succ_mul, ← Nat.add_assoc, h.turn _ (by omega), h.turns m k hk]
theorem Ring.mod {c : Ch} {st : List (List Int)} {n f : Nat} (h : Ring c st n f) (k : Nat) (hk : f ≤ k) : way c st k = way c st (f + (k - f) % (n - f)) := by
  have e := Nat.div_add_mod (k - f) (n - f)
  have e2 := h.turns ((k - f) / (n - f)) (f + (k - f) % (n - f)) (by omega)
  rw [← e2]
  congr 1
  rw [Nat.mul_comm] at e
  omega
end Hs

namespace Hs
open PySem PySem.Spec L2

theorem need_both_ok {c : Ch} {st : List (List Int)} (hc : OkC c) (hs : OkS c st) : r_need_both [eCh c, eSt st] = .ok .non (eCh c) := by
  have h1 := hc.need
  have h2 := hs.need hc
  simp only [r_need_both, m_need_both]
  simp [h1, h2]
theorem need_beat_ok (b : Int) (h0 : 0 ≤ b) (h1 : b ≤ 1000000000000000000) : r_need_beat [.int b] = .ok .non (.int b) := by
  have e : r_is_whole [.int b, .int 0, .int 1000000000000000000] = .ok (.bl true) (.int b) := by
    rw [r_is_whole_int]
    simp [inR, h0, h1]
  simp only [r_need_beat, m_need_beat]
  simp [e]
/-- a loop whose turns keep the shape -/
theorem for_shape {mg : MG} {b : MS} (I : List D → Prop) : ∀ (xs ρ : List D), (∀ x ∈ xs, ∀ ρ, I ρ → ∃ ρ1 ρ2, mg x ρ = some ρ1 ∧ b ρ1 = .nx ρ2 ∧ I ρ2) → I ρ → ∃ ρ', forL mg b xs ρ = .nx ρ' ∧ I ρ'
  | [], ρ, _, i => ⟨ρ, rfl, i⟩
  | x :: xs, ρ, h, i => by
    obtain ⟨ρ1, ρ2, e1, e2, i2⟩ := h x List.mem_cons_self ρ i
    obtain ⟨ρ', e3, i3⟩ := for_shape I xs ρ2 (fun y hy => h y (List.mem_cons_of_mem _ hy)) i2
    refine ⟨ρ', ?_, i3⟩
    rw [v_forC, e1]
    simp [e2, e3]
theorem spot_eval (R : D) (F B L S : Int) (rs : List D) (h1 : dLen (.lst rs) = some (.int L)) (h2 : dLtX (.int B) (.int L) = some (.bl false)) (h3 : dMod (.int (B - F)) (.int (L - F)) = some (.int S)) : r_spot_of [.lst rs, .int F, .int B] = .ok (.int (F + S)) (.lst rs) := by
  have s1 : dSub (.int B) (.int F) = some (.int (B - F)) := rfl
  have s2 : dSub (.int L) (.int F) = some (.int (L - F)) := rfl
  have a1 : dAdd (.int F) (.int S) = some (.int (F + S)) := rfl
  simp only [r_spot_of, m_spot_of]
  simp [h1, h2, s1, s2, h3, a1, -d_lenL]
theorem spot_eval2 (F B L : Int) (rs : List D) (h1 : dLen (.lst rs) = some (.int L)) (h2 : dLtX (.int B) (.int L) = some (.bl true)) : r_spot_of [.lst rs, .int F, .int B] = .ok (.int B) (.lst rs) := by
  simp only [r_spot_of, m_spot_of]
  simp [h1, h2, -d_lenL]
theorem ltX_int (i j : Int) : dLtX (.int i) (.int j) = some (.bl (decide (i < j))) := rfl
theorem standing_eval (C S V : D) (b f p : Int) (row : List D) (h1 : r_need_both [C, S] = .ok .non C) (h2 : r_need_beat [.int b] = .ok .non (.int b)) (h3 : r_walked [C, S] = .ok (.tup [.lst row, .int f]) C) (h4 : r_spot_of [.lst row, .int f, .int b] = .ok (.int p) (.lst row)) (h5 : dIx (.lst row) (.int p) = some V) : r_standing_at [C, S, .int b] = .ok V C := by
  simp only [r_standing_at, m_standing_at]
  simp [h1, h2, h3, h4, h5, -d_ixL]
theorem r_standing_at_ok {c : Ch} {st : List (List Int)} (hc : OkC c) (hs : OkS c st) (hf : Fit c) (b : Nat) (B : Int) (hB : B = (b : Nat)) (hb : B ≤ 1000000000000000000) : r_standing_at [eCh c, eSt st, .int B] = .ok (eSt (way c st b)) (eCh c) := by
  obtain ⟨n, f, r, hn, e⟩ := r_walked_ok hc hs hf
  have hl : dLen (.lst ((waysL c st n).map eSt)) = some (.int (n : Nat)) := by rw [d_lenL, List.length_map, ways_len]
  have hlt := r.lt
  have hix : ∀ k : Nat, k < n → dIx (.lst ((waysL c st n).map eSt)) (.int (k : Nat)) = some (eSt (way c st k)) := fun k hk => by
    rw [d_ixL, atI_nat]
    simp [waysL, hk]
  by_cases h : b < n
  · refine standing_eval _ _ _ B (f : Nat) B _ (need_both_ok hc hs) (need_beat_ok B (by omega) hb) e (spot_eval2 _ _ (n : Nat) _ hl ?_) ?_
    · rw [ltX_int, decide_eq_true (by omega)]
    · rw [hB]; exact hix b h
  · have hm : (b - f) % (n - f) < n - f := Nat.mod_lt _ (by omega)
    have hp : (B - (f : Int)) % ((n : Int) - (f : Int)) = (((b - f) % (n - f) : Nat) : Int) := by
      rw [hB, show ((b : Nat) : Int) - (f : Int) = ((b - f : Nat) : Int) by omega, show (n : Int) - (f : Int) = ((n - f : Nat) : Int) by omega, Int.natCast_emod]
    refine standing_eval _ _ _ B (f : Nat) ((f : Int) + (B - (f : Int)) % ((n : Int) - (f : Int))) _ (need_both_ok hc hs) (need_beat_ok B (by omega) hb) e (spot_eval (.non) _ _ (n : Nat) _ _ hl ?_ (d_modI (by omega))) ?_
    · rw [ltX_int, decide_eq_false (by omega)]
    · rw [hp, show (f : Int) + (((b - f) % (n - f) : Nat) : Int) = ((f + (b - f) % (n - f) : Nat) : Int) by omega, hix _ (by omega), ← r.mod b (by omega)]
theorem count_int (xs : List Int) (l : Int) : dCount (.lst (xs.map .int)) (.int l) = some (.int (xs.count l : Nat)) := by
  show (intsD (xs.map D.int)).map _ = _
  rw [ints_map]; rfl
theorem sum_int (xs : List Int) : dSum (.lst (xs.map .int)) = some (.int xs.sum) := by
  show (intsD (xs.map D.int)).map _ = _
  rw [ints_map]; rfl
theorem count_all {m : Int} (hm : 0 ≤ m) : ∀ (xs : List Int), (∀ i ∈ xs, 0 ≤ i ∧ i < m) → ((lineL m).map fun l => ((xs.count l : Nat) : Int)).sum = xs.length
  | [], _ => by
    simp
    generalize lineL m = ls
    induction ls with
    | nil => rfl
    | cons l ls ih => simpa using ih
  | x :: xs, h => by
    have ih := count_all hm xs fun i hi => h i (List.mem_cons_of_mem _ hi)
    have hx := lineL_mem.mpr (h x List.mem_cons_self)
    have key : ∀ ls : List Int, ls.Nodup → (ls.map fun l => (((x :: xs).count l : Nat) : Int)).sum = (ls.map fun l => ((xs.count l : Nat) : Int)).sum + if x ∈ ls then 1 else 0 := by
      intro ls
      induction ls with
      | nil => intro _; simp
      | cons l ls ih2 =>
        intro hn
        rw [List.nodup_cons] at hn
        have := ih2 hn.2
        simp only [List.map_cons, List.sum_cons]
        rw [this]
        by_cases e : x = l
        · subst e
          rw [List.count_cons_self, if_neg hn.1, if_pos List.mem_cons_self]
          omega
        · rw [List.count_cons_of_ne e]
          have : (x ∈ l :: ls) ↔ x ∈ ls := by simp [e]
          by_cases hm : x ∈ ls
          · rw [if_pos hm, if_pos (this.mpr hm)]; omega
          · rw [if_neg hm, if_neg fun z => hm (this.mp z)]; omega
    have hn : (lineL m).Nodup := by
      unfold lineL List.Nodup
      rw [List.pairwise_map]
      exact List.Pairwise.imp (fun h e => h (Int.ofNat.inj e)) List.nodup_range
    rw [key _ hn, ih, if_pos hx, List.length_cons]
    omega
def win (x : Nat → Int) (s m : Nat) : List Int := (List.range m).map fun k => x (s + k)
theorem win_len (x : Nat → Int) (s m : Nat) : (win x s m).length = m := by simp [win]
theorem win_add (x : Nat → Int) (s m k : Nat) : win x s (m + k) = win x s m ++ win x (s + m) k := by
  unfold win
  rw [List.range_add, List.map_append, List.map_map]
  congr 1
  refine List.map_congr_left fun i _ => ?_
  show x (s + (m + i)) = _
  rw [Nat.add_assoc]
theorem win_slide {x : Nat → Int} {f L : Nat} (hp : ∀ k, f ≤ k → x (k + L) = x k) (l : Int) {s : Nat} (hs : f ≤ s) : (win x (s + 1) L).count l = (win x s L).count l := by
  have h1 := win_add x s 1 L
  have h2 := win_add x s L 1
  have e1 : win x s 1 = [x s] := by simp [win]
  have e2 : win x (s + L) 1 = [x s] := by simp [win, hp s hs]
  rw [Nat.add_comm 1 L, h2, e1, e2] at h1
  have := congrArg (List.count l) h1
  rw [List.count_append, List.count_append] at this
  omega
theorem win_any {x : Nat → Int} {f L : Nat} (hp : ∀ k, f ≤ k → x (k + L) = x k) (l : Int) : ∀ d, (win x (f + d) L).count l = (win x f L).count l
  | 0 => rfl
  | d + 1 => by rw [← Nat.add_assoc, win_slide hp l (by omega), win_any hp l d]
theorem win_times {x : Nat → Int} {f L : Nat} (hp : ∀ k, f ≤ k → x (k + L) = x k) (l : Int) (d : Nat) : ∀ t, (win x (f + d) (t * L)).count l = t * (win x f L).count l
  | 0 => by simp [win]
  | t + 1 => by
    rw [Nat.succ_mul, win_add, List.count_append, win_times hp l d t, Nat.add_assoc, win_any hp l, Nat.succ_mul]
/-- a singer's lines along the way -/
def lineOf (c : Ch) (st : List (List Int)) (i k : Nat) : Int := (next c (way c st k)).getD i 0
theorem lineOf_per {c : Ch} {st : List (List Int)} {n f : Nat} (r : Ring c st n f) (i : Nat) : ∀ k, f ≤ k → lineOf c st i (k + (n - f)) = lineOf c st i k := fun k hk => by
  unfold lineOf; rw [r.turn k hk]
theorem lineOf_bd {c : Ch} {st : List (List Int)} (hc : OkC c) (hs : OkS c st) {i : Nat} (hi : i < c.crew.length) (k : Nat) : 0 ≤ lineOf c st i k ∧ lineOf c st i k < c.many := by
  have hl := next_len c (way c st k)
  have := next_bd hc (way_ok hc hs k) (lineOf c st i k) (by
    unfold lineOf
    rw [getD_at (by omega)]
    exact List.getElem_mem _)
  omega
end Hs

namespace Hs
open PySem PySem.Spec L2

theorem for_find {γ : Type} {mg : MG} {b : MS} (enc : γ → D) (p : γ → Bool) (res : γ → D) (I : List D → Prop) (z : D) : ∀ (xs : List γ) (ρ : List D), (∀ x ∈ xs, ∀ ρ, I ρ → ∃ ρ1 ρ2, mg (enc x) ρ = some ρ1 ∧ ((p x = true ∧ b ρ1 = .rt (res x) ρ2 ∧ ρ2.getD 0 .non = z) ∨ (p x = false ∧ b ρ1 = .nx ρ2 ∧ I ρ2))) → I ρ → (∃ x ρ', xs.find? p = some x ∧ forL mg b (xs.map enc) ρ = .rt (res x) ρ' ∧ ρ'.getD 0 .non = z) ∨ (xs.find? p = none ∧ ∃ ρ', forL mg b (xs.map enc) ρ = .nx ρ' ∧ I ρ')
  | [], ρ, _, i => .inr ⟨rfl, ρ, rfl, i⟩
  | x :: xs, ρ, h, i => by
    obtain ⟨ρ1, ρ2, e1, h2⟩ := h x List.mem_cons_self ρ i
    rcases h2 with ⟨p1, e2, i2⟩ | ⟨p1, e2, i2⟩
    · refine .inl ⟨x, ρ2, by rw [List.find?_cons, p1], ?_, i2⟩
      rw [List.map_cons, v_forC, e1]
      simp [e2]
    · have key := for_find enc p res I z xs ρ2 (fun y hy => h y (List.mem_cons_of_mem _ hy)) i2
      have e3 : forL mg b ((x :: xs).map enc) ρ = forL mg b (xs.map enc) ρ2 := by
        rw [List.map_cons, v_forC, e1]
        simp [e2]
      rw [e3, List.find?_cons, p1]
      exact key
/-- a def's call, step by step -/
theorem fn_eval {n m : Nat} {ms : MS} {ds ρ : List D} (h : ds.length = n) (e : ds ++ List.replicate m .non = ρ) : fnOf n m ms ds = (ms ρ).rf := by unfold fnOf; rw [if_pos h, e]
theorem ret_c (d : D) (ρ : List D) : sRet (mC d) ρ = .rt d ρ := rfl
theorem eq_int (i j : Int) : dEq (.int i) (.int j) = some (.bl (decide (i = j))) := by
  rw [dEq_g (n := 0) (m := 0) rfl rfl]
  congr 2
  exact decide_eq_decide.mpr ⟨fun e => D.int.inj e, fun e => by rw [e]⟩
theorem ne_int (i j : Int) : dNe (.int i) (.int j) = some (.bl (!decide (i = j))) := by
  rw [dNe_g (n := 0) (m := 0) rfl rfl]
  congr 3
  exact decide_eq_decide.mpr ⟨fun e => D.int.inj e, fun e => by rw [e]⟩
theorem eq_ints (a b : List Int) : dEq (.lst (a.map .int)) (.lst (b.map .int)) = some (.bl (decide (a = b))) := by
  have g : ∀ xs : List Int, (D.lst (xs.map .int)).g 1 = true := fun xs => all_g fun _ _ => rfl
  rw [dEq_g (g a) (g b)]
  congr 2
  exact decide_eq_decide.mpr ⟨fun e => (List.map_inj_right fun _ _ z => D.int.inj z).mp (D.lst.inj e), fun e => by rw [e]⟩
theorem lines_eval (C S R : D) (f : Int) (row rs : List D) (h1 : r_walked [C, S] = .ok (.tup [.lst row, .int f]) C) (h2 : compL [4] (gNm 4) tsNo (mCall r_all_next (aCons (oV (mVar 0)) (aCons (oV (mVar 4)) aNil))) row [C, S, .lst row, .int f, .non] = .ok rs [C, S, .lst row, .int f, .non]) (z : szL rs = some (.lst rs)) : r_lines_round [C, S] = .ok (.tup [.lst rs, .int f]) C := by
  simp only [r_lines_round, m_lines_round]
  simp [h1, h2, z]
theorem lines_step (C S R F W LN : D) (h1 : r_all_next [C, W] = .ok LN C) : stepL [4] (gNm 4) tsNo (mCall r_all_next (aCons (oV (mVar 0)) (aCons (oV (mVar 4)) aNil))) W [C, S, R, F, .non] = .ok (some LN) [C, S, R, F, .non] := by
  simp [stepL, restore, h1]
theorem r_lines_round_ok {c : Ch} {st : List (List Int)} (hc : OkC c) (hs : OkS c st) (hf : Fit c) {n f : Nat} (r : Ring c st n f) : n < 20000 ∧ r_lines_round [eCh c, eSt st] = .ok (.tup [.lst ((rowsL c st n).map eLn), .int (f : Nat)]) (eCh c) := by
  obtain ⟨n', f', r', hn, e⟩ := r_walked_ok hc hs hf
  obtain ⟨rfl, rfl⟩ := r.uniq r'
  refine ⟨hn, lines_eval _ _ .non _ _ _ e ?_ (szL_ok (by rw [List.length_map, rows_len]; omega))⟩
  have e2 : (rowsL c st n).map eLn = (waysL c st n).map fun w => eLn (next c w) := by
    unfold rowsL waysL
    rw [List.map_map, List.map_map]
    rfl
  rw [e2]
  refine comp_map (enc := eSt) (f := fun w => eLn (next c w)) (waysL c st n) fun w hw => lines_step _ _ _ _ _ _ ?_
  obtain ⟨k, _, rfl⟩ := List.mem_map.mp hw
  exact r_all_next_ch c _ hc (way_ok hc hs k)
theorem drop_range' {α : Type} (x : Nat → α) (f n : Nat) (h : f ≤ n) : ((List.range n).map x).drop f = (List.range (n - f)).map fun k => x (f + k) := by
  have e : (List.range n).map x = (List.range f).map x ++ (List.range (n - f)).map fun k => x (f + k) := by
    rw [show n = f + (n - f) by omega, List.range_add, List.map_append, List.map_map, Nat.add_sub_cancel_left]
    rfl
  rw [e, List.drop_left' (by simp)]
theorem drop_win {c : Ch} {st : List (List Int)} (i : Nat) {n f : Nat} (h : f ≤ n) : ((rowsL c st n).drop f).map (fun r => r.getD i 0) = win (lineOf c st i) f (n - f) := by
  unfold rowsL win lineOf
  rw [drop_range' _ f n h, List.map_map]
  rfl
end Hs

namespace Hs
open PySem PySem.Spec PyProof.Rows L2
def m_echo : MS := (sSeq (sE (mCall r_need_both (aCons (oV (mVar 0)) (aCons (oV (mVar 1)) aNil)))) (sSeq (sE (mCall r_need_name (aCons (oV (mVar 0)) (aCons (oV (mVar 2)) aNil)))) (sSeq (sE (mCall r_need_name (aCons (oV (mVar 0)) (aCons (oV (mVar 3)) aNil)))) (sSeq (sAsg (mCall r_lines_round (aCons (oV (mVar 0)) (aCons (oV (mVar 1)) aNil))) (gTp (gCn (gNm 4) (gCn (gNm 5) gNo)))) (sSeq (sSet 6 (mSl (oV (mVar 4)) (sAt (mVar 5)) sNo)) (sSeq (sAsg (mTup (aCons (oV (mLc [9] (mItems (mVar 6)) (gNm 9) tsNo (mOp2 dIx (oV (mVar 9)) (oV (mCall r_number_of (aCons (oV (mVar 0)) (aCons (oV (mVar 2)) aNil))))))) (aCons (oV (mLc [9] (mItems (mVar 6)) (gNm 9) tsNo (mOp2 dIx (oV (mVar 9)) (oV (mCall r_number_of (aCons (oV (mVar 0)) (aCons (oV (mVar 3)) aNil))))))) aNil))) (gTp (gCn (gNm 7) (gCn (gNm 8) gNo)))) (sSeq (sFor (mRg rg1 (aCons (oV (mOp2 dAdd (oV (mC (.int 20))) (oV (mC (.int 1))))) aNil)) (gNm 10) (sIf (tst (mOpL (one1 dAll) (aCons (oV (mLc [11] (mRg rg1 (aCons (oV (mOpL (one1 dLen) (aCons (oV (mVar 6)) aNil))) aNil)) (gNm 11) tsNo (mOp2 dEq (oV (mOp2 dIx (oV (mVar 8)) (oV (mOp2 dMod (oV (mOp2 dAdd (oV (mVar 11)) (oV (mVar 10)))) (oV (mOpL (one1 dLen) (aCons (oV (mVar 6)) aNil))))))) (oV (mOp2 dIx (oV (mVar 7)) (oV (mVar 11))))))) aNil))) (sRet (mVar 10)) sNx)) (sRet (mC .non)))))))))
def r_echo : Fn := fnOf 4 8 m_echo
def m_law : MS := (sSeq (sForO 1 r__law_rounds (aCons (oV (mVar 0)) (aCons (oV (mC (.int 4))) aNil)) (sSeq (sSet 2 (mCallI 1 r__law_any_choir aNil)) (sSeq (sSet 3 (mCall r__law_crew (aCons (oV (mVar 2)) aNil))) (sSeq (sIf (tst (mOp2 dEq (oV (mCallI 1 r__law_roll (aCons (oV (mC (.int 2))) aNil))) (oV (mC (.int 0))))) (sSeq (sPar [4, 5] (pCons (mOp2 dIx (oV (mVar 3)) (oV (mCallI 1 r__law_roll (aCons (oV (mOpL (one1 dLen) (aCons (oV (mVar 3)) aNil))) aNil)))) (pCons (mOp2 dAdd (oV (mC (.int 1))) (oV (mCallI 1 r__law_roll (aCons (oV (mC (.int 3))) aNil)))) pNil))) (sSeq (sSet 6 (mTup (aCons (oV (mC (.str "dee"))) (aCons (oV (mTup (aCons (oV (mTup (aCons (oV (mVar 4)) (aCons (oV (mVar 5)) aNil)))) aNil))) (aCons (oV (mOpL (one1 dTuple) (aCons (oV (mLrg (mOp2 dIx (oV (mVar 2)) (oV (mC (.int 0)))))) aNil))) aNil))))) (sSeq (sSet 2 (mTup (aCons (oV (mOp2 dIx (oV (mVar 2)) (oV (mC (.int 0))))) (aCons (oV (mOp2 dAdd (oV (mOp2 dIx (oV (mVar 2)) (oV (mC (.int 1))))) (oV (mTup (aCons (oV (mVar 6)) aNil))))) aNil)))) (sSet 3 (mOp2 dAdd (oV (mVar 3)) (oV (mLst (aCons (oV (mC (.str "dee"))) aNil)))))))) sNx) (sSeq (sSet 7 (mCallI 1 r__law_any_standing (aCons (oV (mVar 2)) aNil))) (sSeq (sAsg (mCall r__law_ring (aCons (oV (mVar 2)) (aCons (oV (mVar 7)) aNil))) (gTp (gCn (gNm 8) (gCn (gNm 9) (gCn (gNm 10) gNo))))) (sSeq (sSet 11 (mSl (oV (mVar 10)) (sAt (mVar 8)) sNo)) (sSeq (sFor (mEn (mVar 3)) (gTp (gCn (gNm 12) (gCn (gNm 4) gNo))) (sFor (mEn (mVar 3)) (gTp (gCn (gNm 13) (gCn (gNm 14) gNo))) (sSeq (sSet 15 (mLst aNil)) (sSeq (sFor (mRg rg1 (aCons (oV (mC (.int 21))) aNil)) (gNm 16) (sSeq (sSet 17 (mOp2 dAdd (oV (mSl (oV (mVar 11)) (sAt (mOp2 dMod (oV (mVar 16)) (oV (mVar 9)))) sNo)) (oV (mSl (oV (mVar 11)) sNo (sAt (mOp2 dMod (oV (mVar 16)) (oV (mVar 9)))))))) (sIf (tst (mOp2 dEq (oV (mLc [18] (mItems (mVar 17)) (gNm 18) tsNo (mOp2 dIx (oV (mVar 18)) (oV (mVar 13))))) (oV (mLc [18] (mItems (mVar 11)) (gNm 18) tsNo (mOp2 dIx (oV (mVar 18)) (oV (mVar 12))))))) (sE (mLm 15 fApp (mVar 16))) sNx))) (sIf (tst (mOp2 dNe (oV (mCall r_echo (aCons (oV (mVar 2)) (aCons (oV (mVar 7)) (aCons (oV (mVar 4)) (aCons (oV (mVar 14)) aNil)))))) (oV (mIf (tst (mOp2 dNe (oS 15) (oV (mLst aNil)))) (mOp2 dIx (oS 15) (oV (mC (.int 0)))) (mC .non))))) (sRet (mC (.bl false))) sNx))))) (sSeq (sIf (tAndM (tst (mOp2 dEq (oV (mOp2 dIx (oV (mVar 3)) (oV (mOp1 dNeg (oV (mC (.int 1))))))) (oV (mC (.str "dee"))))) (tst (mOp2 dIsN (oV (mCall r_echo (aCons (oV (mVar 2)) (aCons (oV (mVar 7)) (aCons (oV (mOp2 dIx (oV (mOp2 dIx (oV (mOp2 dIx (oV (mOp2 dIx (oV (mOp2 dIx (oV (mVar 2)) (oV (mC (.int 1))))) (oV (mOp1 dNeg (oV (mC (.int 1))))))) (oV (mC (.int 1))))) (oV (mC (.int 0))))) (oV (mC (.int 0))))) (aCons (oV (mC (.str "dee"))) aNil)))))) (oV (mC .non))))) (sRet (mC (.bl false))) sNx) (sIf (tst (mOp2 dNe (oV (mLc [4] (mItems (mVar 3)) (gNm 4) (tst (mOp2 dNe (oV (mCall r_echo (aCons (oV (mVar 2)) (aCons (oV (mVar 7)) (aCons (oV (mVar 4)) (aCons (oV (mVar 4)) aNil)))))) (oV (mC (.int 0))))) (mVar 4))) (oV (mLst aNil)))) (sRet (mC (.bl false))) sNx)))))))))) (sRet (mC (.bl true))))
def r_law : Fn := fnOf 1 18 m_law
end Hs

namespace Hs
open PySem PySem.Spec L2

def optN : Option Nat → D
  | none => .non
  | some n => .int (n : Nat)
def echoP (c : Ch) (st : List (List Int)) (f L i j : Nat) (late : Nat) : Bool := (List.range L).all fun a => decide (lineOf c st j (f + (a + late) % L) = lineOf c st i (f + a))
def echoN (c : Ch) (st : List (List Int)) (f L i j : Nat) : Option Nat := (List.range 21).find? (echoP c st f L i j)
def ec_in : M D := (mOp2 dEq (oV (mOp2 dIx (oV (mVar 8)) (oV (mOp2 dMod (oV (mOp2 dAdd (oV (mVar 11)) (oV (mVar 10)))) (oV (mOpL (one1 dLen) (aCons (oV (mVar 6)) aNil))))))) (oV (mOp2 dIx (oV (mVar 7)) (oV (mVar 11)))))
def ec_body : MS := (sIf (tst (mOpL (one1 dAll) (aCons (oV (mLc [11] (mRg rg1 (aCons (oV (mOpL (one1 dLen) (aCons (oV (mVar 6)) aNil))) aNil)) (gNm 11) tsNo ec_in)) aNil))) (sRet (mVar 10)) sNx)
def ec_col (k : Nat) : M D := (mOp2 dIx (oV (mVar 9)) (oV (mCall r_number_of (aCons (oV (mVar 0)) (aCons (oV (mVar k)) aNil)))))
theorem m_echo_eq : m_echo = (sSeq (sE (mCall r_need_both (aCons (oV (mVar 0)) (aCons (oV (mVar 1)) aNil)))) (sSeq (sE (mCall r_need_name (aCons (oV (mVar 0)) (aCons (oV (mVar 2)) aNil)))) (sSeq (sE (mCall r_need_name (aCons (oV (mVar 0)) (aCons (oV (mVar 3)) aNil)))) (sSeq (sAsg (mCall r_lines_round (aCons (oV (mVar 0)) (aCons (oV (mVar 1)) aNil))) (gTp (gCn (gNm 4) (gCn (gNm 5) gNo)))) (sSeq (sSet 6 (mSl (oV (mVar 4)) (sAt (mVar 5)) sNo)) (sSeq (sAsg (mTup (aCons (oV (mLc [9] (mItems (mVar 6)) (gNm 9) tsNo (ec_col 2))) (aCons (oV (mLc [9] (mItems (mVar 6)) (gNm 9) tsNo (ec_col 3))) aNil))) (gTp (gCn (gNm 7) (gCn (gNm 8) gNo)))) (sSeq (sFor (mRg rg1 (aCons (oV (mOp2 dAdd (oV (mC (.int 20))) (oV (mC (.int 1))))) aNil)) (gNm 10) ec_body) (sRet (mC .non))))))))) := rfl
section
variable (C S NA NB R F : D)
theorem ec_step (rg one two : List D) (L a l p : Int) (U V : D) (b : Bool) (h1 : dLen (.lst rg) = some (.int L)) (h2 : dMod (.int (a + l)) (.int L) = some (.int p)) (h3 : dIx (.lst two) (.int p) = some V) (h4 : dIx (.lst one) (.int a) = some U) (h5 : dEq V U = some (.bl b)) : stepL [11] (gNm 11) tsNo ec_in (.int a) [C, S, NA, NB, R, F, .lst rg, .lst one, .lst two, .non, .int l, .non] = .ok (some (.bl b)) [C, S, NA, NB, R, F, .lst rg, .lst one, .lst two, .non, .int l, .non] := by
  have ad : dAdd (.int a) (.int l) = some (.int (a + l)) := rfl
  unfold ec_in
  simp [stepL, restore, h1, ad, h2, h3, h4, h5, -d_lenL, -d_ixL]
theorem ec_yes (rg one two RG bs : List D) (L l : Int) (h1 : dLen (.lst rg) = some (.int L)) (er : rg1 [.int L] = some RG) (h2 : compL [11] (gNm 11) tsNo ec_in RG [C, S, NA, NB, R, F, .lst rg, .lst one, .lst two, .non, .int l, .non] = .ok bs [C, S, NA, NB, R, F, .lst rg, .lst one, .lst two, .non, .int l, .non]) (z : szL bs = some (.lst bs)) (h3 : dAll (.lst bs) = some (.bl true)) : ec_body [C, S, NA, NB, R, F, .lst rg, .lst one, .lst two, .non, .int l, .non] = .rt (.int l) [C, S, NA, NB, R, F, .lst rg, .lst one, .lst two, .non, .int l, .non] := by
  unfold ec_body
  generalize ec_in = m1 at *
  simp [h1, er, h2, z, h3, -d_lenL]
theorem ec_no (rg one two RG bs : List D) (L l : Int) (h1 : dLen (.lst rg) = some (.int L)) (er : rg1 [.int L] = some RG) (h2 : compL [11] (gNm 11) tsNo ec_in RG [C, S, NA, NB, R, F, .lst rg, .lst one, .lst two, .non, .int l, .non] = .ok bs [C, S, NA, NB, R, F, .lst rg, .lst one, .lst two, .non, .int l, .non]) (z : szL bs = some (.lst bs)) (h3 : dAll (.lst bs) = some (.bl false)) : ec_body [C, S, NA, NB, R, F, .lst rg, .lst one, .lst two, .non, .int l, .non] = .nx [C, S, NA, NB, R, F, .lst rg, .lst one, .lst two, .non, .int l, .non] := by
  unfold ec_body
  generalize ec_in = m1 at *
  simp [h1, er, h2, z, h3, -d_lenL]
theorem col_step (k : Nat) (RG A B RW N I V : D) (hk : [C, S, NA, NB, R, F, RG, A, B, RW, .non, .non].getD k .non = N) (h1 : r_number_of [C, N] = .ok I C) (h2 : dIx RW I = some V) : stepL [9] (gNm 9) tsNo (ec_col k) RW [C, S, NA, NB, R, F, RG, A, B, .non, .non, .non] = .ok (some V) [C, S, NA, NB, R, F, RG, A, B, .non, .non, .non] := by
  have e : mVar k [C, S, NA, NB, R, F, RG, A, B, RW, .non, .non] = .ok N [C, S, NA, NB, R, F, RG, A, B, RW, .non, .non] := by unfold mVar; rw [hk]
  unfold ec_col
  generalize mVar k = mk at *
  simp [stepL, restore, e, h1, h2]
theorem r21_ok {RG : List D} (er : rg1 [.int 21] = some RG) (ρ : List D) : mRg rg1 (aCons (oV (mOp2 dAdd (oV (mC (.int 20))) (oV (mC (.int 1))))) aNil) ρ = .ok RG ρ := by
  have ad : dAdd (.int 20) (.int 1) = some (.int 21) := rfl
  generalize (21 : Int) = t at *
  simp [ad, er, -d_add]
theorem echo_eval (f : Int) (rg one two : List D) (RES : D) (h1 : r_need_both [C, S] = .ok .non C) (h2 : r_need_name [C, NA] = .ok .non C) (h3 : r_need_name [C, NB] = .ok .non C) (h4 : r_lines_round [C, S] = .ok (.tup [R, .int f]) C) (h5 : dSl R (some f) none = some (.lst rg)) (c1 : compL [9] (gNm 9) tsNo (ec_col 2) rg [C, S, NA, NB, R, .int f, .lst rg, .non, .non, .non, .non, .non] = .ok one [C, S, NA, NB, R, .int f, .lst rg, .non, .non, .non, .non, .non]) (z1 : szL one = some (.lst one)) (c2 : compL [9] (gNm 9) tsNo (ec_col 3) rg [C, S, NA, NB, R, .int f, .lst rg, .non, .non, .non, .non, .non] = .ok two [C, S, NA, NB, R, .int f, .lst rg, .non, .non, .non, .non, .non]) (z2 : szL two = some (.lst two)) (RG : List D) (er : rg1 [.int 21] = some RG)
    (lo : (∃ ρ', forL (gNm 10) ec_body RG [C, S, NA, NB, R, .int f, .lst rg, .lst one, .lst two, .non, .non, .non] = .rt RES ρ' ∧ ρ'.getD 0 .non = C) ∨ (RES = .non ∧ ∃ ρ', forL (gNm 10) ec_body RG [C, S, NA, NB, R, .int f, .lst rg, .lst one, .lst two, .non, .non, .non] = .nx ρ' ∧ ρ'.getD 0 .non = C)) : r_echo [C, S, NA, NB] = .ok RES C := by
  have ad : ∀ ρ, mRg rg1 (aCons (oV (mOp2 dAdd (oV (mC (.int 20))) (oV (mC (.int 1))))) aNil) ρ = .ok RG ρ := fun ρ => r21_ok er ρ
  simp only [r_echo, m_echo_eq]
  generalize (mRg rg1 (aCons (oV (mOp2 dAdd (oV (mC (.int 20))) (oV (mC (.int 1))))) aNil)) = m21 at *
  clear er
  generalize ec_body = m1 at *
  generalize ec_col 2 = m2 at *
  generalize ec_col 3 = m3 at *
  have A1 : (sE (mCall r_need_both (aCons (oV (mVar 0)) (aCons (oV (mVar 1)) aNil)))) [C, S, NA, NB, .non, .non, .non, .non, .non, .non, .non, .non] = .nx [C, S, NA, NB, .non, .non, .non, .non, .non, .non, .non, .non] := by simp [h1]
  have A2 : (sE (mCall r_need_name (aCons (oV (mVar 0)) (aCons (oV (mVar 2)) aNil)))) [C, S, NA, NB, .non, .non, .non, .non, .non, .non, .non, .non] = .nx [C, S, NA, NB, .non, .non, .non, .non, .non, .non, .non, .non] := by simp [h2]
  have A3 : (sE (mCall r_need_name (aCons (oV (mVar 0)) (aCons (oV (mVar 3)) aNil)))) [C, S, NA, NB, .non, .non, .non, .non, .non, .non, .non, .non] = .nx [C, S, NA, NB, .non, .non, .non, .non, .non, .non, .non, .non] := by simp [h3]
  have A4 : (sAsg (mCall r_lines_round (aCons (oV (mVar 0)) (aCons (oV (mVar 1)) aNil))) (gTp (gCn (gNm 4) (gCn (gNm 5) gNo)))) [C, S, NA, NB, .non, .non, .non, .non, .non, .non, .non, .non] = .nx [C, S, NA, NB, R, .int f, .non, .non, .non, .non, .non, .non] := by simp [h4]
  have A5 : (sSet 6 (mSl (oV (mVar 4)) (sAt (mVar 5)) sNo)) [C, S, NA, NB, R, .int f, .non, .non, .non, .non, .non, .non] = .nx [C, S, NA, NB, R, .int f, .lst rg, .non, .non, .non, .non, .non] := by simp [h5]
  have A6 : (sAsg (mTup (aCons (oV (mLc [9] (mItems (mVar 6)) (gNm 9) tsNo m2)) (aCons (oV (mLc [9] (mItems (mVar 6)) (gNm 9) tsNo m3)) aNil))) (gTp (gCn (gNm 7) (gCn (gNm 8) gNo)))) [C, S, NA, NB, R, .int f, .lst rg, .non, .non, .non, .non, .non] = .nx [C, S, NA, NB, R, .int f, .lst rg, .lst one, .lst two, .non, .non, .non] := by simp [c1, z1, c2, z2]
  rw [fn_eval (n := 4) (m := 8) (ds := [C, S, NA, NB]) (ρ := [C, S, NA, NB, .non, .non, .non, .non, .non, .non, .non, .non]) rfl rfl, v_seq, A1, then_nx, v_seq, A2, then_nx, v_seq, A3, then_nx, v_seq, A4, then_nx, v_seq, A5, then_nx, v_seq, A6, then_nx, v_seq, v_sFor, ad, v_rs_ok]
  rcases lo with ⟨ρ', lo, l0⟩ | ⟨rfl, ρ', lo, l0⟩
  · rw [lo, then_rt, rf_rt, l0]
  · rw [lo, then_nx, ret_c, rf_rt, l0]
end
theorem win_at (x : Nat → Int) (s m : Nat) {k : Nat} (hk : k < m) : dIx (.lst ((win x s m).map .int)) (.int (k : Nat)) = some (.int (x (s + k))) := by
  rw [d_ixL, atI_nat]
  simp [win, hk]
theorem ix_of6 {c : Ch} (hc : OkC c) {i : Nat} (hi : i < c.crew.length) : c.ix c.crew[i].nm = i := by
  have h : i < c.nms.length := by rw [nms_len]; exact hi
  have e : c.nms[i] = c.crew[i].nm := by simp [Ch.nms]
  rw [← e]
  exact idx_at (rise_nd hc.rise) i h
theorem row_ix6 {c : Ch} {st : List (List Int)} (hc : OkC c) (hs : OkS c st) {i : Nat} (hi : i < c.crew.length) {n : Nat} {r : List Int} (hr : r ∈ rowsL c st n) : dIx (eLn r) (.int (i : Nat)) = some (.int (r.getD i 0)) := by
  have hl := ((rows_ok hc hs n).row r hr).1
  rw [eLn, d_ixT, atI_nat, getD_at (by omega)]
  simp [hl, hi]
theorem r_echo_ok {c : Ch} {st : List (List Int)} (hc : OkC c) (hs : OkS c st) (hf : Fit c) {n f : Nat} (r : Ring c st n f) {i j : Nat} (hi : i < c.crew.length) (hj : j < c.crew.length) : r_echo [eCh c, eSt st, .str c.crew[i].nm, .str c.crew[j].nm] = .ok (optN (echoN c st f (n - f) i j)) (eCh c) := by
  obtain ⟨hn, e⟩ := r_lines_round_ok hc hs hf r
  have hlt := r.lt
  have hmi : c.crew[i].nm ∈ c.nms := List.mem_map.mpr ⟨_, List.getElem_mem hi, rfl⟩
  have hmj : c.crew[j].nm ∈ c.nms := List.mem_map.mpr ⟨_, List.getElem_mem hj, rfl⟩
  have hni := r_number_of_ch c hc _ hmi
  have hnj := r_number_of_ch c hc _ hmj
  rw [ix_of6 hc hi] at hni
  rw [ix_of6 hc hj] at hnj
  have hrl : dLen (.lst (((rowsL c st n).drop f).map eLn)) = some (.int ((n - f : Nat) : Int)) := by
    rw [d_lenL, List.length_map, List.length_drop, rows_len]
  have hcol : ∀ k, (win (lineOf c st k) f (n - f)).map D.int = ((rowsL c st n).drop f).map fun q => .int (q.getD k 0) := fun k => by
    rw [← drop_win k (by omega), List.map_map]
    rfl
  have hrg : rg1 [.int ((n - f : Nat) : Int)] = some ((List.range (n - f)).map fun a => .int ((a : Nat) : Int)) := by
    rw [rg1_ok (by omega) (by omega), rgD_line, lineL, List.map_map, Int.toNat_natCast]
    rfl
  have turn : ∀ l : Nat, compL [11] (gNm 11) tsNo ec_in ((List.range (n - f)).map fun a => .int ((a : Nat) : Int)) [eCh c, eSt st, .str c.crew[i].nm, .str c.crew[j].nm, .lst ((rowsL c st n).map eLn), .int (f : Nat), .lst (((rowsL c st n).drop f).map eLn), .lst ((win (lineOf c st i) f (n - f)).map .int), .lst ((win (lineOf c st j) f (n - f)).map .int), .non, .int (l : Nat), .non] = .ok ((List.range (n - f)).map fun a => .bl (decide (lineOf c st j (f + (a + l) % (n - f)) = lineOf c st i (f + a)))) [eCh c, eSt st, .str c.crew[i].nm, .str c.crew[j].nm, .lst ((rowsL c st n).map eLn), .int (f : Nat), .lst (((rowsL c st n).drop f).map eLn), .lst ((win (lineOf c st i) f (n - f)).map .int), .lst ((win (lineOf c st j) f (n - f)).map .int), .non, .int (l : Nat), .non] := fun l => by
    refine comp_map (enc := fun a : Nat => .int (a : Int)) (f := fun a => .bl (decide (lineOf c st j (f + (a + l) % (n - f)) = lineOf c st i (f + a)))) _ fun a ha => ?_
    rw [List.mem_range] at ha
    refine ec_step _ _ _ _ _ _ _ _ _ _ _ _ ((((a + l) % (n - f) : Nat)) : Int) _ _ _ hrl ?_ (win_at _ _ _ (Nat.mod_lt _ (by omega))) (win_at _ _ _ ha) (eq_int _ _)
    rw [d_modI (by omega), ← Int.natCast_add, Int.natCast_emod]
  have fnd := for_find (mg := gNm 10) (b := ec_body) (fun l : Nat => .int (l : Int)) (echoP c st f (n - f) i j) (fun l : Nat => .int (l : Int)) (fun ρ => ∃ b10, ρ = [eCh c, eSt st, .str c.crew[i].nm, .str c.crew[j].nm, .lst ((rowsL c st n).map eLn), .int (f : Nat), .lst (((rowsL c st n).drop f).map eLn), .lst ((win (lineOf c st i) f (n - f)).map .int), .lst ((win (lineOf c st j) f (n - f)).map .int), .non, b10, .non]) (eCh c) (List.range 21) [eCh c, eSt st, .str c.crew[i].nm, .str c.crew[j].nm, .lst ((rowsL c st n).map eLn), .int (f : Nat), .lst (((rowsL c st n).drop f).map eLn), .lst ((win (lineOf c st i) f (n - f)).map .int), .lst ((win (lineOf c st j) f (n - f)).map .int), .non, .non, .non] (fun l hl ρ ⟨b10, hρ⟩ => by
    subst hρ
    have ha := d_allM (fun a => decide (lineOf c st j (f + (a + l) % (n - f)) = lineOf c st i (f + a))) (List.range (n - f))
    have z : szL ((List.range (n - f)).map fun a => D.bl (decide (lineOf c st j (f + (a + l) % (n - f)) = lineOf c st i (f + a)))) = some (.lst ((List.range (n - f)).map fun a => D.bl (decide (lineOf c st j (f + (a + l) % (n - f)) = lineOf c st i (f + a))))) := szL_ok (by simp; omega)
    by_cases hp : echoP c st f (n - f) i j l = true
    · have hp' := hp
      unfold echoP at hp'
      rw [hp'] at ha
      exact ⟨_, _, rfl, .inl ⟨hp, ec_yes _ _ _ _ _ _ _ _ _ _ _ _ _ hrl hrg (turn l) z ha, rfl⟩⟩
    · have hp' : echoP c st f (n - f) i j l = false := by simpa using hp
      have hp2 := hp'
      unfold echoP at hp2
      rw [hp2] at ha
      exact ⟨_, _, rfl, .inr ⟨hp', ec_no _ _ _ _ _ _ _ _ _ _ _ _ _ hrl hrg (turn l) z ha, _, rfl⟩⟩) ⟨_, rfl⟩
  have er : rg1 [.int 21] = some ((List.range 21).map fun l : Nat => .int (l : Int)) := by
    rw [rg1_ok (by omega) (by omega), rgD_line, lineL, List.map_map]
    rfl
  refine echo_eval _ _ _ _ _ (f : Nat) (((rowsL c st n).drop f).map eLn) ((win (lineOf c st i) f (n - f)).map .int) ((win (lineOf c st j) f (n - f)).map .int) _ (need_both_ok hc hs) (r_need_name_ok hc hmi) (r_need_name_ok hc hmj) e ?_ ?_ (szL_ok (by simp [win_len]; omega)) ?_ (szL_ok (by simp [win_len]; omega)) _ er ?_
  · rw [d_slL, cut_from, List.map_drop]
  · rw [hcol]
    exact comp_map (enc := eLn) (f := fun q => .int (q.getD i 0)) _ fun q hq => col_step _ _ _ _ _ _ 2 _ _ _ _ _ _ _ rfl hni (row_ix6 hc hs hi (List.mem_of_mem_drop hq))
  · rw [hcol]
    exact comp_map (enc := eLn) (f := fun q => .int (q.getD j 0)) _ fun q hq => col_step _ _ _ _ _ _ 3 _ _ _ _ _ _ _ rfl hnj (row_ix6 hc hs hj (List.mem_of_mem_drop hq))
  · rcases fnd with ⟨l, ρ', h1, h2, h3⟩ | ⟨h1, ρ', h2, b10, rfl⟩
    · refine .inl ⟨ρ', ?_, h3⟩
      unfold echoN
      rw [h1, h2]; rfl
    · refine .inr ⟨by unfold echoN; rw [h1]; rfl, _, h2, rfl⟩
end Hs

namespace Hs
open PySem PySem.Spec L2

def me12 : M D := (mOp2 dIx (oV (mVar 18)) (oV (mVar 12)))
def me13 : M D := (mOp2 dIx (oV (mVar 18)) (oV (mVar 13)))
def b_late : MS := (sSeq (sSet 17 (mOp2 dAdd (oV (mSl (oV (mVar 11)) (sAt (mOp2 dMod (oV (mVar 16)) (oV (mVar 9)))) sNo)) (oV (mSl (oV (mVar 11)) sNo (sAt (mOp2 dMod (oV (mVar 16)) (oV (mVar 9)))))))) (sIf (tst (mOp2 dEq (oV (mLc [18] (mItems (mVar 17)) (gNm 18) tsNo me13)) (oV (mLc [18] (mItems (mVar 11)) (gNm 18) tsNo me12)))) (sE (mLm 15 fApp (mVar 16))) sNx))
def b_in : MS := (sSeq (sSet 15 (mLst aNil)) (sSeq (sFor (mRg rg1 (aCons (oV (mC (.int 21))) aNil)) (gNm 16) b_late) (sIf (tst (mOp2 dNe (oV (mCall r_echo (aCons (oV (mVar 2)) (aCons (oV (mVar 7)) (aCons (oV (mVar 4)) (aCons (oV (mVar 14)) aNil)))))) (oV (mIf (tst (mOp2 dNe (oS 15) (oV (mLst aNil)))) (mOp2 dIx (oS 15) (oV (mC (.int 0)))) (mC .non))))) (sRet (mC (.bl false))) sNx)))
def g1314 : MG := (gTp (gCn (gNm 13) (gCn (gNm 14) gNo)))
def g124 : MG := (gTp (gCn (gNm 12) (gCn (gNm 4) gNo)))
def b_out : MS := (sFor (mEn (mVar 3)) g1314 b_in)
def b_dee : MS := (sSeq (sPar [4, 5] (pCons (mOp2 dIx (oV (mVar 3)) (oV (mCallI 1 r__law_roll (aCons (oV (mOpL (one1 dLen) (aCons (oV (mVar 3)) aNil))) aNil)))) (pCons (mOp2 dAdd (oV (mC (.int 1))) (oV (mCallI 1 r__law_roll (aCons (oV (mC (.int 3))) aNil)))) pNil))) (sSeq (sSet 6 (mTup (aCons (oV (mC (.str "dee"))) (aCons (oV (mTup (aCons (oV (mTup (aCons (oV (mVar 4)) (aCons (oV (mVar 5)) aNil)))) aNil))) (aCons (oV (mOpL (one1 dTuple) (aCons (oV (mLrg (mOp2 dIx (oV (mVar 2)) (oV (mC (.int 0)))))) aNil))) aNil))))) (sSeq (sSet 2 (mTup (aCons (oV (mOp2 dIx (oV (mVar 2)) (oV (mC (.int 0))))) (aCons (oV (mOp2 dAdd (oV (mOp2 dIx (oV (mVar 2)) (oV (mC (.int 1))))) (oV (mTup (aCons (oV (mVar 6)) aNil))))) aNil)))) (sSet 3 (mOp2 dAdd (oV (mVar 3)) (oV (mLst (aCons (oV (mC (.str "dee"))) aNil))))))))
def t_dee : M Bool := (tst (mOp2 dEq (oV (mCallI 1 r__law_roll (aCons (oV (mC (.int 2))) aNil))) (oV (mC (.int 0)))))
def t_last : M Bool := (tAndM (tst (mOp2 dEq (oV (mOp2 dIx (oV (mVar 3)) (oV (mOp1 dNeg (oV (mC (.int 1))))))) (oV (mC (.str "dee"))))) (tst (mOp2 dIsN (oV (mCall r_echo (aCons (oV (mVar 2)) (aCons (oV (mVar 7)) (aCons (oV (mOp2 dIx (oV (mOp2 dIx (oV (mOp2 dIx (oV (mOp2 dIx (oV (mOp2 dIx (oV (mVar 2)) (oV (mC (.int 1))))) (oV (mOp1 dNeg (oV (mC (.int 1))))))) (oV (mC (.int 1))))) (oV (mC (.int 0))))) (oV (mC (.int 0))))) (aCons (oV (mC (.str "dee"))) aNil)))))) (oV (mC .non)))))
def t_self : M Bool := (tst (mOp2 dNe (oV (mCall r_echo (aCons (oV (mVar 2)) (aCons (oV (mVar 7)) (aCons (oV (mVar 4)) (aCons (oV (mVar 4)) aNil)))))) (oV (mC (.int 0)))))
def b_fin : MS := (sSeq (sIf t_last (sRet (mC (.bl false))) sNx) (sIf (tst (mOp2 dNe (oV (mLc [4] (mItems (mVar 3)) (gNm 4) t_self (mVar 4))) (oV (mLst aNil)))) (sRet (mC (.bl false))) sNx))
def b_mid : MS := (sSeq (sSet 7 (mCallI 1 r__law_any_standing (aCons (oV (mVar 2)) aNil))) (sSeq (sAsg (mCall r__law_ring (aCons (oV (mVar 2)) (aCons (oV (mVar 7)) aNil))) (gTp (gCn (gNm 8) (gCn (gNm 9) (gCn (gNm 10) gNo))))) (sSeq (sSet 11 (mSl (oV (mVar 10)) (sAt (mVar 8)) sNo)) (sSeq (sFor (mEn (mVar 3)) g124 b_out) b_fin))))
def b_cell : MS := (sSeq (sSet 2 (mCallI 1 r__law_any_choir aNil)) (sSeq (sSet 3 (mCall r__law_crew (aCons (oV (mVar 2)) aNil))) (sSeq (sIf t_dee b_dee sNx) b_mid)))
theorem m_law_eq : m_law = (sSeq (sForO 1 r__law_rounds (aCons (oV (mVar 0)) (aCons (oV (mC (.int 4))) aNil)) b_cell) (sRet (mC (.bl true)))) := rfl
section
variable (SC DX C K a4 a5 a6 S F L RS RG a12 a13 a14 a15 a16 a17 : D)
theorem c12_step (R V I : D) (h : dIx R I = some V) : stepL [18] (gNm 18) tsNo me12 R [SC, DX, C, K, a4, a5, a6, S, F, L, RS, RG, I, a13, a14, a15, a16, a17, .non] = .ok (some V) [SC, DX, C, K, a4, a5, a6, S, F, L, RS, RG, I, a13, a14, a15, a16, a17, .non] := by
  unfold me12
  simp [stepL, restore, h]
theorem c13_step (R V I : D) (h : dIx R I = some V) : stepL [18] (gNm 18) tsNo me13 R [SC, DX, C, K, a4, a5, a6, S, F, L, RS, RG, a12, I, a14, a15, a16, a17, .non] = .ok (some V) [SC, DX, C, K, a4, a5, a6, S, F, L, RS, RG, a12, I, a14, a15, a16, a17, .non] := by
  unfold me13
  simp [stepL, restore, h]
theorem late_eval (l ll p : Int) (A B : D) (rg ah ca cr due due' : List D) (b : Bool) (h1 : dMod (.int l) (.int ll) = some (.int p)) (h2 : dSl (.lst rg) (some p) none = some A) (h3 : dSl (.lst rg) none (some p) = some B) (h4 : dAdd A B = some (.lst ah)) (c1 : ∀ a17, compL [18] (gNm 18) tsNo me13 ah [SC, DX, C, K, a4, a5, a6, S, F, .int ll, RS, .lst rg, a12, a13, a14, .lst due, .int l, a17, .non] = .ok ca [SC, DX, C, K, a4, a5, a6, S, F, .int ll, RS, .lst rg, a12, a13, a14, .lst due, .int l, a17, .non]) (z1 : szL ca = some (.lst ca)) (c2 : ∀ a17, compL [18] (gNm 18) tsNo me12 rg [SC, DX, C, K, a4, a5, a6, S, F, .int ll, RS, .lst rg, a12, a13, a14, .lst due, .int l, a17, .non] = .ok cr [SC, DX, C, K, a4, a5, a6, S, F, .int ll, RS, .lst rg, a12, a13, a14, .lst due, .int l, a17, .non]) (z2 : szL cr = some (.lst cr)) (q : dEq (.lst ca) (.lst cr) = some (.bl b)) (ap : fApp due (.int l) = some (.non, due ++ [.int l])) (hd : due' = if b then due ++ [.int l] else due) : b_late [SC, DX, C, K, a4, a5, a6, S, F, .int ll, RS, .lst rg, a12, a13, a14, .lst due, .int l, a17, .non] = .nx [SC, DX, C, K, a4, a5, a6, S, F, .int ll, RS, .lst rg, a12, a13, a14, .lst due', .int l, .lst ah, .non] := by
  subst hd
  unfold b_late
  generalize me12 = m1 at *
  generalize me13 = m2 at *
  cases b
  · simp [h1, h2, h3, h4, c1, z1, c2, z2, q, -d_slL]
  · simp [h1, h2, h3, h4, c1, z1, c2, z2, q, ap, lmD, -d_slL]
theorem in_eval (due : List D) (RES V b16 b17 : D) (RG21 : List D) (er : rg1 [.int 21] = some RG21) (lo : forL (gNm 16) b_late RG21 [SC, DX, C, K, a4, a5, a6, S, F, L, RS, RG, a12, a13, a14, .lst [], a16, a17, .non] = .nx [SC, DX, C, K, a4, a5, a6, S, F, L, RS, RG, a12, a13, a14, .lst due, b16, b17, .non]) (h1 : r_echo [C, S, a4, a14] = .ok RES C) (b : Bool) (q1 : dNe (.lst due) (.lst []) = some (.bl b)) (hv : b = true → dIx (.lst due) (.int 0) = some RES) (hn : b = false → RES = .non) (fl : RES.flat = true) (q2 : dNe RES RES = some (.bl false)) : b_in [SC, DX, C, K, a4, a5, a6, S, F, L, RS, RG, a12, a13, a14, a15, a16, a17, .non] = .nx [SC, DX, C, K, a4, a5, a6, S, F, L, RS, RG, a12, a13, a14, .lst due, b16, b17, .non] := by
  unfold b_in
  have ad : ∀ ρ, mRg rg1 (aCons (oV (mC (.int 21))) aNil) ρ = .ok RG21 ρ := fun ρ => by
    generalize (21 : Int) = t at *
    simp [er]
  generalize mRg rg1 (aCons (oV (mC (.int 21))) aNil) = m21 at *
  clear er
  generalize b_late = m1 at *
  cases b
  · have := hn rfl
    subst this
    simp [ad, lo, h1, q1, q2]
  · have := hv rfl
    simp [ad, lo, h1, q1, this, fl, q2]
theorem out_eval (k : List D) (b13 b14 b15 b16 b17 : D) (lo : forL g1314 b_in (enD k) [SC, DX, C, .lst k, a4, a5, a6, S, F, L, RS, RG, a12, a13, a14, a15, a16, a17, .non] = .nx [SC, DX, C, .lst k, a4, a5, a6, S, F, L, RS, RG, a12, b13, b14, b15, b16, b17, .non]) : b_out [SC, DX, C, .lst k, a4, a5, a6, S, F, L, RS, RG, a12, a13, a14, a15, a16, a17, .non] = .nx [SC, DX, C, .lst k, a4, a5, a6, S, F, L, RS, RG, a12, b13, b14, b15, b16, b17, .non] := by
  unfold b_out
  generalize b_in = m1 at *
  generalize hE : enD k = EE at *
  simp [seqOf, hE, lo]
theorem self_step (N RES : D) (h1 : r_echo [C, S, N, N] = .ok RES C) (q : dNe RES (.int 0) = some (.bl false)) : stepL [4] (gNm 4) t_self (mVar 4) N [SC, DX, C, K, a4, a5, a6, S, F, L, RS, RG, a12, a13, a14, a15, a16, a17, .non] = .ok none [SC, DX, C, K, a4, a5, a6, S, F, L, RS, RG, a12, a13, a14, a15, a16, a17, .non] := by
  unfold t_self
  simp [stepL, restore, h1, q]
theorem fin_no (k : List D) (N : D) (h1 : dIx (.lst k) (.int (-1)) = some N) (q : dEq N (.str "dee") = some (.bl false)) (c1 : compL [4] (gNm 4) t_self (mVar 4) k [SC, DX, C, .lst k, a4, a5, a6, S, F, L, RS, RG, a12, a13, a14, a15, a16, a17, .non] = .ok [] [SC, DX, C, .lst k, a4, a5, a6, S, F, L, RS, RG, a12, a13, a14, a15, a16, a17, .non]) : b_fin [SC, DX, C, .lst k, a4, a5, a6, S, F, L, RS, RG, a12, a13, a14, a15, a16, a17, .non] = .nx [SC, DX, C, .lst k, a4, a5, a6, S, F, L, RS, RG, a12, a13, a14, a15, a16, a17, .non] := by
  have hn : dNeg (.int 1) = some (.int (-1)) := rfl
  have q2 : dNe (.lst []) (.lst []) = some (.bl false) := by rw [dNe_g (n := 1) (m := 1) rfl rfl]; simp
  have z : szL [] = some (.lst []) := szL_ok (by decide)
  unfold b_fin t_last
  generalize t_self = m1 at *
  simp [hn, h1, q, c1, z, q2, -d_ixL]
theorem fin_yes (k : List D) (N KK SG EE E0 NN RES : D) (h1 : dIx (.lst k) (.int (-1)) = some N) (q : dEq N (.str "dee") = some (.bl true)) (i1 : dIx C (.int 1) = some KK) (i2 : dIx KK (.int (-1)) = some SG) (i3 : dIx SG (.int 1) = some EE) (i4 : dIx EE (.int 0) = some E0) (i5 : dIx E0 (.int 0) = some NN) (h2 : r_echo [C, S, NN, .str "dee"] = .ok RES C) (q3 : isNonD RES = false) (c1 : compL [4] (gNm 4) t_self (mVar 4) k [SC, DX, C, .lst k, a4, a5, a6, S, F, L, RS, RG, a12, a13, a14, a15, a16, a17, .non] = .ok [] [SC, DX, C, .lst k, a4, a5, a6, S, F, L, RS, RG, a12, a13, a14, a15, a16, a17, .non]) : b_fin [SC, DX, C, .lst k, a4, a5, a6, S, F, L, RS, RG, a12, a13, a14, a15, a16, a17, .non] = .nx [SC, DX, C, .lst k, a4, a5, a6, S, F, L, RS, RG, a12, a13, a14, a15, a16, a17, .non] := by
  have hn : dNeg (.int 1) = some (.int (-1)) := rfl
  have q2 : dNe (.lst []) (.lst []) = some (.bl false) := by rw [dNe_g (n := 1) (m := 1) rfl rfl]; simp
  have z : szL [] = some (.lst []) := szL_ok (by decide)
  unfold b_fin t_last
  generalize t_self = m1 at *
  simp [hn, h1, q, i1, i2, i3, i4, i5, h2, q3, c1, z, q2, -d_ixL]
theorem mid_eval (k rg : List D) (DX2 b4 b12 b13 b14 b15 b16 b17 a7 a8 a9 a10 a11 : D) (f ll : Int) (e2 : r__law_any_standing [DX, C] = .ok S DX2) (e3 : r__law_ring [C, S] = .ok (.tup [.int f, .int ll, RS]) C) (h1 : dSl RS (some f) none = some (.lst rg)) (lo : forL g124 b_out (enD k) [SC, DX2, C, .lst k, a4, a5, a6, S, .int f, .int ll, RS, .lst rg, a12, a13, a14, a15, a16, a17, .non] = .nx [SC, DX2, C, .lst k, b4, a5, a6, S, .int f, .int ll, RS, .lst rg, b12, b13, b14, b15, b16, b17, .non]) (fi : b_fin [SC, DX2, C, .lst k, b4, a5, a6, S, .int f, .int ll, RS, .lst rg, b12, b13, b14, b15, b16, b17, .non] = .nx [SC, DX2, C, .lst k, b4, a5, a6, S, .int f, .int ll, RS, .lst rg, b12, b13, b14, b15, b16, b17, .non]) : b_mid [SC, DX, C, .lst k, a4, a5, a6, a7, a8, a9, a10, a11, a12, a13, a14, a15, a16, a17, .non] = .nx [SC, DX2, C, .lst k, b4, a5, a6, S, .int f, .int ll, RS, .lst rg, b12, b13, b14, b15, b16, b17, .non] := by
  unfold b_mid
  generalize b_out = m1 at *
  generalize b_fin = m2 at *
  generalize hE : enD k = EE at *
  simp [e2, e3, h1, seqOf, hE, lo, fi]
theorem dee_eval (DX2 DX3 NM KK KK2 C2 TB : D) (k : List D) (l j j3 m : Int) (rr : List D) (h0 : dLen (.lst k) = some (.int l)) (e1 : r__law_roll [DX, .int l] = .ok (.int j) DX2) (e2 : dIx (.lst k) (.int j) = some NM) (e3 : r__law_roll [DX2, .int 3] = .ok (.int j3) DX3) (i0 : dIx C (.int 0) = some (.int m)) (lr : lrD (.int m) = some (.lst rr)) (i1 : dIx C (.int 1) = some KK) (h4 : dAdd KK (.tup [.tup [.str "dee", .tup [.tup [NM, .int (1 + j3)]], .tup rr]]) = some KK2) (h5 : dAdd (.lst k) (.lst [.str "dee"]) = some (.lst (k ++ [.str "dee"]))) (a7 a8 a9 a10 a11 : D) : b_dee [SC, DX, C, .lst k, a4, a5, a6, a7, a8, a9, a10, a11, a12, a13, a14, a15, a16, a17, .non] = .nx [SC, DX3, .tup [.int m, KK2], .lst (k ++ [.str "dee"]), NM, .int (1 + j3), .tup [.str "dee", .tup [.tup [NM, .int (1 + j3)]], .tup rr], a7, a8, a9, a10, a11, a12, a13, a14, a15, a16, a17, .non] := by
  have A1 : (sPar [4, 5] (pCons (mOp2 dIx (oV (mVar 3)) (oV (mCallI 1 r__law_roll (aCons (oV (mOpL (one1 dLen) (aCons (oV (mVar 3)) aNil))) aNil)))) (pCons (mOp2 dAdd (oV (mC (.int 1))) (oV (mCallI 1 r__law_roll (aCons (oV (mC (.int 3))) aNil)))) pNil))) [SC, DX, C, .lst k, a4, a5, a6, a7, a8, a9, a10, a11, a12, a13, a14, a15, a16, a17, .non] = .nx [SC, DX3, C, .lst k, NM, .int (1 + j3), a6, a7, a8, a9, a10, a11, a12, a13, a14, a15, a16, a17, .non] := by
    simp [h0, e1, e2, e3, -d_lenL, -d_ixL]
  have lr' : ∀ (m' : M D) (ρ : List D), m' ρ = .ok (.int m) ρ → mLrg m' ρ = .ok (.lst rr) ρ := fun m' ρ hm => by
    show (m' ρ).bind (fun d => M.opt (lrD d)) = _
    rw [hm]
    show M.opt (lrD (.int m)) ρ = _
    rw [lr]
    rfl
  have lr2 := lr' (mOp2 dIx (oV (mVar 2)) (oV (mC (.int 0)))) [SC, DX3, C, .lst k, NM, .int (1 + j3), a6, a7, a8, a9, a10, a11, a12, a13, a14, a15, a16, a17, .non] (by simp [i0])
  have A2 : (sSet 6 (mTup (aCons (oV (mC (.str "dee"))) (aCons (oV (mTup (aCons (oV (mTup (aCons (oV (mVar 4)) (aCons (oV (mVar 5)) aNil)))) aNil))) (aCons (oV (mOpL (one1 dTuple) (aCons (oV (mLrg (mOp2 dIx (oV (mVar 2)) (oV (mC (.int 0)))))) aNil))) aNil))))) [SC, DX3, C, .lst k, NM, .int (1 + j3), a6, a7, a8, a9, a10, a11, a12, a13, a14, a15, a16, a17, .non] = .nx [SC, DX3, C, .lst k, NM, .int (1 + j3), .tup [.str "dee", .tup [.tup [NM, .int (1 + j3)]], .tup rr], a7, a8, a9, a10, a11, a12, a13, a14, a15, a16, a17, .non] := by
    generalize mLrg (mOp2 dIx (oV (mVar 2)) (oV (mC (.int 0)))) = mlr at *
    generalize ("dee" : Str) = dee at *
    simp [lr2]
  unfold b_dee
  rw [v_seq, A1, then_nx, v_seq, A2, then_nx]
  generalize ("dee" : Str) = dee at *
  simp [i0, i1, h4, h5]
end
end Hs

namespace Hs
open PySem PySem.Spec L2

theorem g1314_at (SC DX C K a4 a5 a6 S F L RS RG a12 a13 a14 a15 a16 a17 I N : D) : g1314 (.tup [I, N]) [SC, DX, C, K, a4, a5, a6, S, F, L, RS, RG, a12, a13, a14, a15, a16, a17, .non] = some [SC, DX, C, K, a4, a5, a6, S, F, L, RS, RG, a12, I, N, a15, a16, a17, .non] := by
  unfold g1314
  simp
theorem g124_at (SC DX C K a4 a5 a6 S F L RS RG a12 a13 a14 a15 a16 a17 I N : D) : g124 (.tup [I, N]) [SC, DX, C, K, a4, a5, a6, S, F, L, RS, RG, a12, a13, a14, a15, a16, a17, .non] = some [SC, DX, C, K, N, a5, a6, S, F, L, RS, RG, I, a13, a14, a15, a16, a17, .non] := by
  unfold g124
  simp
theorem crew_en (c : Ch) : enD (c.nms.map D.str) = c.crew.zipIdx.map fun p => .tup [.int (p.2 : Nat), .str p.1.nm] := by
  unfold Ch.nms
  rw [List.map_map, en_map]
  rfl
theorem crew_mem {c : Ch} {x : D} (hx : x ∈ c.crew.zipIdx.map fun p => D.tup [.int (p.2 : Nat), .str p.1.nm]) : ∃ (i : Nat) (hi : i < c.crew.length), x = .tup [.int (i : Nat), .str c.crew[i].nm] := by
  obtain ⟨p, hp, rfl⟩ := List.mem_map.mp hx
  obtain ⟨s, i⟩ := p
  have hi : i < c.crew.length := by have := List.snd_lt_of_mem_zipIdx hp; simpa using this
  have hs : s = c.crew[i] := by have := List.fst_eq_of_mem_zipIdx hp; simpa using this
  exact ⟨i, hi, by rw [hs]⟩
theorem win_get (x : Nat → Int) (s m : Nat) {k : Nat} (hk : k < m) : (win x s m)[k]? = some (x (s + k)) := by simp [win, hk]
theorem win_none (x : Nat → Int) (s m : Nat) {k : Nat} (hk : ¬ k < m) : (win x s m)[k]? = none := List.getElem?_eq_none (by rw [win_len]; omega)
theorem rot_at (y : Nat → Int) (f : Nat) {L s a : Nat} (hs : s < L) (ha : a < L) : ((win y f L).drop s ++ (win y f L).take s)[a]? = some (y (f + (a + s) % L)) := by
  by_cases h : a < L - s
  · rw [List.getElem?_append_left (by rw [List.length_drop, win_len]; exact h), List.getElem?_drop, win_get _ _ _ (by omega), Nat.mod_eq_of_lt (by omega), Nat.add_comm s a]
  · have hl : ((win y f L).drop s).length = L - s := by rw [List.length_drop, win_len]
    rw [List.getElem?_append_right (by omega), hl, List.getElem?_take_of_lt (by omega), win_get _ _ _ (by omega)]
    rw [show a + s = (a - (L - s)) + L by omega, Nat.add_mod_right, Nat.mod_eq_of_lt (by omega)]
/-- a column turned -/
theorem rot_eq {x y : Nat → Int} {f L : Nat} (hL : 0 < L) (l : Nat) : (win y f L).drop (l % L) ++ (win y f L).take (l % L) = win x f L ↔ ∀ a ∈ List.range L, y (f + (a + l) % L) = x (f + a) := by
  have hm : l % L < L := Nat.mod_lt _ hL
  have em : ∀ a, a < L → (a + l) % L = (a + l % L) % L := fun a ha => by rw [Nat.add_mod, Nat.mod_eq_of_lt ha]
  constructor
  · intro h a ha
    rw [List.mem_range] at ha
    have e : ((win y f L).drop (l % L) ++ (win y f L).take (l % L))[a]? = (win x f L)[a]? := by rw [h]
    rw [rot_at y f hm ha, win_get _ _ _ ha] at e
    rw [em a ha]
    exact Option.some.inj e
  · intro h
    refine List.ext_getElem? fun a => ?_
    by_cases ha : a < L
    · rw [rot_at y f hm ha, win_get _ _ _ ha, ← em a ha, h a (List.mem_range.mpr ha)]
    · rw [win_none _ _ _ ha]
      exact List.getElem?_eq_none (by rw [List.length_append, List.length_drop, List.length_take, win_len]; omega)
theorem rot_P {c : Ch} {st : List (List Int)} {f L i j : Nat} (hL : 0 < L) (l : Nat) : decide ((win (lineOf c st j) f L).drop (l % L) ++ (win (lineOf c st j) f L).take (l % L) = win (lineOf c st i) f L) = echoP c st f L i j l := by
  unfold echoP
  rw [Bool.eq_iff_iff, decide_eq_true_eq, rot_eq hL]
  simp
theorem echo_self {c : Ch} {st : List (List Int)} {f L i : Nat} : echoN c st f L i i = some 0 := by
  have h : echoP c st f L i i 0 = true := by
    unfold echoP
    rw [List.all_eq_true]
    intro a ha
    rw [List.mem_range] at ha
    rw [Nat.add_zero, Nat.mod_eq_of_lt ha]
    simp
  unfold echoN
  rw [show (21 : Nat) = 20 + 1 from rfl, List.range_succ_eq_map, List.find?_cons, h]
theorem late_loop {c : Ch} {st : List (List Int)} (hc : OkC c) (hs : OkS c st) {n f : Nat} (r : Ring c st n f) (hn : n < 20000) {i j : Nat} (hi : i < c.crew.length) (hj : j < c.crew.length) (SC DX K a4 a5 a6 F RS a14 : D) : ∀ (ls done : List Nat) (a16 a17 : D), done.length + ls.length ≤ 100 → ∃ b16 b17, forL (gNm 16) b_late (ls.map fun l => .int ((l : Nat) : Int)) [SC, DX, eCh c, K, a4, a5, a6, eSt st, F, .int ((n - f : Nat) : Int), RS, .lst (((rowsL c st n).drop f).map eLn), .int (i : Nat), .int (j : Nat), a14, .lst (done.map fun l => .int ((l : Nat) : Int)), a16, a17, .non] = .nx [SC, DX, eCh c, K, a4, a5, a6, eSt st, F, .int ((n - f : Nat) : Int), RS, .lst (((rowsL c st n).drop f).map eLn), .int (i : Nat), .int (j : Nat), a14, .lst ((done ++ ls.filter (echoP c st f (n - f) i j)).map fun l => .int ((l : Nat) : Int)), b16, b17, .non]
  | [], done, a16, a17, _ => ⟨a16, a17, by simp⟩
  | l :: ls, done, a16, a17, hl => by
    rw [List.length_cons] at hl
    have hlt := r.lt
    have hL : 0 < n - f := by omega
    have hm : l % (n - f) < n - f := Nat.mod_lt _ hL
    obtain ⟨b16, b17, e⟩ := late_loop hc hs r hn hi hj SC DX K a4 a5 a6 F RS a14 ls (if echoP c st f (n - f) i j l then done ++ [l] else done) (.int (l : Nat)) (.lst ((((rowsL c st n).drop f).drop (l % (n - f)) ++ ((rowsL c st n).drop f).take (l % (n - f))).map eLn)) (by split <;> (try simp) <;> omega)
    refine ⟨b16, b17, ?_⟩
    rw [List.map_cons]
    have hmem : ∀ q ∈ ((rowsL c st n).drop f).drop (l % (n - f)) ++ ((rowsL c st n).drop f).take (l % (n - f)), q ∈ rowsL c st n := fun q hq => by
      rcases List.mem_append.mp hq with hq | hq
      · exact List.mem_of_mem_drop (List.mem_of_mem_drop hq)
      · exact List.mem_of_mem_drop (List.mem_of_mem_take hq)
    have col : ∀ k, ((((rowsL c st n).drop f).drop (l % (n - f)) ++ ((rowsL c st n).drop f).take (l % (n - f))).map fun q => D.int (q.getD k 0)) = ((win (lineOf c st k) f (n - f)).drop (l % (n - f)) ++ (win (lineOf c st k) f (n - f)).take (l % (n - f))).map .int := fun k => by
      rw [← drop_win k (by omega), ← List.map_drop, ← List.map_take, ← List.map_append, List.map_map]
      rfl
    have col2 : ∀ k, (((rowsL c st n).drop f).map fun q => D.int (q.getD k 0)) = (win (lineOf c st k) f (n - f)).map .int := fun k => by
      rw [← drop_win k (by omega), List.map_map]
      rfl
    refine for_stepG (late_eval _ _ _ _ _ _ _ _ _ _ _ _ _ _ (l : Nat) _ ((l % (n - f) : Nat) : Int) (.lst ((((rowsL c st n).drop f).drop (l % (n - f))).map eLn)) (.lst ((((rowsL c st n).drop f).take (l % (n - f))).map eLn)) _ ((((rowsL c st n).drop f).drop (l % (n - f)) ++ ((rowsL c st n).drop f).take (l % (n - f))).map eLn) (((win (lineOf c st j) f (n - f)).drop (l % (n - f)) ++ (win (lineOf c st j) f (n - f)).take (l % (n - f))).map .int) ((win (lineOf c st i) f (n - f)).map .int) _ _ (echoP c st f (n - f) i j l) ?_ ?_ ?_ ?_ ?_ (szL_ok ?_) ?_ (szL_ok ?_) ?_ ?_ rfl) ?_
    · rw [d_modI (by omega), Int.natCast_emod]
    · rw [d_slL, cut_from]
      simp only [List.map_drop]
    · rw [d_slL, cut_to]
      simp only [List.map_take, List.map_drop]
    · rw [d_addL (by simp [rows_len]; unfold SZ; omega), List.map_append]
    · intro a17
      rw [← col j]
      exact comp_map (enc := eLn) (f := fun q => .int (q.getD j 0)) _ fun q hq => c13_step _ _ _ _ _ _ _ _ _ _ _ _ _ _ _ _ _ _ _ _ (row_ix6 hc hs hj (hmem q hq))
    · simp [win_len]; omega
    · intro a17
      rw [← col2 i]
      exact comp_map (enc := eLn) (f := fun q => .int (q.getD i 0)) _ fun q hq => c12_step _ _ _ _ _ _ _ _ _ _ _ _ _ _ _ _ _ _ _ _ (row_ix6 hc hs hi (List.mem_of_mem_drop hq))
    · simp [win_len]; omega
    · rw [eq_ints, rot_P hL]
    · exact d_app (by rw [List.length_map]; unfold SZ; omega)
    · have e4 : (if echoP c st f (n - f) i j l = true then (done.map fun l => D.int ((l : Nat) : Int)) ++ [.int (l : Nat)] else done.map fun l => D.int ((l : Nat) : Int)) = (if echoP c st f (n - f) i j l = true then done ++ [l] else done).map fun l => D.int ((l : Nat) : Int) := by
        split <;> simp
      rw [e4, e]
      congr 4
      rw [List.filter_cons]
      split <;> simp
theorem optN_g (o : Option Nat) : (optN o).g 0 = true := by cases o <;> rfl
theorem in_turn {c : Ch} {st : List (List Int)} (hc : OkC c) (hs : OkS c st) (hf : Fit c) {n f : Nat} (r : Ring c st n f) (hn : n < 20000) {i j : Nat} (hi : i < c.crew.length) (hj : j < c.crew.length) (SC DX K a5 a6 F RS a15 a16 a17 : D) : ∃ b15 b16 b17, b_in [SC, DX, eCh c, K, .str c.crew[i].nm, a5, a6, eSt st, F, .int ((n - f : Nat) : Int), RS, .lst (((rowsL c st n).drop f).map eLn), .int (i : Nat), .int (j : Nat), .str c.crew[j].nm, a15, a16, a17, .non] = .nx [SC, DX, eCh c, K, .str c.crew[i].nm, a5, a6, eSt st, F, .int ((n - f : Nat) : Int), RS, .lst (((rowsL c st n).drop f).map eLn), .int (i : Nat), .int (j : Nat), .str c.crew[j].nm, b15, b16, b17, .non] := by
  obtain ⟨b16, b17, lo⟩ := late_loop hc hs r hn hi hj SC DX K (.str c.crew[i].nm) a5 a6 F RS (.str c.crew[j].nm) (List.range 21) [] a16 a17 (by simp)
  rw [List.nil_append] at lo
  have ee := r_echo_ok hc hs hf r hi hj
  have er : rg1 [.int 21] = some ((List.range 21).map fun l : Nat => .int (l : Int)) := by
    rw [rg1_ok (by omega) (by omega), rgD_line, lineL, List.map_map]
    rfl
  have hh : echoN c st f (n - f) i j = ((List.range 21).filter (echoP c st f (n - f) i j)).head? := by
    unfold echoN
    rw [List.head?_filter]
  have q1 : dNe (.lst (((List.range 21).filter (echoP c st f (n - f) i j)).map fun l => D.int ((l : Nat) : Int))) (.lst []) = some (.bl (!decide ((List.range 21).filter (echoP c st f (n - f) i j) = []))) := by
    have g : (D.lst (((List.range 21).filter (echoP c st f (n - f) i j)).map fun l => D.int ((l : Nat) : Int))).g 1 = true := all_g fun _ _ => rfl
    rw [dNe_g (m := 1) g rfl]
    congr 3
    exact decide_eq_decide.mpr ⟨fun e => List.map_eq_nil_iff.mp (D.lst.inj e), fun e => by rw [e]; rfl⟩
  have q2 : dNe (optN (echoN c st f (n - f) i j)) (optN (echoN c st f (n - f) i j)) = some (.bl false) := by rw [dNe_g (optN_g _) (optN_g _)]; simp
  have fl : (optN (echoN c st f (n - f) i j)).flat = true := by cases echoN c st f (n - f) i j <;> rfl
  refine ⟨_, b16, b17, in_eval (V := .non) (er := er) (lo := lo) (h1 := ee) (q1 := q1) (hv := fun hb => ?_) (hn := fun hb => ?_) (fl := fl) (q2 := q2) ..⟩
  · rw [hh]
    generalize (List.range 21).filter (echoP c st f (n - f) i j) = fs at *
    cases fs with
    | nil => simp at hb
    | cons x xs =>
      show dIx (.lst (D.int (x : Nat) :: xs.map fun l => D.int ((l : Nat) : Int))) (.int ((0 : Nat) : Int)) = _
      rw [d_ixL, atI_nat]
      rfl
  · rw [hh]
    have : (List.range 21).filter (echoP c st f (n - f) i j) = [] := by simpa using hb
    rw [this]; rfl
theorem out_turn {c : Ch} {st : List (List Int)} (hc : OkC c) (hs : OkS c st) (hf : Fit c) {n f : Nat} (r : Ring c st n f) (hn : n < 20000) {i : Nat} (hi : i < c.crew.length) (SC DX a5 a6 F RS a13 a14 a15 a16 a17 : D) : ∃ b13 b14 b15 b16 b17, b_out [SC, DX, eCh c, .lst (c.nms.map .str), .str c.crew[i].nm, a5, a6, eSt st, F, .int ((n - f : Nat) : Int), RS, .lst (((rowsL c st n).drop f).map eLn), .int (i : Nat), a13, a14, a15, a16, a17, .non] = .nx [SC, DX, eCh c, .lst (c.nms.map .str), .str c.crew[i].nm, a5, a6, eSt st, F, .int ((n - f : Nat) : Int), RS, .lst (((rowsL c st n).drop f).map eLn), .int (i : Nat), b13, b14, b15, b16, b17, .non] := by
  obtain ⟨ρ', lo, b13, b14, b15, b16, b17, rfl⟩ := for_shape (mg := g1314) (b := b_in) (fun ρ => ∃ b13 b14 b15 b16 b17, ρ = [SC, DX, eCh c, .lst (c.nms.map .str), .str c.crew[i].nm, a5, a6, eSt st, F, .int ((n - f : Nat) : Int), RS, .lst (((rowsL c st n).drop f).map eLn), .int (i : Nat), b13, b14, b15, b16, b17, .non]) (enD (c.nms.map .str)) [SC, DX, eCh c, .lst (c.nms.map .str), .str c.crew[i].nm, a5, a6, eSt st, F, .int ((n - f : Nat) : Int), RS, .lst (((rowsL c st n).drop f).map eLn), .int (i : Nat), a13, a14, a15, a16, a17, .non] (fun x hx ρ ⟨b13, b14, b15, b16, b17, hρ⟩ => by
    subst hρ
    rw [crew_en] at hx
    obtain ⟨j, hj, rfl⟩ := crew_mem hx
    obtain ⟨c15, c16, c17, e⟩ := in_turn hc hs hf r hn hi hj SC DX (.lst (c.nms.map .str)) a5 a6 F RS b15 b16 b17
    exact ⟨_, _, g1314_at .., e, _, _, _, _, _, rfl⟩) ⟨_, _, _, _, _, rfl⟩
  exact ⟨b13, b14, b15, b16, b17, out_eval _ _ _ _ _ _ _ _ _ _ _ _ _ _ _ _ _ _ _ _ _ _ _ lo⟩
end Hs

namespace Hs
open PySem PySem.Spec L2

def parrot (m : Int) (nm : Str) (ago : Int) : Sg := ⟨"dee", [(nm, ago)], lineL m⟩
def withDee (c : Ch) (nm : Str) (ago : Int) : Ch := ⟨c.many, c.crew ++ [parrot c.many nm ago]⟩
theorem dee_word : isWord ("dee" : Str) = true := by decide +kernel
theorem dee_nms (c : Ch) (nm : Str) (ago : Int) : (withDee c nm ago).nms = c.nms ++ [("dee" : Str)] := by
  unfold Ch.nms withDee
  rw [List.map_append]; rfl
theorem dee_ok {c : Ch} (hc : OkC c) (hn : c.nms = (["ann", "bob", "cy"] : List Str).take c.crew.length) (h3 : c.crew.length ≤ 3) {nm : Str} (hm : nm ∈ c.nms) {ago : Int} (h1 : 1 ≤ ago) (h2 : ago ≤ 3) : OkC (withDee c nm ago) := by
  have hc1 := hc.c1
  have hm2 := hc.m2
  refine ⟨hc.m2, hc.m4, by simp [withDee], by simp [withDee]; omega, fun s hs => ?_, ?_, fun s hs p hp => ?_⟩
  · rcases List.mem_append.mp hs with hs | hs
    · exact hc.sg s hs
    · rw [List.mem_singleton] at hs
      subst hs
      show okSg c.many (parrot c.many nm ago) = true
      unfold okSg okEars parrot
      simp only [Bool.and_eq_true, List.all_eq_true, decide_eq_true_eq]
      refine ⟨⟨dee_word, by simp, fun p hp => ?_, rfl⟩, ?_, fun i hi => ?_⟩
      · rw [List.mem_singleton] at hp
        subst hp
        unfold isEar
        simp [hc.word hm, h1, h2]
      · simp [places, line_len]
        omega
      · have := lineL_mem.mp hi
        unfold inR
        simp
        omega
  · rw [dee_nms, hn]
    obtain h | h | h : c.crew.length = 1 ∨ c.crew.length = 2 ∨ c.crew.length = 3 := by omega
    all_goals rw [h]; decide +kernel
  · rw [dee_nms]
    rcases List.mem_append.mp hs with hs | hs
    · exact List.mem_append_left _ (hc.mem s hs p hp)
    · rw [List.mem_singleton] at hs
      subst hs
      have : p = (nm, ago) := by simpa [parrot] using hp
      subst this
      exact List.mem_append_left _ hm
theorem dee_fit {c : Ch} (h : Few c) (nm : Str) (ago : Int) : Fit (withDee c nm ago) := by
  have hl : (withDee c nm ago).crew.length = c.crew.length + 1 := by simp [withDee]
  have hm : (withDee c nm ago).many = c.many := rfl
  unfold Fit
  rw [hl, hm]
  obtain ⟨h1, h2⟩ | ⟨h1, h2⟩ | ⟨h1, h2⟩ := h
  · rw [h1]
    exact Nat.lt_of_le_of_lt (Nat.pow_le_pow_right (by decide) (show 3 * (c.crew.length + 1) ≤ 12 by omega)) (by decide)
  · rw [h1]
    exact Nat.lt_of_le_of_lt (Nat.pow_le_pow_right (by decide) (show 3 * (c.crew.length + 1) ≤ 9 by omega)) (by decide)
  · rw [h1]
    exact Nat.lt_of_le_of_lt (Nat.pow_le_pow_right (by decide) (show 3 * (c.crew.length + 1) ≤ 6 by omega)) (by decide)
/-- what is heard of a singer some beats ago is what it sang then -/
theorem heard_then {c : Ch} {st : List (List Int)} (hc : OkC c) (hs : OkS c st) {i : Nat} (hi : i < c.crew.length) (k a : Nat) (h1 : 1 ≤ a) (h3 : a ≤ 3) : ((way c st (k + a)).getD i []).getD (3 - a) 0 = lineOf c st i k := by
  have hw := way_ok hc hs k
  have hl : i < (way c st k).length := by rw [hw.len]; exact hi
  have row1 : ∀ s, OkS c s → ((onward c s).getD i []) = (s.getD i []).tail ++ [(next c s).getD i 0] := fun s ho => by
    have h1 : i < s.length := by rw [ho.len]; exact hi
    have h2 : i < (next c s).length := by rw [next_len]; exact hi
    unfold onward behind
    rw [getD_at (by rw [List.length_map, List.length_zip]; omega), List.getElem_map, List.getElem_zip, getD_at h1, getD_at h2]
  have len3 : ∀ s, OkS c s → ((s.getD i [])).length = 3 := fun s ho => by
    have h1 : i < s.length := by rw [ho.len]; exact hi
    rw [getD_at h1]
    exact (ho.row _ (List.getElem_mem h1)).1
  have e1 : (way c st (k + 1)).getD i [] = ((way c st k).getD i []).tail ++ [lineOf c st i k] := row1 _ hw
  have e2 : (way c st (k + 2)).getD i [] = ((way c st (k + 1)).getD i []).tail ++ [lineOf c st i (k + 1)] := row1 _ (way_ok hc hs (k + 1))
  have e3 : (way c st (k + 3)).getD i [] = ((way c st (k + 2)).getD i []).tail ++ [lineOf c st i (k + 2)] := row1 _ (way_ok hc hs (k + 2))
  have hl3 := len3 _ hw
  obtain ⟨x, y, z, e0⟩ : ∃ x y z, (way c st k).getD i [] = [x, y, z] := by
    match (way c st k).getD i [], hl3 with
    | [x, y, z], _ => exact ⟨x, y, z, rfl⟩
  rw [e0] at e1
  rw [e1] at e2
  rw [e2] at e3
  obtain rfl | rfl | rfl : a = 1 ∨ a = 2 ∨ a = 3 := by omega
  · rw [e1]; rfl
  · rw [e2]; rfl
  · rw [e3]; rfl
theorem parrot_line {c : Ch} {st : List (List Int)} {nm : Str} {ago : Int} (hm : nm ∈ c.nms) {st' : List (List Int)} : tline (withDee c nm ago) st' (parrot c.many nm ago) = (lineL c.many).getD (((st'.getD ((withDee c nm ago).ix nm) []).getD (3 - ago).toNat 0)).toNat 0 := by
  unfold tline heardBy parrot
  simp [place]
theorem line_getD {m x : Int} (h0 : 0 ≤ x) (h1 : x < m) : (lineL m).getD x.toNat 0 = x := by
  unfold lineL
  have h : x.toNat < m.toNat := by omega
  simp [List.getD_eq_getElem?_getD, h]
  omega
/-- the parrot is an echo -/
theorem parrot_echo {c : Ch} {nm : Str} {ago : Int} {st : List (List Int)} (hc : OkC (withDee c nm ago)) (hs : OkS (withDee c nm ago) st) {i : Nat} (hi : i < c.crew.length) (hix : (withDee c nm ago).ix nm = i) (hm : nm ∈ c.nms) (h1 : 1 ≤ ago) (h3 : ago ≤ 3) {n f : Nat} (r : Ring (withDee c nm ago) st n f) : isNonD (optN (echoN (withDee c nm ago) st f (n - f) i c.crew.length)) = false := by
  have hlt := r.lt
  obtain ⟨a, ha⟩ : ∃ a : Nat, ago = (a : Nat) := ⟨ago.toNat, by omega⟩
  have hlen : (withDee c nm ago).crew.length = c.crew.length + 1 := by simp [withDee]
  have hi' : i < (withDee c nm ago).crew.length := by omega
  have hlast : (withDee c nm ago).crew[c.crew.length]'(by omega) = parrot c.many nm ago := by simp [withDee]
  have key : echoP (withDee c nm ago) st f (n - f) i c.crew.length a = true := by
    unfold echoP
    rw [List.all_eq_true]
    intro b hb
    rw [List.mem_range] at hb
    rw [decide_eq_true_eq]
    have hmod := r.mod (f + (b + a)) (by omega)
    rw [show f + (b + a) - f = b + a by omega] at hmod
    have e1 : lineOf (withDee c nm ago) st c.crew.length (f + (b + a) % (n - f)) = lineOf (withDee c nm ago) st c.crew.length (f + b + a) := by
      unfold lineOf
      rw [← hmod, Nat.add_assoc]
    rw [e1]
    have e2 : lineOf (withDee c nm ago) st c.crew.length (f + b + a) = tline (withDee c nm ago) (way (withDee c nm ago) st (f + b + a)) (parrot c.many nm ago) := by
      unfold lineOf next
      rw [getD_at (by rw [List.length_map]; omega), List.getElem_map, hlast]
    rw [e2, parrot_line (st := st) hm, hix, show (3 - ago).toNat = 3 - a by omega, heard_then hc hs hi' (f + b) a (by omega) (by omega)]
    have := lineOf_bd hc hs hi' (f + b)
    exact line_getD this.1 this.2
  unfold echoN
  cases e : (List.range 21).find? (echoP (withDee c nm ago) st f (n - f) i c.crew.length) with
  | none =>
    rw [List.find?_eq_none] at e
    exact absurd key (e a (List.mem_range.mpr (by omega)))
  | some x => rfl
end Hs

namespace Hs
open PySem PySem.Spec L2

theorem cell_yes (SC DX C K a2 a3 a4 a5 a6 a7 a8 a9 a10 a11 a12 a13 a14 a15 a16 a17 DX1 DX2 : D) (ρ2 ρ3 : List D) (e1 : r__law_any_choir [DX] = .ok C DX1) (e4 : r__law_crew [C] = .ok K C) (e5 : r__law_roll [DX1, .int 2] = .ok (.int 0) DX2) (hd : b_dee [SC, DX2, C, K, a4, a5, a6, a7, a8, a9, a10, a11, a12, a13, a14, a15, a16, a17, .non] = .nx ρ2) (hm : b_mid ρ2 = .nx ρ3) : b_cell [SC, DX, a2, a3, a4, a5, a6, a7, a8, a9, a10, a11, a12, a13, a14, a15, a16, a17, .non] = .nx ρ3 := by
  have q : dEq (.int 0) (.int 0) = some (.bl true) := by rw [eq_int]; rfl
  unfold b_cell t_dee
  generalize b_dee = m1 at *
  generalize b_mid = m2 at *
  simp [e1, e4, e5, q, hd, hm]
theorem cell_no (SC DX C K a2 a3 a4 a5 a6 a7 a8 a9 a10 a11 a12 a13 a14 a15 a16 a17 DX1 DX2 : D) (j : Int) (ρ3 : List D) (e1 : r__law_any_choir [DX] = .ok C DX1) (e4 : r__law_crew [C] = .ok K C) (e5 : r__law_roll [DX1, .int 2] = .ok (.int j) DX2) (q : dEq (.int j) (.int 0) = some (.bl false)) (hm : b_mid [SC, DX2, C, K, a4, a5, a6, a7, a8, a9, a10, a11, a12, a13, a14, a15, a16, a17, .non] = .nx ρ3) : b_cell [SC, DX, a2, a3, a4, a5, a6, a7, a8, a9, a10, a11, a12, a13, a14, a15, a16, a17, .non] = .nx ρ3 := by
  unfold b_cell t_dee
  generalize b_dee = m1 at *
  generalize b_mid = m2 at *
  simp [e1, e4, e5, q, hm]
theorem q_int (i : Int) : dNe (.int i) (.int i) = some (.bl false) := by rw [ne_int]; simp
theorem self_none {c : Ch} {st : List (List Int)} (hc : OkC c) (hs : OkS c st) (hf : Fit c) {n f : Nat} (r : Ring c st n f) (SC DX K a4 a5 a6 F L RS RG a12 a13 a14 a15 a16 a17 : D) : compL [4] (gNm 4) t_self (mVar 4) (c.nms.map .str) [SC, DX, eCh c, K, a4, a5, a6, eSt st, F, L, RS, RG, a12, a13, a14, a15, a16, a17, .non] = .ok [] [SC, DX, eCh c, K, a4, a5, a6, eSt st, F, L, RS, RG, a12, a13, a14, a15, a16, a17, .non] := by
  have key := comp_same (vs := [4]) (mg := gNm 4) (mt := t_self) (me := mVar 4) (ρ := [SC, DX, eCh c, K, a4, a5, a6, eSt st, F, L, RS, RG, a12, a13, a14, a15, a16, a17, .non]) (enc := fun s : Sg => D.str s.nm) (f := fun _ => none) c.crew (fun s hs' => by
    obtain ⟨i, hi, rfl⟩ := List.mem_iff_getElem.mp hs'
    have e := r_echo_ok hc hs hf r hi hi
    rw [echo_self] at e
    exact self_step (h1 := e) (q := q_int _) ..)
  have e2 : c.crew.filterMap (fun _ => (none : Option D)) = [] := by simp
  rw [e2] at key
  have e3 : (c.crew.map fun s : Sg => D.str s.nm) = c.nms.map .str := by unfold Ch.nms; rw [List.map_map]; rfl
  rw [e3] at key
  exact key
/-- the last part of a cell goes on -/
def FinOk (c : Ch) : Prop := ∀ st n f, OkS c st → Ring c st n f → ∀ SC DX a4 a5 a6 F L RS RG a12 a13 a14 a15 a16 a17 : D, b_fin [SC, DX, eCh c, .lst (c.nms.map .str), a4, a5, a6, eSt st, F, L, RS, RG, a12, a13, a14, a15, a16, a17, .non] = .nx [SC, DX, eCh c, .lst (c.nms.map .str), a4, a5, a6, eSt st, F, L, RS, RG, a12, a13, a14, a15, a16, a17, .non]
theorem mid_turn {c : Ch} (hc : OkC c) (hf : Fit c) (hfin : FinOk c) (x y : Int) (SC a4 a5 a6 a7 a8 a9 a10 a11 a12 a13 a14 a15 a16 a17 : D) : ∃ b1 b2 b3 b4 b5 b6 b7 b8 b9 b10 b11 b12 b13 b14 b15 b16 b17, b_mid [SC, dice x y, eCh c, .lst (c.nms.map .str), a4, a5, a6, a7, a8, a9, a10, a11, a12, a13, a14, a15, a16, a17, .non] = .nx [SC, b1, b2, b3, b4, b5, b6, b7, b8, b9, b10, b11, b12, b13, b14, b15, b16, b17, .non] := by
  obtain ⟨x2, y2, st, e2, hs⟩ := any_standing_ok hc x y
  obtain ⟨n, f, r, hn, e3⟩ := r__law_ring_ok hc hs hf
  have h1 : dSl (.lst ((rowsL c st n).map eLn)) (some (f : Nat)) none = some (.lst (((rowsL c st n).drop f).map eLn)) := by rw [d_slL, cut_from, List.map_drop]
  obtain ⟨ρ1, lo, b4, b12, b13, b14, b15, b16, b17, rfl⟩ := for_shape (mg := g124) (b := b_out) (fun ρ => ∃ b4 b12 b13 b14 b15 b16 b17, ρ = [SC, dice x2 y2, eCh c, .lst (c.nms.map .str), b4, a5, a6, eSt st, .int (f : Nat), .int ((n - f : Nat) : Int), .lst ((rowsL c st n).map eLn), .lst (((rowsL c st n).drop f).map eLn), b12, b13, b14, b15, b16, b17, .non]) (enD (c.nms.map .str)) [SC, dice x2 y2, eCh c, .lst (c.nms.map .str), a4, a5, a6, eSt st, .int (f : Nat), .int ((n - f : Nat) : Int), .lst ((rowsL c st n).map eLn), .lst (((rowsL c st n).drop f).map eLn), a12, a13, a14, a15, a16, a17, .non] (fun x hx ρ ⟨b4, b12, b13, b14, b15, b16, b17, hρ⟩ => by
    subst hρ
    rw [crew_en] at hx
    obtain ⟨i, hi, rfl⟩ := crew_mem hx
    obtain ⟨c13, c14, c15, c16, c17, e⟩ := out_turn hc hs hf r hn hi SC (dice x2 y2) a5 a6 (.int (f : Nat)) (.lst ((rowsL c st n).map eLn)) b13 b14 b15 b16 b17
    exact ⟨_, _, g124_at .., e, _, _, _, _, _, _, _, rfl⟩) ⟨_, _, _, _, _, _, _, rfl⟩
  exact ⟨_, _, _, _, _, _, _, _, _, _, _, _, _, _, _, _, _, mid_eval (e2 := e2) (e3 := e3) (h1 := h1) (lo := lo) (fi := hfin st n f hs r ..) ..⟩
theorem last_ix (xs : List D) (x : D) : dIx (.lst (xs ++ [x])) (.int (-1)) = some x := by
  show atI (xs ++ [x]) (-1) = _
  unfold atI
  have : ixN (xs ++ [x]).length (-1) = some xs.length := by
    rw [List.length_append, List.length_singleton]
    unfold ixN
    simp
    omega
  rw [this]
  simp
theorem last_ixT (xs : List D) (x : D) : dIx (.tup (xs ++ [x])) (.int (-1)) = some x := last_ix xs x
theorem fin_plain {c : Ch} (hc : OkC c) (hf : Fit c) (hn : c.nms = (["ann", "bob", "cy"] : List Str).take c.crew.length) (h3 : c.crew.length ≤ 3) : FinOk c := fun st n f hs r SC DX a4 a5 a6 F L RS RG a12 a13 a14 a15 a16 a17 => by
  have hc1 := hc.c1
  have hk : ∃ N, dIx (.lst (c.nms.map .str)) (.int (-1)) = some N ∧ dEq N (.str "dee") = some (.bl false) := by
    rw [hn]
    obtain h | h | h : c.crew.length = 1 ∨ c.crew.length = 2 ∨ c.crew.length = 3 := by omega
    · rw [h]; exact ⟨_, last_ix [] (.str "ann"), by rw [eq_str (by decide +kernel) (by decide +kernel), decide_eq_false (by decide +kernel)]⟩
    · rw [h]; exact ⟨_, last_ix [.str "ann"] (.str "bob"), by rw [eq_str (by decide +kernel) (by decide +kernel), decide_eq_false (by decide +kernel)]⟩
    · rw [h]; exact ⟨_, last_ix [.str "ann", .str "bob"] (.str "cy"), by rw [eq_str (by decide +kernel) (by decide +kernel), decide_eq_false (by decide +kernel)]⟩
  obtain ⟨N, h1, q⟩ := hk
  exact fin_no (h1 := h1) (q := q) (c1 := self_none hc hs hf r ..) ..
theorem fin_dee {c : Ch} {nm : Str} {ago : Int} (hc : OkC (withDee c nm ago)) (hf : Fit (withDee c nm ago)) {i : Nat} (hi : i < c.crew.length) (hnm : c.crew[i].nm = nm) (h1 : 1 ≤ ago) (h3 : ago ≤ 3) : FinOk (withDee c nm ago) := fun st n f hs r SC DX a4 a5 a6 F L RS RG a12 a13 a14 a15 a16 a17 => by
  have hlen : (withDee c nm ago).crew.length = c.crew.length + 1 := by simp [withDee]
  have hm : nm ∈ c.nms := List.mem_map.mpr ⟨_, List.getElem_mem hi, hnm⟩
  have hci : (withDee c nm ago).crew[i]'(by omega) = c.crew[i] := by simp [withDee, hi]
  have hlast : (withDee c nm ago).crew[c.crew.length]'(by omega) = parrot c.many nm ago := by simp [withDee]
  have hix : (withDee c nm ago).ix nm = i := by
    have := ix_of6 hc (i := i) (by omega)
    rw [hci, hnm] at this
    exact this
  have e := r_echo_ok hc hs hf r (i := i) (j := c.crew.length) (by omega) (by omega)
  rw [hci, hnm, hlast] at e
  have q3 := parrot_echo hc hs hi hix hm h1 h3 r
  have hk : dIx (.lst ((withDee c nm ago).nms.map .str)) (.int (-1)) = some (.str "dee") := by
    rw [dee_nms, List.map_append]
    exact last_ix _ _
  have i1 : dIx (eCh (withDee c nm ago)) (.int 1) = some (.tup (c.crew.map eSg ++ [eSg (parrot c.many nm ago)])) := by simp [eCh, withDee]
  have i2 := last_ixT (c.crew.map eSg) (eSg (parrot c.many nm ago))
  have i3 : dIx (eSg (parrot c.many nm ago)) (.int 1) = some (.tup [eEar (nm, ago)]) := by simp [eSg, parrot]
  have i4 : dIx (.tup [eEar (nm, ago)]) (.int 0) = some (eEar (nm, ago)) := by simp
  have i5 : dIx (eEar (nm, ago)) (.int 0) = some (.str nm) := by simp [eEar]
  exact fin_yes (h1 := hk) (q := by rw [eq_str (by decide +kernel) (by decide +kernel)]; rfl) (i1 := i1) (i2 := i2) (i3 := i3) (i4 := i4) (i5 := i5) (h2 := e) (q3 := q3) (c1 := self_none hc hs hf r ..) ..
theorem cell_turn (x y : Int) (SC a2 a3 a4 a5 a6 a7 a8 a9 a10 a11 a12 a13 a14 a15 a16 a17 : D) : ∃ b1 b2 b3 b4 b5 b6 b7 b8 b9 b10 b11 b12 b13 b14 b15 b16 b17, b_cell [SC, dice x y, a2, a3, a4, a5, a6, a7, a8, a9, a10, a11, a12, a13, a14, a15, a16, a17, .non] = .nx [SC, b1, b2, b3, b4, b5, b6, b7, b8, b9, b10, b11, b12, b13, b14, b15, b16, b17, .non] := by
  obtain ⟨x1, y1, c, e1, hc, hfew, hn⟩ := any_choir_few x y
  have hf := few_fit hfew
  have h3 : c.crew.length ≤ 3 := by unfold Few at hfew; omega
  have hc1 := hc.c1
  have hm2 := hc.m2
  have hm4 := hc.m4
  have e4 := crew_law_ok c hc.sm.crew
  obtain ⟨j2, x2, y2, e5, _, _⟩ := roll_ok x1 y1 2 (by omega) (by omega)
  by_cases h : j2 = 0
  · subst h
    obtain ⟨j, x3, y3, e6, j0, j1⟩ := roll_ok x2 y2 c.crew.length (by omega) (by omega)
    obtain ⟨j3, x4, y4, e7, k0, k1⟩ := roll_ok x3 y3 3 (by omega) (by omega)
    obtain ⟨i, hji⟩ : ∃ i : Nat, j = (i : Nat) := ⟨j.toNat, by omega⟩
    have hi : i < c.crew.length := by omega
    have hm : c.crew[i].nm ∈ c.nms := List.mem_map.mpr ⟨_, List.getElem_mem hi, rfl⟩
    have hok := dee_ok hc hn h3 hm (ago := 1 + j3) (by omega) (by omega)
    have hfit := dee_fit hfew c.crew[i].nm (1 + j3)
    have hfin := fin_dee hok hfit hi rfl (by omega) (by omega)
    obtain ⟨b1, b2, b3, b4, b5, b6, b7, b8, b9, b10, b11, b12, b13, b14, b15, b16, b17, em⟩ := mid_turn hok hfit hfin x4 y4 SC (.str c.crew[i].nm) (.int (1 + j3)) (.tup [.str "dee", .tup [.tup [.str c.crew[i].nm, .int (1 + j3)]], .tup (rgD 0 c.many)]) a7 a8 a9 a10 a11 a12 a13 a14 a15 a16 a17
    have hl : dLen (.lst (c.nms.map .str)) = some (.int c.crew.length) := by rw [d_lenL, List.length_map, nms_len]
    have hx : dIx (.lst (c.nms.map .str)) (.int j) = some (.str c.crew[i].nm) := by
      rw [hji, d_ixL, atI_nat]
      simp [Ch.nms, hi]
    have i0 : dIx (eCh c) (.int 0) = some (.int c.many) := by simp [eCh]
    have i1 : dIx (eCh c) (.int 1) = some (.tup (c.crew.map eSg)) := by simp [eCh]
    have lr : lrD (.int c.many) = some (.lst (rgD 0 c.many)) := by
      show (if _ then _ else _) = _
      rw [if_pos (by omega)]
    have h4 : dAdd (.tup (c.crew.map eSg)) (.tup [.tup [.str "dee", .tup [.tup [.str c.crew[i].nm, .int (1 + j3)]], .tup (rgD 0 c.many)]]) = some (.tup ((withDee c c.crew[i].nm (1 + j3)).crew.map eSg)) := by
      rw [d_addT (by simp; unfold SZ; omega), rgD_line]
      unfold withDee
      rw [List.map_append]
      rfl
    have h5 : dAdd (.lst (c.nms.map .str)) (.lst [.str "dee"]) = some (.lst (c.nms.map .str ++ [.str "dee"])) := d_addL (by rw [List.length_map, nms_len, List.length_singleton]; unfold SZ; omega)
    have hd := dee_eval (SC := SC) (C := eCh c) (h0 := hl) (e1 := e6) (e2 := hx) (e3 := e7) (i0 := i0) (lr := lr) (i1 := i1) (h4 := h4) (h5 := h5) (a4 := a4) (a5 := a5) (a6 := a6) (a7 := a7) (a8 := a8) (a9 := a9) (a10 := a10) (a11 := a11) (a12 := a12) (a13 := a13) (a14 := a14) (a15 := a15) (a16 := a16) (a17 := a17) (C2 := .non) (TB := .non) ..
    have ek : (c.nms.map D.str ++ [.str "dee"]) = (withDee c c.crew[i].nm (1 + j3)).nms.map .str := by rw [dee_nms, List.map_append]; rfl
    rw [ek] at hd
    exact ⟨_, _, _, _, _, _, _, _, _, _, _, _, _, _, _, _, _, cell_yes (e1 := e1) (e4 := e4) (e5 := e5) (hd := hd) (hm := em) ..⟩
  · obtain ⟨b1, b2, b3, b4, b5, b6, b7, b8, b9, b10, b11, b12, b13, b14, b15, b16, b17, em⟩ := mid_turn hc hf (fin_plain hc hf hn h3) x2 y2 SC a4 a5 a6 a7 a8 a9 a10 a11 a12 a13 a14 a15 a16 a17
    exact ⟨_, _, _, _, _, _, _, _, _, _, _, _, _, _, _, _, _, cell_no (e1 := e1) (e4 := e4) (e5 := e5) (q := by rw [eq_int, decide_eq_false h]) (hm := em) ..⟩
theorem pure_law (ns : List Int) (h : ns.length ≤ 63) : ∃ io, r_law [.scr ns] = .ok (.bl true) io := by
  obtain ⟨zs, e1⟩ := r__law_rounds_ok ns 4 h (by omega) (by omega)
  obtain ⟨ρ', e2, b1, b2, b3, b4, b5, b6, b7, b8, b9, b10, b11, b12, b13, b14, b15, b16, b17, rfl⟩ := forO_ok (b := b_cell) (i := 1) (fun ρ => ∃ b1 b2 b3 b4 b5 b6 b7 b8 b9 b10 b11 b12 b13 b14 b15 b16 b17, ρ = [.scr ns, b1, b2, b3, b4, b5, b6, b7, b8, b9, b10, b11, b12, b13, b14, b15, b16, b17, .non]) (zs.map fun z => dice z 0) [.scr ns, .non, .non, .non, .non, .non, .non, .non, .non, .non, .non, .non, .non, .non, .non, .non, .non, .non, .non] (fun d hd ρ ⟨b1, b2, b3, b4, b5, b6, b7, b8, b9, b10, b11, b12, b13, b14, b15, b16, b17, hρ⟩ => by
    subst hρ
    obtain ⟨z, _, rfl⟩ := List.mem_map.mp hd
    obtain ⟨d1, d2, d3, d4, d5, d6, d7, d8, d9, d10, d11, d12, d13, d14, d15, d16, d17, e⟩ := cell_turn z 0 (.scr ns) b2 b3 b4 b5 b6 b7 b8 b9 b10 b11 b12 b13 b14 b15 b16 b17
    exact ⟨_, e, _, _, _, _, _, _, _, _, _, _, _, _, _, _, _, _, _, rfl⟩) ⟨_, _, _, _, _, _, _, _, _, _, _, _, _, _, _, _, _, rfl⟩
  refine ⟨.scr ns, ?_⟩
  have hr := rows_dice zs
  simp only [r_law, m_law_eq]
  generalize (zs.map fun z => dice z 0) = rs at *
  generalize b_cell = B at *
  simp [sForO, e1, hr, e2, -List.all_eq_true]
end Hs

namespace Hs
open PySem PySem.Spec PyProof.Rows L2
def top (i : Nat) : Stmt := PySem.Challenge.pw_hearsong_k06_whole_echoes.main.body.getD i (.Pass ⟨0, 0, 0, 0⟩)
def retOf (s : Stmt) : Expr := match defBody s with
  | [.Return (some e) _] => e
  | _ => .Constant .none 0 ⟨0, 0, 0, 0⟩
def s_is_whole : Stmt := top 8
theorem ex_is_whole {F : Fx} {base : Heap} (m_isinstance : F.mg "isinstance" = none) (m_bool : F.mg "bool" = none) (m_int : F.mg "int" = none) {f : Addr} {cdv : Value} {A : Around} {outer : List Env} {s : Shared} {H : Hp} {E : XK} (C : CtxS F base (cxOf (L2.CX F.P F.w) F.P F.w F.K F.mg base ["thing", "low", "high"] "is_whole" (defScope s_is_whole) f cdv A outer s H E) E 0) :
    ExB F (cxOf (L2.CX F.P F.w) F.P F.w F.K F.mg base ["thing", "low", "high"] "is_whole" (defScope s_is_whole) f cdv A outer s H E) E false 0 (G0 3 0) (defBody s_is_whole) m_is_whole [.va, .va, .va] :=
  (xs_one (x_ret (ev_and (ev_isi (eo_val (ev_var 0 rfl)) rfl m_isinstance rfl m_int bb_int) (ev_and (ev_not (ev_isi (eo_val (ev_var 0 rfl)) rfl m_isinstance rfl m_bool bb_bool)) (ev_one (ev_chain (fun h => o_le h) (fun h => o_le h) (eo_val (ev_var 1 rfl)) (eo_val (ev_var 0 rfl)) (eo_val (ev_var 2 rfl))))))))
def s_is_word : Stmt := top 9
theorem ex_is_word {F : Fx} {base : Heap} (g_SMALL : ∃ t, F.mg "SMALL" = some (.str "abcdefghijklmnopqrstuvwxyz" t)) (m_all : F.mg "all" = none) (m_len : F.mg "len" = none) (m_isinstance : F.mg "isinstance" = none) (m_str : F.mg "str" = none) {f : Addr} {cdv : Value} {A : Around} {outer : List Env} {s : Shared} {H : Hp} {E : XK} (C : CtxS F base (cxOf (L2.CX F.P F.w) F.P F.w F.K F.mg base ["thing", "sign"] "is_word" (defScope s_is_word) f cdv A outer s H E) E 0) :
    ExB F (cxOf (L2.CX F.P F.w) F.P F.w F.K F.mg base ["thing", "sign"] "is_word" (defScope s_is_word) f cdv A outer s H E) E false 0 (G0 1 1) (defBody s_is_word) m_is_word [.va, .un] :=
  (xs_one (x_ret (ev_and (ev_isi (eo_val (ev_var 0 rfl)) rfl m_isinstance rfl m_str bb_str) (ev_and (ev_chain (fun h => o_le h) (fun h => o_le h) (eo_val ev_int) (eo_val (ev_bi (fun h => o_len h) rfl m_len bb_len (ea_cons (eo_val (ev_var 0 rfl)) ea_nil))) (eo_val ev_int)) (ev_one (ev_bi (fun h => o_all h C.calm) rfl m_all bb_all (ea_cons (eo_val (EvN.e (en_lc (own := [("sign", 1)]) C.calm C.nd (ei_seq (ev_var 0 rfl)) (blkOk_by (by rfl)) (fun _ _ _ _ _ => (eg_name (i := 1) (Ctx.blk C.toCtx).nd rfl (by first | exact .inl rfl | exact .inr rfl) (by decide))) (fun _ _ _ _ _ => ets_nil) (fun _ _ _ _ _ => (ev_cmp (fun h => o_in h (Ctx.blk C.toCtx).room) (eo_val (ev_var 1 rfl)) (eo_val (ev_gstr rfl g_SMALL)))) (by decide)))) ea_nil)))))))
def s_rise : Stmt := top 10
theorem ex_rise {F : Fx} {base : Heap} (m_zip : F.mg "zip" = none) (m_all : F.mg "all" = none) {f : Addr} {cdv : Value} {A : Around} {outer : List Env} {s : Shared} {H : Hp} {E : XK} (C : CtxS F base (cxOf (L2.CX F.P F.w) F.P F.w F.K F.mg base ["rows", "one", "other"] "rise" (defScope s_rise) f cdv A outer s H E) E 0) :
    ExB F (cxOf (L2.CX F.P F.w) F.P F.w F.K F.mg base ["rows", "one", "other"] "rise" (defScope s_rise) f cdv A outer s H E) E false 0 (G0 1 2) (defBody s_rise) m_rise [.va, .un, .un] :=
  (xs_one (x_ret (ev_bi (fun h => o_all h C.calm) rfl m_all bb_all (ea_cons (eo_val (EvN.e (en_lc (own := [("one", 1), ("other", 2)]) C.calm C.nd (ei_zip rfl m_zip (ev_var 0 rfl) (ev_sl (eo_val (ev_var 0 rfl)) (es_at ev_int) es_no)) (blkOk_by (by rfl)) (fun _ _ _ _ _ => (eg_tup (Ctx.blk C.toCtx).calm (egs_cons (eg_name (i := 1) (Ctx.blk C.toCtx).nd rfl (by first | exact .inl rfl | exact .inr rfl) (by decide)) (egs_cons (eg_name (i := 2) (Ctx.blk C.toCtx).nd rfl (by first | exact .inl rfl | exact .inr rfl) (by decide)) egs_nil)) (glS (glS gl0)))) (fun _ _ _ _ _ => ets_nil) (fun _ _ _ _ _ => (ev_cmp (fun h => o_ltX h (Ctx.blk C.toCtx).room) (eo_val (ev_var 1 rfl)) (eo_val (ev_var 2 rfl)))) (by decide)))) ea_nil))))
def s_are_lines : Stmt := top 11
theorem ex_are_lines {F : Fx} {base : Heap} (D_is_whole : FnD F base 1 "is_whole" false false r_is_whole) (m_all : F.mg "all" = none) (m_len : F.mg "len" = none) (m_isinstance : F.mg "isinstance" = none) (m_tuple : F.mg "tuple" = none) {f : Addr} {cdv : Value} {A : Around} {outer : List Env} {s : Shared} {H : Hp} {E : XK} (C : CtxS F base (cxOf (L2.CX F.P F.w) F.P F.w F.K F.mg base ["thing", "size", "many", "one"] "are_lines" (defScope s_are_lines) f cdv A outer s H E) E 1) :
    ExB F (cxOf (L2.CX F.P F.w) F.P F.w F.K F.mg base ["thing", "size", "many", "one"] "are_lines" (defScope s_are_lines) f cdv A outer s H E) E false 0 (G0 3 1) (defBody s_are_lines) m_are_lines [.va, .va, .va, .un] :=
  (xs_one (x_ret (ev_and (ev_isi (eo_val (ev_var 0 rfl)) rfl m_isinstance rfl m_tuple bb_tuple) (ev_and (ev_cmp (fun h => o_eq h C.room) (eo_val (ev_bi (fun h => o_len h) rfl m_len bb_len (ea_cons (eo_val (ev_var 0 rfl)) ea_nil))) (eo_val (ev_var 1 rfl))) (ev_one (ev_bi (fun h => o_all h C.calm) rfl m_all bb_all (ea_cons (eo_val (EvN.e (en_lc (own := [("one", 3)]) C.calm C.nd (ei_seq (ev_var 0 rfl)) (blkOk_by (by rfl)) (fun _ _ _ _ _ => (eg_name (i := 3) (Ctx.blk C.toCtx).nd rfl (by first | exact .inl rfl | exact .inr rfl) (by decide))) (fun _ _ _ _ _ => ets_nil) (fun _ _ _ _ _ => (ev_call (Ctx.blk C.toCtx) D_is_whole (by decide) rfl (ea_cons (eo_val (ev_var 3 rfl)) (ea_cons (eo_val ev_int) (ea_cons (eo_val (ev_bin (fun h => o_sub h) (eo_val (ev_var 2 rfl)) (eo_val ev_int))) ea_nil))))) (by decide)))) ea_nil)))))))
def s_is_ear : Stmt := top 12
theorem ex_is_ear {F : Fx} {base : Heap} (D_is_whole : FnD F base 1 "is_whole" false false r_is_whole) (D_is_word : FnD F base 1 "is_word" false false r_is_word) (m_len : F.mg "len" = none) (m_isinstance : F.mg "isinstance" = none) (m_tuple : F.mg "tuple" = none) {f : Addr} {cdv : Value} {A : Around} {outer : List Env} {s : Shared} {H : Hp} {E : XK} (C : CtxS F base (cxOf (L2.CX F.P F.w) F.P F.w F.K F.mg base ["thing"] "is_ear" (defScope s_is_ear) f cdv A outer s H E) E 1) :
    ExB F (cxOf (L2.CX F.P F.w) F.P F.w F.K F.mg base ["thing"] "is_ear" (defScope s_is_ear) f cdv A outer s H E) E false 0 (G0 1 0) (defBody s_is_ear) m_is_ear [.va] :=
  (xs_one (x_ret (ev_and (ev_isi (eo_val (ev_var 0 rfl)) rfl m_isinstance rfl m_tuple bb_tuple) (ev_and (ev_cmp (fun h => o_eq h C.room) (eo_val (ev_bi (fun h => o_len h) rfl m_len bb_len (ea_cons (eo_val (ev_var 0 rfl)) ea_nil))) (eo_val ev_int)) (ev_and (ev_call C.toCtx D_is_word (by decide) rfl (ea_cons (eo_val (ev_ix (fun h => o_ix h) (eo_val (ev_var 0 rfl)) (eo_val ev_int))) ea_nil)) (ev_one (ev_call C.toCtx D_is_whole (by decide) rfl (ea_cons (eo_val (ev_ix (fun h => o_ix h) (eo_val (ev_var 0 rfl)) (eo_val ev_int))) (ea_cons (eo_val ev_int) (ea_cons (eo_val ev_int) ea_nil))))))))))
def s_are_ears : Stmt := top 13
theorem ex_are_ears {F : Fx} {base : Heap} (D_rise : FnD F base 1 "rise" false false r_rise) (D_is_ear : FnD F base 2 "is_ear" false false r_is_ear) (m_all : F.mg "all" = none) (m_len : F.mg "len" = none) (m_isinstance : F.mg "isinstance" = none) (m_tuple : F.mg "tuple" = none) {f : Addr} {cdv : Value} {A : Around} {outer : List Env} {s : Shared} {H : Hp} {E : XK} (C : CtxS F base (cxOf (L2.CX F.P F.w) F.P F.w F.K F.mg base ["thing", "one"] "are_ears" (defScope s_are_ears) f cdv A outer s H E) E 2) :
    ExB F (cxOf (L2.CX F.P F.w) F.P F.w F.K F.mg base ["thing", "one"] "are_ears" (defScope s_are_ears) f cdv A outer s H E) E false 0 (G0 1 1) (defBody s_are_ears) m_are_ears [.va, .un] :=
  (xs_one (x_ret (ev_and (ev_isi (eo_val (ev_var 0 rfl)) rfl m_isinstance rfl m_tuple bb_tuple) (ev_and (ev_cmp (fun h => o_le h) (eo_val (ev_bi (fun h => o_len h) rfl m_len bb_len (ea_cons (eo_val (ev_var 0 rfl)) ea_nil))) (eo_val ev_int)) (ev_and (ev_bi (fun h => o_all h C.calm) rfl m_all bb_all (ea_cons (eo_val (EvN.e (en_lc (own := [("one", 1)]) C.calm C.nd (ei_seq (ev_var 0 rfl)) (blkOk_by (by rfl)) (fun _ _ _ _ _ => (eg_name (i := 1) (Ctx.blk C.toCtx).nd rfl (by first | exact .inl rfl | exact .inr rfl) (by decide))) (fun _ _ _ _ _ => ets_nil) (fun _ _ _ _ _ => (ev_call (Ctx.blk C.toCtx) D_is_ear (by decide) rfl (ea_cons (eo_val (ev_var 1 rfl)) ea_nil))) (by decide)))) ea_nil)) (ev_one (ev_call C.toCtx D_rise (by decide) rfl (ea_cons (eo_val (ev_var 0 rfl)) ea_nil))))))))
def s_places_for : Stmt := top 14
theorem ex_places_for {F : Fx} {base : Heap} (m_len : F.mg "len" = none) {f : Addr} {cdv : Value} {A : Around} {outer : List Env} {s : Shared} {H : Hp} {E : XK} (C : CtxS F base (cxOf (L2.CX F.P F.w) F.P F.w F.K F.mg base ["many", "ears"] "places_for" (defScope s_places_for) f cdv A outer s H E) E 0) :
    ExB F (cxOf (L2.CX F.P F.w) F.P F.w F.K F.mg base ["many", "ears"] "places_for" (defScope s_places_for) f cdv A outer s H E) E false 0 (G0 2 0) (defBody s_places_for) m_places_for [.va, .va] :=
  (xs_one (x_ret (ev_ix (fun h => o_ix h) (eo_val (EvN.e (en_lst (ea_cons (eo_val ev_int) (ea_cons (eo_val (ev_var 0 rfl)) (ea_cons (eo_val (ev_bin (fun h => o_mul h) (eo_val (ev_var 0 rfl)) (eo_val (ev_var 0 rfl)))) ea_nil)))))) (eo_val (ev_bi (fun h => o_len h) rfl m_len bb_len (ea_cons (eo_val (ev_var 1 rfl)) ea_nil))))))
def s_is_singer : Stmt := top 15
theorem ex_is_singer {F : Fx} {base : Heap} (D_are_ears : FnD F base 3 "are_ears" false false r_are_ears) (D_is_word : FnD F base 1 "is_word" false false r_is_word) (m_len : F.mg "len" = none) (m_isinstance : F.mg "isinstance" = none) (m_tuple : F.mg "tuple" = none) (D_are_lines : FnD F base 2 "are_lines" false false r_are_lines) (D_places_for : FnD F base 1 "places_for" false false r_places_for) {f : Addr} {cdv : Value} {A : Around} {outer : List Env} {s : Shared} {H : Hp} {E : XK} (C : CtxS F base (cxOf (L2.CX F.P F.w) F.P F.w F.K F.mg base ["thing", "many"] "is_singer" (defScope s_is_singer) f cdv A outer s H E) E 3) :
    ExB F (cxOf (L2.CX F.P F.w) F.P F.w F.K F.mg base ["thing", "many"] "is_singer" (defScope s_is_singer) f cdv A outer s H E) E false 0 (G0 2 0) (defBody s_is_singer) m_is_singer [.va, .va] :=
  (xs_cons (x_if (EvW.t (ew_or (et_not (et_val (ev_isi (eo_val (ev_var 0 rfl)) rfl m_isinstance rfl m_tuple bb_tuple))) (ew_or (et_cmp (fun h => o_ne h C.room) (eo_val (ev_bi (fun h => o_len h) rfl m_len bb_len (ea_cons (eo_val (ev_var 0 rfl)) ea_nil))) (eo_val ev_int)) (ew_or (et_not (et_val (ev_call C.toCtx D_is_word (by decide) rfl (ea_cons (eo_val (ev_ix (fun h => o_ix h) (eo_val (ev_var 0 rfl)) (eo_val ev_int))) ea_nil)))) (ew_or1 (et_not (et_val (ev_call C.toCtx D_are_ears (by decide) rfl (ea_cons (eo_val (ev_ix (fun h => o_ix h) (eo_val (ev_var 0 rfl)) (eo_val ev_int))) ea_nil))))))))) (xs_one (x_ret ev_bl)) xs_nil) (xs_one (x_ret (ev_call C.toCtx D_are_lines (by decide) rfl (ea_cons (eo_val (ev_ix (fun h => o_ix h) (eo_val (ev_var 0 rfl)) (eo_val ev_int))) (ea_cons (eo_val (ev_call C.toCtx D_places_for (by decide) rfl (ea_cons (eo_val (ev_var 1 rfl)) (ea_cons (eo_val (ev_ix (fun h => o_ix h) (eo_val (ev_var 0 rfl)) (eo_val ev_int))) ea_nil)))) (ea_cons (eo_val (ev_var 1 rfl)) ea_nil)))))))
def s_is_choir : Stmt := top 16
theorem ex_is_choir {F : Fx} {base : Heap} (D_is_whole : FnD F base 1 "is_whole" false false r_is_whole) (m_len : F.mg "len" = none) (m_isinstance : F.mg "isinstance" = none) (m_tuple : F.mg "tuple" = none) (D_rise : FnD F base 1 "rise" false false r_rise) (D_is_singer : FnD F base 4 "is_singer" false false r_is_singer) (m_all : F.mg "all" = none) {f : Addr} {cdv : Value} {A : Around} {outer : List Env} {s : Shared} {H : Hp} {E : XK} (C : CtxS F base (cxOf (L2.CX F.P F.w) F.P F.w F.K F.mg base ["thing", "many", "singers", "one", "some", "ear"] "is_choir" (defScope s_is_choir) f cdv A outer s H E) E 4) :
    ExB F (cxOf (L2.CX F.P F.w) F.P F.w F.K F.mg base ["thing", "many", "singers", "one", "some", "ear"] "is_choir" (defScope s_is_choir) f cdv A outer s H E) E false 0 (G0 1 5) (defBody s_is_choir) m_is_choir [.va, .va, .va, .un, .va, .un] :=
  (xs_cons (x_if (EvW.t (ew_or (et_not (et_val (ev_isi (eo_val (ev_var 0 rfl)) rfl m_isinstance rfl m_tuple bb_tuple))) (ew_or (et_cmp (fun h => o_ne h C.room) (eo_val (ev_bi (fun h => o_len h) rfl m_len bb_len (ea_cons (eo_val (ev_var 0 rfl)) ea_nil))) (eo_val ev_int)) (ew_or1 (et_not (et_val (ev_call C.toCtx D_is_whole (by decide) rfl (ea_cons (eo_val (ev_ix (fun h => o_ix h) (eo_val (ev_var 0 rfl)) (eo_val ev_int))) (ea_cons (eo_val ev_int) (ea_cons (eo_val ev_int) ea_nil)))))))))) (xs_one (x_ret ev_bl)) xs_nil) (xs_cons (x_asg (ws := [1, 2]) (ev_var 0 rfl) (eg_tup C.calm (egs_cons (eg_name (i := 1) C.nd rfl (by first | exact .inl rfl | exact .inr rfl) (by decide)) (egs_cons (eg_name (i := 2) C.nd rfl (by first | exact .inl rfl | exact .inr rfl) (by decide)) egs_nil)) (glS (glS gl0)))) (xs_cons (x_if (EvW.t (ew_or (et_not (et_val (ev_isi (eo_val (ev_var 2 rfl)) rfl m_isinstance rfl m_tuple bb_tuple))) (ew_or1 (et_not (et_chain (fun h => o_le h) (fun h => o_le h) (eo_val ev_int) (eo_val (ev_bi (fun h => o_len h) rfl m_len bb_len (ea_cons (eo_val (ev_var 2 rfl)) ea_nil))) (eo_val ev_int)))))) (xs_one (x_ret ev_bl)) xs_nil) (xs_cons (x_if (EvW.t (ew_or (et_not (et_val (ev_bi (fun h => o_all h C.calm) rfl m_all bb_all (ea_cons (eo_val (EvN.e (en_lc (own := [("one", 3)]) C.calm C.nd (ei_seq (ev_var 2 rfl)) (blkOk_by (by rfl)) (fun _ _ _ _ _ => (eg_name (i := 3) (Ctx.blk C.toCtx).nd rfl (by first | exact .inl rfl | exact .inr rfl) (by decide))) (fun _ _ _ _ _ => ets_nil) (fun _ _ _ _ _ => (ev_call (Ctx.blk C.toCtx) D_is_singer (by decide) rfl (ea_cons (eo_val (ev_var 3 rfl)) (ea_cons (eo_val (ev_var 1 rfl)) ea_nil)))) (by decide)))) ea_nil)))) (ew_or1 (et_not (et_val (ev_call C.toCtx D_rise (by decide) rfl (ea_cons (eo_val (EvN.e (en_lc (own := [("one", 3)]) C.calm C.nd (ei_seq (ev_var 2 rfl)) (blkOk_by (by rfl)) (fun _ _ _ _ _ => (eg_name (i := 3) (Ctx.blk C.toCtx).nd rfl (by first | exact .inl rfl | exact .inr rfl) (by decide))) (fun _ _ _ _ _ => ets_nil) (fun _ _ _ _ _ => (ev_ix (fun h => o_ix h) (eo_val (ev_var 3 rfl)) (eo_val ev_int))) (by decide)))) ea_nil))))))) (xs_one (x_ret ev_bl)) xs_nil) (xs_cons (x_set (i := 4) C.nd rfl (locC rfl) (EvN.e (en_lc (own := [("one", 3)]) C.calm C.nd (ei_seq (ev_var 2 rfl)) (blkOk_by (by rfl)) (fun _ _ _ _ _ => (eg_name (i := 3) (Ctx.blk C.toCtx).nd rfl (by first | exact .inl rfl | exact .inr rfl) (by decide))) (fun _ _ _ _ _ => ets_nil) (fun _ _ _ _ _ => (ev_ix (fun h => o_ix h) (eo_val (ev_var 3 rfl)) (eo_val ev_int))) (by decide))) (by decide)) (xs_one (x_ret (ev_bi (fun h => o_all h C.calm) rfl m_all bb_all (ea_cons (eo_val (EvN.e (en_lc2 (own := [("one", 3), ("ear", 5)]) (vs1 := [5]) C.calm C.nd (ei_seq (ev_var 2 rfl)) (blkOk_by (by rfl)) (by decide) (fun _ _ _ _ _ => (eg_name (i := 3) (Ctx.blk C.toCtx).nd rfl (by first | exact .inl rfl | exact .inr rfl) (by decide))) (fun _ _ _ _ _ => ets_nil) (fun _ _ _ _ _ => (ei_seq (ev_ix (fun h => o_ix h) (eo_val (ev_var 3 rfl)) (eo_val ev_int)))) (fun _ _ _ _ _ => (eg_name (i := 5) (Ctx.blk C.toCtx).nd rfl (by first | exact .inl rfl | exact .inr rfl) (by decide))) (fun _ _ _ _ _ => ets_nil) (fun _ _ _ _ _ => (ev_cmp (fun h => o_in h (Ctx.blk C.toCtx).room) (eo_val (ev_ix (fun h => o_ix h) (eo_val (ev_var 5 rfl)) (eo_val ev_int))) (eo_val (ev_var 4 rfl)))) (by decide)))) ea_nil)))))))))
def s_need_choir : Stmt := top 17
theorem ex_need_choir {F : Fx} {base : Heap} (D_is_choir : FnD F base 5 "is_choir" false false r_is_choir) {f : Addr} {cdv : Value} {A : Around} {outer : List Env} {s : Shared} {H : Hp} {E : XK} (C : CtxS F base (cxOf (L2.CX F.P F.w) F.P F.w F.K F.mg base ["thing"] "need_choir" (defScope s_need_choir) f cdv A outer s H E) E 5) :
    ExB F (cxOf (L2.CX F.P F.w) F.P F.w F.K F.mg base ["thing"] "need_choir" (defScope s_need_choir) f cdv A outer s H E) E false 0 (G0 1 0) (defBody s_need_choir) m_need_choir [.va] :=
  (xs_one (x_if (et_not (et_val (ev_call C.toCtx D_is_choir (by decide) rfl (ea_cons (eo_val (ev_var 0 rfl)) ea_nil)))) (xs_one x_bad) xs_nil))
def s_all_names : Stmt := top 18
theorem ex_all_names {F : Fx} {base : Heap}  {f : Addr} {cdv : Value} {A : Around} {outer : List Env} {s : Shared} {H : Hp} {E : XK} (C : CtxS F base (cxOf (L2.CX F.P F.w) F.P F.w F.K F.mg base ["choir", "one"] "all_names" (defScope s_all_names) f cdv A outer s H E) E 0) :
    ExB F (cxOf (L2.CX F.P F.w) F.P F.w F.K F.mg base ["choir", "one"] "all_names" (defScope s_all_names) f cdv A outer s H E) E false 0 (G0 1 1) (defBody s_all_names) m_all_names [.va, .un] :=
  (xs_one (x_ret (EvN.e (en_lc (own := [("one", 1)]) C.calm C.nd (ei_seq (ev_ix (fun h => o_ix h) (eo_val (ev_var 0 rfl)) (eo_val ev_int))) (blkOk_by (by rfl)) (fun _ _ _ _ _ => (eg_name (i := 1) (Ctx.blk C.toCtx).nd rfl (by first | exact .inl rfl | exact .inr rfl) (by decide))) (fun _ _ _ _ _ => ets_nil) (fun _ _ _ _ _ => (ev_ix (fun h => o_ix h) (eo_val (ev_var 1 rfl)) (eo_val ev_int))) (by decide)))))
def s_is_good_standing : Stmt := top 19
theorem ex_is_good_standing {F : Fx} {base : Heap} (m_len : F.mg "len" = none) (m_isinstance : F.mg "isinstance" = none) (m_tuple : F.mg "tuple" = none) (D_are_lines : FnD F base 2 "are_lines" false false r_are_lines) (m_all : F.mg "all" = none) {f : Addr} {cdv : Value} {A : Around} {outer : List Env} {s : Shared} {H : Hp} {E : XK} (C : CtxS F base (cxOf (L2.CX F.P F.w) F.P F.w F.K F.mg base ["choir", "thing", "one"] "is_good_standing" (defScope s_is_good_standing) f cdv A outer s H E) E 2) :
    ExB F (cxOf (L2.CX F.P F.w) F.P F.w F.K F.mg base ["choir", "thing", "one"] "is_good_standing" (defScope s_is_good_standing) f cdv A outer s H E) E false 0 (G0 2 1) (defBody s_is_good_standing) m_is_good_standing [.va, .va, .un] :=
  (xs_cons (x_if (EvW.t (ew_or (et_not (et_val (ev_isi (eo_val (ev_var 1 rfl)) rfl m_isinstance rfl m_tuple bb_tuple))) (ew_or1 (et_cmp (fun h => o_ne h C.room) (eo_val (ev_bi (fun h => o_len h) rfl m_len bb_len (ea_cons (eo_val (ev_var 1 rfl)) ea_nil))) (eo_val (ev_bi (fun h => o_len h) rfl m_len bb_len (ea_cons (eo_val (ev_ix (fun h => o_ix h) (eo_val (ev_var 0 rfl)) (eo_val ev_int))) ea_nil))))))) (xs_one (x_ret ev_bl)) xs_nil) (xs_one (x_ret (ev_bi (fun h => o_all h C.calm) rfl m_all bb_all (ea_cons (eo_val (EvN.e (en_lc (own := [("one", 2)]) C.calm C.nd (ei_seq (ev_var 1 rfl)) (blkOk_by (by rfl)) (fun _ _ _ _ _ => (eg_name (i := 2) (Ctx.blk C.toCtx).nd rfl (by first | exact .inl rfl | exact .inr rfl) (by decide))) (fun _ _ _ _ _ => ets_nil) (fun _ _ _ _ _ => (ev_call (Ctx.blk C.toCtx) D_are_lines (by decide) rfl (ea_cons (eo_val (ev_var 2 rfl)) (ea_cons (eo_val ev_int) (ea_cons (eo_val (ev_ix (fun h => o_ix h) (eo_val (ev_var 0 rfl)) (eo_val ev_int))) ea_nil))))) (by decide)))) ea_nil)))))
def s_need_standing : Stmt := top 20
theorem ex_need_standing {F : Fx} {base : Heap} (D_is_good_standing : FnD F base 3 "is_good_standing" false false r_is_good_standing) {f : Addr} {cdv : Value} {A : Around} {outer : List Env} {s : Shared} {H : Hp} {E : XK} (C : CtxS F base (cxOf (L2.CX F.P F.w) F.P F.w F.K F.mg base ["choir", "thing"] "need_standing" (defScope s_need_standing) f cdv A outer s H E) E 3) :
    ExB F (cxOf (L2.CX F.P F.w) F.P F.w F.K F.mg base ["choir", "thing"] "need_standing" (defScope s_need_standing) f cdv A outer s H E) E false 0 (G0 2 0) (defBody s_need_standing) m_need_standing [.va, .va] :=
  (xs_one (x_if (et_not (et_val (ev_call C.toCtx D_is_good_standing (by decide) rfl (ea_cons (eo_val (ev_var 0 rfl)) (ea_cons (eo_val (ev_var 1 rfl)) ea_nil))))) (xs_one x_bad) xs_nil))
def s_need_name : Stmt := top 21
theorem ex_need_name {F : Fx} {base : Heap} (D_all_names : FnD F base 1 "all_names" false false r_all_names) (m_isinstance : F.mg "isinstance" = none) (m_str : F.mg "str" = none) {f : Addr} {cdv : Value} {A : Around} {outer : List Env} {s : Shared} {H : Hp} {E : XK} (C : CtxS F base (cxOf (L2.CX F.P F.w) F.P F.w F.K F.mg base ["choir", "name"] "need_name" (defScope s_need_name) f cdv A outer s H E) E 1) :
    ExB F (cxOf (L2.CX F.P F.w) F.P F.w F.K F.mg base ["choir", "name"] "need_name" (defScope s_need_name) f cdv A outer s H E) E false 0 (G0 2 0) (defBody s_need_name) m_need_name [.va, .va] :=
  (xs_one (x_if (EvW.t (ew_or (et_not (et_val (ev_isi (eo_val (ev_var 1 rfl)) rfl m_isinstance rfl m_str bb_str))) (ew_or1 (et_cmp (fun h => o_notin h C.room) (eo_val (ev_var 1 rfl)) (eo_val (ev_call C.toCtx D_all_names (by decide) rfl (ea_cons (eo_val (ev_var 0 rfl)) ea_nil))))))) (xs_one x_bad) xs_nil))
def s_number_of : Stmt := top 22
theorem ex_number_of {F : Fx} {base : Heap} (D_all_names : FnD F base 1 "all_names" false false r_all_names) {f : Addr} {cdv : Value} {A : Around} {outer : List Env} {s : Shared} {H : Hp} {E : XK} (C : CtxS F base (cxOf (L2.CX F.P F.w) F.P F.w F.K F.mg base ["choir", "name"] "number_of" (defScope s_number_of) f cdv A outer s H E) E 1) :
    ExB F (cxOf (L2.CX F.P F.w) F.P F.w F.K F.mg base ["choir", "name"] "number_of" (defScope s_number_of) f cdv A outer s H E) E false 0 (G0 2 0) (defBody s_number_of) m_number_of [.va, .va] :=
  (xs_one (x_ret (ev_index C.room (eo_val (ev_call C.toCtx D_all_names (by decide) rfl (ea_cons (eo_val (ev_var 0 rfl)) ea_nil))) (eo_val (ev_var 1 rfl)))))
def s_heard_by : Stmt := top 23
theorem ex_heard_by {F : Fx} {base : Heap} (D_number_of : FnD F base 2 "number_of" false false r_number_of) (m_tuple : F.mg "tuple" = none) {f : Addr} {cdv : Value} {A : Around} {outer : List Env} {s : Shared} {H : Hp} {E : XK} (C : CtxS F base (cxOf (L2.CX F.P F.w) F.P F.w F.K F.mg base ["choir", "standing", "singer", "name", "ago"] "heard_by" (defScope s_heard_by) f cdv A outer s H E) E 2) :
    ExB F (cxOf (L2.CX F.P F.w) F.P F.w F.K F.mg base ["choir", "standing", "singer", "name", "ago"] "heard_by" (defScope s_heard_by) f cdv A outer s H E) E false 0 (G0 3 2) (defBody s_heard_by) m_heard_by [.va, .va, .va, .un, .un] :=
  (xs_one (x_ret (ev_ty (fun h => o_tuple h) rfl m_tuple bb_tuple (ea_cons (eo_val (EvN.e (en_lc (own := [("name", 3), ("ago", 4)]) C.calm C.nd (ei_seq (ev_ix (fun h => o_ix h) (eo_val (ev_var 2 rfl)) (eo_val ev_int))) (blkOk_by (by rfl)) (fun _ _ _ _ _ => (eg_tup (Ctx.blk C.toCtx).calm (egs_cons (eg_name (i := 3) (Ctx.blk C.toCtx).nd rfl (by first | exact .inl rfl | exact .inr rfl) (by decide)) (egs_cons (eg_name (i := 4) (Ctx.blk C.toCtx).nd rfl (by first | exact .inl rfl | exact .inr rfl) (by decide)) egs_nil)) (glS (glS gl0)))) (fun _ _ _ _ _ => ets_nil) (fun _ _ _ _ _ => (ev_ix (fun h => o_ix h) (eo_val (ev_ix (fun h => o_ix h) (eo_val (ev_var 1 rfl)) (eo_val (ev_call (Ctx.blk C.toCtx) D_number_of (by decide) rfl (ea_cons (eo_val (ev_var 0 rfl)) (ea_cons (eo_val (ev_var 3 rfl)) ea_nil)))))) (eo_val (ev_bin (fun h => o_sub h) (eo_val ev_int) (eo_val (ev_var 4 rfl)))))) (by decide)))) ea_nil))))
def s_place_of : Stmt := top 24
theorem ex_place_of {F : Fx} {base : Heap}  {f : Addr} {cdv : Value} {A : Around} {outer : List Env} {s : Shared} {H : Hp} {E : XK} (C : CtxS F base (cxOf (L2.CX F.P F.w) F.P F.w F.K F.mg base ["many", "some", "found", "line"] "place_of" (defScope s_place_of) f cdv A outer s H E) E 0) :
    ExB F (cxOf (L2.CX F.P F.w) F.P F.w F.K F.mg base ["many", "some", "found", "line"] "place_of" (defScope s_place_of) f cdv A outer s H E) E false 0 (G0 2 2) (defBody s_place_of) m_place_of [.va, .va, .va, .un] :=
  (xs_cons (x_set (i := 2) C.nd rfl (locL rfl) ev_int (by decide)) (xs_cons (x_for (Gl := [.va, .va, .va, .un]) (ws := [3]) C.own C.calm (ei_seq (ev_var 1 rfl)) (eg_name (i := 3) C.nd rfl (by first | exact .inl rfl | exact .inr rfl) (by decide)) (xs_one (x_set (i := 2) C.nd rfl (locL rfl) (ev_bin (fun h => o_add h) (eo_val (ev_bin (fun h => o_mul h) (eo_val (ev_var 2 rfl)) (eo_val (ev_var 0 rfl)))) (eo_val (ev_var 3 rfl))) (by decide))) (w1_of rfl rfl) (w2_of rfl)) (xs_one (x_ret (ev_var 2 rfl)))))
def s_table_line : Stmt := top 25
theorem ex_table_line {F : Fx} {base : Heap} (D_place_of : FnD F base 1 "place_of" false false r_place_of) (D_heard_by : FnD F base 3 "heard_by" false false r_heard_by) {f : Addr} {cdv : Value} {A : Around} {outer : List Env} {s : Shared} {H : Hp} {E : XK} (C : CtxS F base (cxOf (L2.CX F.P F.w) F.P F.w F.K F.mg base ["choir", "standing", "singer"] "table_line" (defScope s_table_line) f cdv A outer s H E) E 3) :
    ExB F (cxOf (L2.CX F.P F.w) F.P F.w F.K F.mg base ["choir", "standing", "singer"] "table_line" (defScope s_table_line) f cdv A outer s H E) E false 0 (G0 3 0) (defBody s_table_line) m_table_line [.va, .va, .va] :=
  (xs_one (x_ret (ev_ix (fun h => o_ix h) (eo_val (ev_ix (fun h => o_ix h) (eo_val (ev_var 2 rfl)) (eo_val ev_int))) (eo_val (ev_call C.toCtx D_place_of (by decide) rfl (ea_cons (eo_val (ev_ix (fun h => o_ix h) (eo_val (ev_var 0 rfl)) (eo_val ev_int))) (ea_cons (eo_val (ev_call C.toCtx D_heard_by (by decide) rfl (ea_cons (eo_val (ev_var 0 rfl)) (ea_cons (eo_val (ev_var 1 rfl)) (ea_cons (eo_val (ev_var 2 rfl)) ea_nil))))) ea_nil)))))))
def s_all_next : Stmt := top 26
theorem ex_all_next {F : Fx} {base : Heap} (D_table_line : FnD F base 4 "table_line" false false r_table_line) (m_tuple : F.mg "tuple" = none) {f : Addr} {cdv : Value} {A : Around} {outer : List Env} {s : Shared} {H : Hp} {E : XK} (C : CtxS F base (cxOf (L2.CX F.P F.w) F.P F.w F.K F.mg base ["choir", "standing", "singer"] "all_next" (defScope s_all_next) f cdv A outer s H E) E 4) :
    ExB F (cxOf (L2.CX F.P F.w) F.P F.w F.K F.mg base ["choir", "standing", "singer"] "all_next" (defScope s_all_next) f cdv A outer s H E) E false 0 (G0 2 1) (defBody s_all_next) m_all_next [.va, .va, .un] :=
  (xs_one (x_ret (ev_ty (fun h => o_tuple h) rfl m_tuple bb_tuple (ea_cons (eo_val (EvN.e (en_lc (own := [("singer", 2)]) C.calm C.nd (ei_seq (ev_ix (fun h => o_ix h) (eo_val (ev_var 0 rfl)) (eo_val ev_int))) (blkOk_by (by rfl)) (fun _ _ _ _ _ => (eg_name (i := 2) (Ctx.blk C.toCtx).nd rfl (by first | exact .inl rfl | exact .inr rfl) (by decide))) (fun _ _ _ _ _ => ets_nil) (fun _ _ _ _ _ => (ev_call (Ctx.blk C.toCtx) D_table_line (by decide) rfl (ea_cons (eo_val (ev_var 0 rfl)) (ea_cons (eo_val (ev_var 1 rfl)) (ea_cons (eo_val (ev_var 2 rfl)) ea_nil))))) (by decide)))) ea_nil))))
def s_behind : Stmt := top 27
theorem ex_behind {F : Fx} {base : Heap} (m_zip : F.mg "zip" = none) (m_tuple : F.mg "tuple" = none) {f : Addr} {cdv : Value} {A : Around} {outer : List Env} {s : Shared} {H : Hp} {E : XK} (C : CtxS F base (cxOf (L2.CX F.P F.w) F.P F.w F.K F.mg base ["standing", "lines", "row", "line"] "behind" (defScope s_behind) f cdv A outer s H E) E 0) :
    ExB F (cxOf (L2.CX F.P F.w) F.P F.w F.K F.mg base ["standing", "lines", "row", "line"] "behind" (defScope s_behind) f cdv A outer s H E) E false 0 (G0 2 2) (defBody s_behind) m_behind [.va, .va, .un, .un] :=
  (xs_one (x_ret (ev_ty (fun h => o_tuple h) rfl m_tuple bb_tuple (ea_cons (eo_val (EvN.e (en_lc (own := [("row", 2), ("line", 3)]) C.calm C.nd (ei_zip rfl m_zip (ev_var 0 rfl) (ev_var 1 rfl)) (blkOk_by (by rfl)) (fun _ _ _ _ _ => (eg_tup (Ctx.blk C.toCtx).calm (egs_cons (eg_name (i := 2) (Ctx.blk C.toCtx).nd rfl (by first | exact .inl rfl | exact .inr rfl) (by decide)) (egs_cons (eg_name (i := 3) (Ctx.blk C.toCtx).nd rfl (by first | exact .inl rfl | exact .inr rfl) (by decide)) egs_nil)) (glS (glS gl0)))) (fun _ _ _ _ _ => ets_nil) (fun _ _ _ _ _ => (ev_bin (fun h => o_add h) (eo_val (ev_sl (eo_val (ev_var 2 rfl)) (es_at ev_int) es_no)) (eo_val (ev_tup (ea_cons (eo_val (ev_var 3 rfl)) ea_nil))))) (by decide)))) ea_nil))))
def s_on : Stmt := top 28
theorem ex_on {F : Fx} {base : Heap} (D_behind : FnD F base 1 "behind" false false r_behind) (D_all_next : FnD F base 5 "all_next" false false r_all_next) {f : Addr} {cdv : Value} {A : Around} {outer : List Env} {s : Shared} {H : Hp} {E : XK} (C : CtxS F base (cxOf (L2.CX F.P F.w) F.P F.w F.K F.mg base ["choir", "standing"] "on" (defScope s_on) f cdv A outer s H E) E 5) :
    ExB F (cxOf (L2.CX F.P F.w) F.P F.w F.K F.mg base ["choir", "standing"] "on" (defScope s_on) f cdv A outer s H E) E false 0 (G0 2 0) (defBody s_on) m_on [.va, .va] :=
  (xs_one (x_ret (ev_call C.toCtx D_behind (by decide) rfl (ea_cons (eo_val (ev_var 1 rfl)) (ea_cons (eo_val (ev_call C.toCtx D_all_next (by decide) rfl (ea_cons (eo_val (ev_var 0 rfl)) (ea_cons (eo_val (ev_var 1 rfl)) ea_nil)))) ea_nil)))))
def s_need_both : Stmt := top 31
theorem ex_need_both {F : Fx} {base : Heap} (D_need_choir : FnD F base 6 "need_choir" false false r_need_choir) (D_need_standing : FnD F base 4 "need_standing" false false r_need_standing) {f : Addr} {cdv : Value} {A : Around} {outer : List Env} {s : Shared} {H : Hp} {E : XK} (C : CtxS F base (cxOf (L2.CX F.P F.w) F.P F.w F.K F.mg base ["choir", "standing"] "need_both" (defScope s_need_both) f cdv A outer s H E) E 6) :
    ExB F (cxOf (L2.CX F.P F.w) F.P F.w F.K F.mg base ["choir", "standing"] "need_both" (defScope s_need_both) f cdv A outer s H E) E false 0 (G0 2 0) (defBody s_need_both) m_need_both [.va, .va] :=
  (xs_cons (x_expr (ev_call C.toCtx D_need_choir (by decide) rfl (ea_cons (eo_val (ev_var 0 rfl)) ea_nil))) (xs_one (x_expr (ev_call C.toCtx D_need_standing (by decide) rfl (ea_cons (eo_val (ev_var 0 rfl)) (ea_cons (eo_val (ev_var 1 rfl)) ea_nil))))))
def s_walked : Stmt := top 32
theorem ex_walked {F : Fx} {base : Heap} (m_len : F.mg "len" = none) (D_on : FnD F base 6 "on" false false r_on) (g_MOST_AHEAD : ∃ t, F.mg "MOST_AHEAD" = some (.int 20000 t)) {f : Addr} {cdv : Value} {A : Around} {outer : List Env} {s : Shared} {H : Hp} {E : XK} (C : CtxS F base (cxOf (L2.CX F.P F.w) F.P F.w F.K F.mg base ["choir", "standing", "known", "row"] "walked" (defScope s_walked) f cdv A outer s H E) E 6) :
    ExB F (cxOf (L2.CX F.P F.w) F.P F.w F.K F.mg base ["choir", "standing", "known", "row"] "walked" (defScope s_walked) f cdv A outer s H E) E false 0 (G0 2 2) (defBody s_walked) m_walked [.va, .va, .ow, .va] :=
  (xs_cons (x_par2 (i := 2) (j := 3) C.calm C.nd rfl rfl (by decide) (by decide) rfl rfl (ep_ow en_dct0 (ep_ow (en_lst ea_nil) ep_nil)) rfl) (xs_cons (x_while (Gl := [.va, .va, .ow, .ow]) C.own (et_cmp (fun h => o_dnotin h C.room) (eo_val (ev_var 1 rfl)) (eo_own 2 rfl)) (xs_cons (x_dset (i := 2) C.room rfl (ev_bi (fun h => o_len h) rfl m_len bb_len (ea_cons (eo_own 3 rfl) ea_nil)) (ev_var 1 rfl)) (xs_cons (x_expr (ev_append (i := 3) rfl (ev_var 1 rfl))) (xs_cons (x_set (i := 1) C.nd rfl (locL rfl) (ev_call C.toCtx D_on (by decide) rfl (ea_cons (eo_val (ev_var 0 rfl)) (ea_cons (eo_val (ev_var 1 rfl)) ea_nil))) (by decide)) (xs_one (x_if (et_cmp (fun h => o_eq h C.room) (eo_val (ev_bi (fun h => o_len h) rfl m_len bb_len (ea_cons (eo_own 3 rfl) ea_nil))) (eo_val (ev_gint rfl g_MOST_AHEAD))) (xs_one x_bad) xs_nil))))) (w1_of rfl rfl) (w2_of rfl)) (xs_one (x_freeze 3 rfl (by decide) (x_ret (ev_tup (ea_cons (eo_val (ev_var 3 rfl)) (ea_cons (eo_val (ev_ix (fun h => o_dix h C.room) (eo_own 2 rfl) (eo_val (ev_var 1 rfl)))) ea_nil))))))))
def s_lines_round : Stmt := top 35
theorem ex_lines_round {F : Fx} {base : Heap} (D_walked : FnD F base 7 "walked" false false r_walked) (D_all_next : FnD F base 5 "all_next" false false r_all_next) {f : Addr} {cdv : Value} {A : Around} {outer : List Env} {s : Shared} {H : Hp} {E : XK} (C : CtxS F base (cxOf (L2.CX F.P F.w) F.P F.w F.K F.mg base ["choir", "standing", "row", "first", "one"] "lines_round" (defScope s_lines_round) f cdv A outer s H E) E 7) :
    ExB F (cxOf (L2.CX F.P F.w) F.P F.w F.K F.mg base ["choir", "standing", "row", "first", "one"] "lines_round" (defScope s_lines_round) f cdv A outer s H E) E false 0 (G0 2 3) (defBody s_lines_round) m_lines_round [.va, .va, .va, .va, .un] :=
  (xs_cons (x_asg (ws := [2, 3]) (ev_call C.toCtx D_walked (by decide) rfl (ea_cons (eo_val (ev_var 0 rfl)) (ea_cons (eo_val (ev_var 1 rfl)) ea_nil))) (eg_tup C.calm (egs_cons (eg_name (i := 2) C.nd rfl (by first | exact .inl rfl | exact .inr rfl) (by decide)) (egs_cons (eg_name (i := 3) C.nd rfl (by first | exact .inl rfl | exact .inr rfl) (by decide)) egs_nil)) (glS (glS gl0)))) (xs_one (x_ret (ev_tup (ea_cons (eo_val (EvN.e (en_lc (own := [("one", 4)]) C.calm C.nd (ei_seq (ev_var 2 rfl)) (blkOk_by (by rfl)) (fun _ _ _ _ _ => (eg_name (i := 4) (Ctx.blk C.toCtx).nd rfl (by first | exact .inl rfl | exact .inr rfl) (by decide))) (fun _ _ _ _ _ => ets_nil) (fun _ _ _ _ _ => (ev_call (Ctx.blk C.toCtx) D_all_next (by decide) rfl (ea_cons (eo_val (ev_var 0 rfl)) (ea_cons (eo_val (ev_var 4 rfl)) ea_nil)))) (by decide)))) (ea_cons (eo_val (ev_var 3 rfl)) ea_nil))))))
def s_echo : Stmt := top 36
theorem ex_echo {F : Fx} {base : Heap} (D_need_both : FnD F base 7 "need_both" false false r_need_both) (D_need_name : FnD F base 2 "need_name" false false r_need_name) (D_lines_round : FnD F base 8 "lines_round" false false r_lines_round) (D_number_of : FnD F base 2 "number_of" false false r_number_of) (g_FARTHEST_ECHO : ∃ t, F.mg "FARTHEST_ECHO" = some (.int 20 t)) (m_range : F.mg "range" = none) (m_len : F.mg "len" = none) (m_all : F.mg "all" = none) {f : Addr} {cdv : Value} {A : Around} {outer : List Env} {s : Shared} {H : Hp} {E : XK} (C : CtxS F base (cxOf (L2.CX F.P F.w) F.P F.w F.K F.mg base ["choir", "standing", "name", "other", "rows", "first", "ring", "one", "two", "lines", "late", "at"] "echo" (defScope s_echo) f cdv A outer s H E) E 8) :
    ExB F (cxOf (L2.CX F.P F.w) F.P F.w F.K F.mg base ["choir", "standing", "name", "other", "rows", "first", "ring", "one", "two", "lines", "late", "at"] "echo" (defScope s_echo) f cdv A outer s H E) E false 0 (G0 4 8) (defBody s_echo) m_echo [.va, .va, .va, .va, .va, .va, .va, .va, .va, .un, .un, .un] :=
  (xs_cons (x_expr (ev_call C.toCtx D_need_both (by decide) rfl (ea_cons (eo_val (ev_var 0 rfl)) (ea_cons (eo_val (ev_var 1 rfl)) ea_nil)))) (xs_cons (x_expr (ev_call C.toCtx D_need_name (by decide) rfl (ea_cons (eo_val (ev_var 0 rfl)) (ea_cons (eo_val (ev_var 2 rfl)) ea_nil)))) (xs_cons (x_expr (ev_call C.toCtx D_need_name (by decide) rfl (ea_cons (eo_val (ev_var 0 rfl)) (ea_cons (eo_val (ev_var 3 rfl)) ea_nil)))) (xs_cons (x_asg (ws := [4, 5]) (ev_call C.toCtx D_lines_round (by decide) rfl (ea_cons (eo_val (ev_var 0 rfl)) (ea_cons (eo_val (ev_var 1 rfl)) ea_nil))) (eg_tup C.calm (egs_cons (eg_name (i := 4) C.nd rfl (by first | exact .inl rfl | exact .inr rfl) (by decide)) (egs_cons (eg_name (i := 5) C.nd rfl (by first | exact .inl rfl | exact .inr rfl) (by decide)) egs_nil)) (glS (glS gl0)))) (xs_cons (x_set (i := 6) C.nd rfl (locC rfl) (ev_sl (eo_val (ev_var 4 rfl)) (es_at (ev_var 5 rfl)) es_no) (by decide)) (xs_cons (x_asg (ws := [7, 8]) (ev_tup (ea_cons (eo_val (EvN.e (en_lc (own := [("lines", 9)]) C.calm C.nd (ei_seq (ev_var 6 rfl)) (blkOk_by (by rfl)) (fun _ _ _ _ _ => (eg_name (i := 9) (Ctx.blk C.toCtx).nd rfl (by first | exact .inl rfl | exact .inr rfl) (by decide))) (fun _ _ _ _ _ => ets_nil) (fun _ _ _ _ _ => (ev_ix (fun h => o_ix h) (eo_val (ev_var 9 rfl)) (eo_val (ev_call (Ctx.blk C.toCtx) D_number_of (by decide) rfl (ea_cons (eo_val (ev_var 0 rfl)) (ea_cons (eo_val (ev_var 2 rfl)) ea_nil)))))) (by decide)))) (ea_cons (eo_val (EvN.e (en_lc (own := [("lines", 9)]) C.calm C.nd (ei_seq (ev_var 6 rfl)) (blkOk_by (by rfl)) (fun _ _ _ _ _ => (eg_name (i := 9) (Ctx.blk C.toCtx).nd rfl (by first | exact .inl rfl | exact .inr rfl) (by decide))) (fun _ _ _ _ _ => ets_nil) (fun _ _ _ _ _ => (ev_ix (fun h => o_ix h) (eo_val (ev_var 9 rfl)) (eo_val (ev_call (Ctx.blk C.toCtx) D_number_of (by decide) rfl (ea_cons (eo_val (ev_var 0 rfl)) (ea_cons (eo_val (ev_var 3 rfl)) ea_nil)))))) (by decide)))) ea_nil))) (eg_tup C.calm (egs_cons (eg_name (i := 7) C.nd rfl (by first | exact .inl rfl | exact .inr rfl) (by decide)) (egs_cons (eg_name (i := 8) C.nd rfl (by first | exact .inl rfl | exact .inr rfl) (by decide)) egs_nil)) (glS (glS gl0)))) (xs_cons (x_for (Gl := [.va, .va, .va, .va, .va, .va, .va, .va, .va, .un, .un, .un]) (ws := [10]) C.own C.calm (ei_range1 rfl m_range (ea_cons (eo_val (ev_bin (fun h => o_add h) (eo_val (ev_gint rfl g_FARTHEST_ECHO)) (eo_val ev_int))) ea_nil)) (eg_name (i := 10) C.nd rfl (by first | exact .inl rfl | exact .inr rfl) (by decide)) (xs_one (x_if (et_val (ev_bi (fun h => o_all h C.calm) rfl m_all bb_all (ea_cons (eo_val (EvN.e (en_lc (own := [("at", 11)]) C.calm C.nd (ei_range1 rfl m_range (ea_cons (eo_val (ev_bi (fun h => o_len h) rfl m_len bb_len (ea_cons (eo_val (ev_var 6 rfl)) ea_nil))) ea_nil)) (blkOk_by (by rfl)) (fun _ _ _ _ _ => (eg_name (i := 11) (Ctx.blk C.toCtx).nd rfl (by first | exact .inl rfl | exact .inr rfl) (by decide))) (fun _ _ _ _ _ => ets_nil) (fun _ _ _ _ _ => (ev_cmp (fun h => o_eq h (Ctx.blk C.toCtx).room) (eo_val (ev_ix (fun h => o_ix h) (eo_val (ev_var 8 rfl)) (eo_val (ev_bin (fun h => o_mod h) (eo_val (ev_bin (fun h => o_add h) (eo_val (ev_var 11 rfl)) (eo_val (ev_var 10 rfl)))) (eo_val (ev_bi (fun h => o_len h) rfl m_len bb_len (ea_cons (eo_val (ev_var 6 rfl)) ea_nil))))))) (eo_val (ev_ix (fun h => o_ix h) (eo_val (ev_var 7 rfl)) (eo_val (ev_var 11 rfl)))))) (by decide)))) ea_nil))) (xs_one (x_ret (ev_var 10 rfl))) xs_nil)) (w1_of rfl rfl) (w2_of rfl)) (xs_one (x_ret ev_non)))))))))
def s__law_cell : Stmt := top 38
theorem ex__law_cell {F : Fx} {base : Heap} (m_len : F.mg "len" = none) {f : Addr} {cdv : Value} {A : Around} {outer : List Env} {s : Shared} {H : Hp} {E : XK} (C : CtxS F base (cxOf (L2.CX F.P F.w) F.P F.w F.K F.mg base ["_law_script", "_law_k"] "_law_cell" (defScope s__law_cell) f cdv A outer s H E) E 0) :
    ExB F (cxOf (L2.CX F.P F.w) F.P F.w F.K F.mg base ["_law_script", "_law_k"] "_law_cell" (defScope s__law_cell) f cdv A outer s H E) E false 0 (G0 2 0) (defBody s__law_cell) m__law_cell [.va, .va] :=
  (xs_cons (x_if (et_cmp (fun h => o_eq h C.room) (eo_val (ev_var 0 rfl)) (eo_val (EvN.e (en_lst ea_nil)))) (xs_one (x_ret (ev_bin (fun h => o_mul h) (eo_val (ev_var 1 rfl)) (eo_val ev_int)))) xs_nil) (xs_one (x_ret (ev_bin (fun h => o_add h) (eo_val (ev_ix (fun h => o_ix h) (eo_val (ev_var 0 rfl)) (eo_val (ev_bin (fun h => o_mod h) (eo_val (ev_var 1 rfl)) (eo_val (ev_bi (fun h => o_len h) rfl m_len bb_len (ea_cons (eo_val (ev_var 0 rfl)) ea_nil))))))) (eo_val (ev_bin (fun h => o_mul h) (eo_val (ev_bin (fun h => o_div h) (eo_val (ev_var 1 rfl)) (eo_val (ev_bi (fun h => o_len h) rfl m_len bb_len (ea_cons (eo_val (ev_var 0 rfl)) ea_nil))))) (eo_val ev_int)))))))
def s__law_drawn : Stmt := top 39
theorem ex__law_drawn {F : Fx} {base : Heap}  {f : Addr} {cdv : Value} {A : Around} {outer : List Env} {s : Shared} {H : Hp} {E : XK} (C : CtxS F base (cxOf (L2.CX F.P F.w) F.P F.w F.K F.mg base ["_law_cell_here", "_law_k", "_law_more"] "_law_drawn" (defScope s__law_drawn) f cdv A outer s H E) E 0) :
    ExB F (cxOf (L2.CX F.P F.w) F.P F.w F.K F.mg base ["_law_cell_here", "_law_k", "_law_more"] "_law_drawn" (defScope s__law_drawn) f cdv A outer s H E) E false 0 (G0 2 1) (defBody s__law_drawn) m__law_drawn [.va, .va, .va] :=
  (xs_cons (x_set (i := 2) C.nd rfl (locL rfl) (ev_bin (fun h => o_mod h) (eo_val (ev_bin (fun h => o_add h) (eo_val (ev_bin (fun h => o_mul h) (eo_val (ev_var 0 rfl)) (eo_val ev_int))) (eo_val (ev_bin (fun h => o_mul h) (eo_val (ev_bin (fun h => o_add h) (eo_val (ev_var 1 rfl)) (eo_val ev_int))) (eo_val ev_int))))) (eo_val ev_int)) (by decide)) (xs_cons (x_set (i := 2) C.nd rfl (locL rfl) (ev_bin (fun h => o_mod h) (eo_val (ev_bin (fun h => o_mul h) (eo_val (ev_var 2 rfl)) (eo_val (ev_var 2 rfl)))) (eo_val ev_int)) (by decide)) (xs_cons (x_set (i := 2) C.nd rfl (locL rfl) (ev_bin (fun h => o_mul h) (eo_val (ev_bin (fun h => o_mul h) (eo_val (ev_bin (fun h => o_add h) (eo_val (ev_bin (fun h => o_mod h) (eo_val (ev_var 2 rfl)) (eo_val ev_int))) (eo_val ev_int))) (eo_val (ev_bin (fun h => o_add h) (eo_val (ev_bin (fun h => o_div h) (eo_val (ev_var 2 rfl)) (eo_val ev_int))) (eo_val ev_int))))) (eo_val (ev_var 2 rfl))) (by decide)) (xs_one (x_ret (ev_bin (fun h => o_mod h) (eo_val (ev_var 2 rfl)) (eo_val ev_int)))))))
def s__law_roll : Stmt := top 40
theorem ex__law_roll {F : Fx} {base : Heap} (D__law_drawn : FnD F base 1 "_law_drawn" false false r__law_drawn) {f : Addr} {cdv : Value} {A : Around} {outer : List Env} {s : Shared} {H : Hp} {E : XK} (C : CtxS F base (cxOf (L2.CX F.P F.w) F.P F.w F.K F.mg base ["_law_dice", "_law_many", "_law_told"] "_law_roll" (defScope s__law_roll) f cdv A outer s H E) E 1) :
    ExB F (cxOf (L2.CX F.P F.w) F.P F.w F.K F.mg base ["_law_dice", "_law_many", "_law_told"] "_law_roll" (defScope s__law_roll) f cdv A outer s H E) E false 1 (G0I 1 1) (defBody s__law_roll) m__law_roll [.ow, .va, .un] :=
  (xs_cons (x_if (et_cmp (fun h => o_ge h) (eo_val (ev_ix (fun h => o_ix h) (eo_own 0 rfl) (eo_val ev_int))) (eo_val (ev_bin (fun h => o_pow h) (eo_val ev_int) (eo_val ev_int)))) (xs_cons (x_set (i := 2) C.nd rfl (locL rfl) (ev_bin (fun h => o_mod h) (eo_val (ev_ix (fun h => o_ix h) (eo_own 0 rfl) (eo_val ev_int))) (eo_val (ev_var 1 rfl))) (by decide)) (xs_cons (x_setit (i := 0) rfl (ev_bin (fun h => o_div h) (eo_val (ev_ix (fun h => o_ix h) (eo_own 0 rfl) (eo_val ev_int))) (eo_val (ev_var 1 rfl))) ev_int) (xs_one (x_ret (ev_var 2 rfl))))) xs_nil) (xs_cons (x_setit (i := 0) rfl (ev_bin (fun h => o_add h) (eo_val (ev_ix (fun h => o_ix h) (eo_own 0 rfl) (eo_val ev_int))) (eo_val ev_int)) ev_int) (xs_one (x_ret (ev_bin (fun h => o_mod h) (eo_val (ev_bin (fun h => o_div h) (eo_val (ev_call C.toCtx D__law_drawn (by decide) rfl (ea_cons (eo_val (ev_ix (fun h => o_ix h) (eo_own 0 rfl) (eo_val ev_int))) (ea_cons (eo_val (ev_ix (fun h => o_ix h) (eo_own 0 rfl) (eo_val ev_int))) ea_nil)))) (eo_val ev_int))) (eo_val (ev_var 1 rfl)))))))
def s__law_rounds : Stmt := top 41
def e__law_rounds : Expr := retOf s__law_rounds
theorem ex__law_rounds {F : Fx} {base : Heap} (m_len : F.mg "len" = none) (m_min : F.mg "min" = none) (m_max : F.mg "max" = none) (m_range : F.mg "range" = none) (D__law_cell : FnD F base 1 "_law_cell" false false r__law_cell) {f : Addr} {cdv : Value} {A : Around} {outer : List Env} {s : Shared} {H : Hp} {E : XK} (C : CtxS F base (cxOf (L2.CX F.P F.w) F.P F.w F.K F.mg base ["_law_script", "_law_high", "_law_k"] "_law_rounds" (defScope s__law_rounds) f cdv A outer s H E) E 1) :
    EvR F (cxOf (L2.CX F.P F.w) F.P F.w F.K F.mg base ["_law_script", "_law_high", "_law_k"] "_law_rounds" (defScope s__law_rounds) f cdv A outer s H E) E (G0 2 1) e__law_rounds m__law_rounds :=
  (er_lc (own := [("_law_k", 2)]) C.calm C.nd (ei_range1 rfl m_range (ea_cons (eo_val (ev_bi (fun h => o_max2 h C.calm) rfl m_max bb_max (ea_cons (eo_val ev_int) (ea_cons (eo_val (ev_bi (fun h => o_min2 h C.calm) rfl m_min bb_min (ea_cons (eo_val (ev_var 1 rfl)) (ea_cons (eo_val (ev_bi (fun h => o_len h) rfl m_len bb_len (ea_cons (eo_val (ev_var 0 rfl)) ea_nil))) ea_nil)))) ea_nil)))) ea_nil)) (blkOk_by (by rfl)) (fun _ _ _ _ _ => (eg_name (i := 2) (Ctx.blk C.toCtx).nd rfl (by first | exact .inl rfl | exact .inr rfl) (by decide))) (fun _ _ _ _ _ => ets_nil) (fun _ _ _ _ _ => (en_lst (ea_cons (eo_val (ev_call (Ctx.blk C.toCtx) D__law_cell (by decide) rfl (ea_cons (eo_val (ev_var 0 rfl)) (ea_cons (eo_val (ev_var 2 rfl)) ea_nil)))) (ea_cons (eo_val ev_int) ea_nil)))) (by decide))
def s__law_any_singers : Stmt := top 42
theorem ex__law_any_singers {F : Fx} {base : Heap} (D__law_roll : FnD F base 2 "_law_roll" true false r__law_roll) (m_range : F.mg "range" = none) (m_len : F.mg "len" = none) (m_tuple : F.mg "tuple" = none) (m_sorted : F.mg "sorted" = none) {f : Addr} {cdv : Value} {A : Around} {outer : List Env} {s : Shared} {H : Hp} {E : XK} (C : CtxS F base (cxOf (L2.CX F.P F.w) F.P F.w F.K F.mg base ["_law_dice", "_law_many", "_law_crew_here", "_law_found", "_law_name", "_law_ears", "_law_turn", "_law_ear", "_law_size", "_law_place"] "_law_any_singers" (defScope s__law_any_singers) f cdv A outer s H E) E 2) :
    ExB F (cxOf (L2.CX F.P F.w) F.P F.w F.K F.mg base ["_law_dice", "_law_many", "_law_crew_here", "_law_found", "_law_name", "_law_ears", "_law_turn", "_law_ear", "_law_size", "_law_place"] "_law_any_singers" (defScope s__law_any_singers) f cdv A outer s H E) E false 1 (G0I 2 7) (defBody s__law_any_singers) m__law_any_singers [.ow, .va, .va, .ow, .un, .un, .un, .un, .un, .un] :=
  (xs_cons (x_setN (i := 3) C.nd rfl (locL rfl) (en_lst ea_nil) (by decide)) (xs_cons (x_for (Gl := [.ow, .va, .va, .ow, .un, .un, .un, .un, .un, .un]) (ws := [4]) C.own C.calm (ei_seq (ev_var 2 rfl)) (eg_name (i := 4) C.nd rfl (by first | exact .inl rfl | exact .inr rfl) (by decide)) (xs_cons (x_setN (i := 5) C.nd rfl (locL rfl) (en_lst ea_nil) (by decide)) (xs_cons (x_for (Gl := [.ow, .va, .va, .ow, .va, .ow, .un, .un, .un, .un]) (ws := [6]) C.own C.calm (ei_range1 rfl m_range (ea_cons (eo_val (ev_callI (i := 0) C.toCtx D__law_roll (by decide) rfl rfl (ea_cons (eo_val ev_int) ea_nil))) ea_nil)) (eg_name (i := 6) C.nd rfl (by first | exact .inl rfl | exact .inr rfl) (by decide)) (xs_cons (x_set (i := 7) C.nd rfl (locL rfl) (ev_tup (ea_cons (eo_val (ev_ix (fun h => o_ix h) (eo_val (ev_var 2 rfl)) (eo_val (ev_callI (i := 0) C.toCtx D__law_roll (by decide) rfl rfl (ea_cons (eo_val (ev_bi (fun h => o_len h) rfl m_len bb_len (ea_cons (eo_val (ev_var 2 rfl)) ea_nil))) ea_nil))))) (ea_cons (eo_val (ev_bin (fun h => o_add h) (eo_val ev_int) (eo_val (ev_callI (i := 0) C.toCtx D__law_roll (by decide) rfl rfl (ea_cons (eo_val ev_int) ea_nil))))) ea_nil))) (by decide)) (xs_one (x_if (et_cmp (fun h => o_notin h C.room) (eo_val (ev_var 7 rfl)) (eo_own 5 rfl)) (xs_one (x_expr (ev_append (i := 5) rfl (ev_var 7 rfl)))) xs_nil))) (w1_of rfl rfl) (w2_of rfl)) (xs_cons (x_set (i := 8) C.nd rfl (locL rfl) (ev_ix (fun h => o_ix h) (eo_val (EvN.e (en_lst (ea_cons (eo_val ev_int) (ea_cons (eo_val (ev_var 1 rfl)) (ea_cons (eo_val (ev_bin (fun h => o_mul h) (eo_val (ev_var 1 rfl)) (eo_val (ev_var 1 rfl)))) ea_nil)))))) (eo_val (ev_bi (fun h => o_len h) rfl m_len bb_len (ea_cons (eo_own 5 rfl) ea_nil)))) (by decide)) (xs_one (x_expr (ev_append (i := 3) rfl (ev_tup (ea_cons (eo_val (ev_var 4 rfl)) (ea_cons (eo_val (ev_ty (fun h => o_tuple h) rfl m_tuple bb_tuple (ea_cons (eo_val (ev_bi (fun h => o_sorted h C.room) rfl m_sorted bb_sorted (ea_cons (eo_own 5 rfl) ea_nil))) ea_nil))) (ea_cons (eo_val (ev_ty (fun h => o_tuple h) rfl m_tuple bb_tuple (ea_cons (eo_val (EvN.e (en_lc (own := [("_law_place", 9)]) C.calm C.nd (ei_range1 rfl m_range (ea_cons (eo_val (ev_var 8 rfl)) ea_nil)) (blkOk_by (by rfl)) (fun _ _ _ _ _ => (eg_name (i := 9) (Ctx.blk C.toCtx).nd rfl (by first | exact .inl rfl | exact .inr rfl) (by decide))) (fun _ _ _ _ _ => ets_nil) (fun _ _ _ _ _ => (ev_callI (i := 0) (Ctx.blk C.toCtx) D__law_roll (by decide) rfl rfl (ea_cons (eo_val (ev_var 1 rfl)) ea_nil))) (by decide)))) ea_nil))) ea_nil)))))))))) (w1_of rfl rfl) (w2_of rfl)) (xs_one (x_ret (ev_ty (fun h => o_tuple h) rfl m_tuple bb_tuple (ea_cons (eo_own 3 rfl) ea_nil))))))
def s__law_any_choir : Stmt := top 43
theorem ex__law_any_choir {F : Fx} {base : Heap} (D__law_roll : FnD F base 2 "_law_roll" true false r__law_roll) (D__law_any_singers : FnD F base 3 "_law_any_singers" true false r__law_any_singers) {f : Addr} {cdv : Value} {A : Around} {outer : List Env} {s : Shared} {H : Hp} {E : XK} (C : CtxS F base (cxOf (L2.CX F.P F.w) F.P F.w F.K F.mg base ["_law_dice", "_law_act", "_law_many", "_law_size"] "_law_any_choir" (defScope s__law_any_choir) f cdv A outer s H E) E 3) :
    ExB F (cxOf (L2.CX F.P F.w) F.P F.w F.K F.mg base ["_law_dice", "_law_act", "_law_many", "_law_size"] "_law_any_choir" (defScope s__law_any_choir) f cdv A outer s H E) E false 1 (G0I 0 3) (defBody s__law_any_choir) m__law_any_choir [.ow, .va, .va, .va] :=
  (xs_cons (x_set (i := 1) C.nd rfl (locL rfl) (ev_callI (i := 0) C.toCtx D__law_roll (by decide) rfl rfl (ea_cons (eo_val ev_int) ea_nil)) (by decide)) (xs_cons (x_asg (ws := [2, 3]) (ev_ix (fun h => o_ix h) (eo_val (EvN.e (en_lst (ea_cons (eo_val (ev_tup (ea_cons (eo_val ev_int) (ea_cons (eo_val ev_int) ea_nil)))) (ea_cons (eo_val (ev_tup (ea_cons (eo_val ev_int) (ea_cons (eo_val ev_int) ea_nil)))) (ea_cons (eo_val (ev_tup (ea_cons (eo_val ev_int) (ea_cons (eo_val ev_int) ea_nil)))) (ea_cons (eo_val (ev_tup (ea_cons (eo_val ev_int) (ea_cons (eo_val ev_int) ea_nil)))) (ea_cons (eo_val (ev_tup (ea_cons (eo_val ev_int) (ea_cons (eo_val ev_int) ea_nil)))) (ea_cons (eo_val (ev_tup (ea_cons (eo_val ev_int) (ea_cons (eo_val ev_int) ea_nil)))) ea_nil))))))))) (eo_val (ev_var 1 rfl))) (eg_tup C.calm (egs_cons (eg_name (i := 2) C.nd rfl (by first | exact .inl rfl | exact .inr rfl) (by decide)) (egs_cons (eg_name (i := 3) C.nd rfl (by first | exact .inl rfl | exact .inr rfl) (by decide)) egs_nil)) (glS (glS gl0)))) (xs_one (x_ret (ev_tup (ea_cons (eo_val (ev_var 2 rfl)) (ea_cons (eo_val (ev_callI (i := 0) C.toCtx D__law_any_singers (by decide) rfl rfl (ea_cons (eo_val (ev_var 2 rfl)) (ea_cons (eo_val (ev_sl (eo_val (EvN.e (en_lst (ea_cons (eo_val ev_str) (ea_cons (eo_val ev_str) (ea_cons (eo_val ev_str) ea_nil)))))) es_no (es_at (ev_var 3 rfl)))) ea_nil)))) ea_nil)))))))
def s__law_any_standing : Stmt := top 44
theorem ex__law_any_standing {F : Fx} {base : Heap} (m_range : F.mg "range" = none) (D__law_roll : FnD F base 2 "_law_roll" true false r__law_roll) (m_tuple : F.mg "tuple" = none) {f : Addr} {cdv : Value} {A : Around} {outer : List Env} {s : Shared} {H : Hp} {E : XK} (C : CtxS F base (cxOf (L2.CX F.P F.w) F.P F.w F.K F.mg base ["_law_dice", "_law_choir", "_law_found", "_law_singer", "_law_turn"] "_law_any_standing" (defScope s__law_any_standing) f cdv A outer s H E) E 2) :
    ExB F (cxOf (L2.CX F.P F.w) F.P F.w F.K F.mg base ["_law_dice", "_law_choir", "_law_found", "_law_singer", "_law_turn"] "_law_any_standing" (defScope s__law_any_standing) f cdv A outer s H E) E false 1 (G0I 1 3) (defBody s__law_any_standing) m__law_any_standing [.ow, .va, .ow, .un, .un] :=
  (xs_cons (x_setN (i := 2) C.nd rfl (locL rfl) (en_lst ea_nil) (by decide)) (xs_cons (x_for (Gl := [.ow, .va, .ow, .un, .un]) (ws := [3]) C.own C.calm (ei_seq (ev_ix (fun h => o_ix h) (eo_val (ev_var 1 rfl)) (eo_val ev_int))) (eg_name (i := 3) C.nd rfl (by first | exact .inl rfl | exact .inr rfl) (by decide)) (xs_one (x_expr (ev_append (i := 2) rfl (ev_ty (fun h => o_tuple h) rfl m_tuple bb_tuple (ea_cons (eo_val (EvN.e (en_lc (own := [("_law_turn", 4)]) C.calm C.nd (ei_range1 rfl m_range (ea_cons (eo_val ev_int) ea_nil)) (blkOk_by (by rfl)) (fun _ _ _ _ _ => (eg_name (i := 4) (Ctx.blk C.toCtx).nd rfl (by first | exact .inl rfl | exact .inr rfl) (by decide))) (fun _ _ _ _ _ => ets_nil) (fun _ _ _ _ _ => (ev_callI (i := 0) (Ctx.blk C.toCtx) D__law_roll (by decide) rfl rfl (ea_cons (eo_val (ev_ix (fun h => o_ix h) (eo_val (ev_var 1 rfl)) (eo_val ev_int))) ea_nil))) (by decide)))) ea_nil))))) (w1_of rfl rfl) (w2_of rfl)) (xs_one (x_ret (ev_ty (fun h => o_tuple h) rfl m_tuple bb_tuple (ea_cons (eo_own 2 rfl) ea_nil))))))
def s__law_crew : Stmt := top 45
theorem ex__law_crew {F : Fx} {base : Heap}  {f : Addr} {cdv : Value} {A : Around} {outer : List Env} {s : Shared} {H : Hp} {E : XK} (C : CtxS F base (cxOf (L2.CX F.P F.w) F.P F.w F.K F.mg base ["_law_choir", "_law_singer"] "_law_crew" (defScope s__law_crew) f cdv A outer s H E) E 0) :
    ExB F (cxOf (L2.CX F.P F.w) F.P F.w F.K F.mg base ["_law_choir", "_law_singer"] "_law_crew" (defScope s__law_crew) f cdv A outer s H E) E false 0 (G0 1 1) (defBody s__law_crew) m__law_crew [.va, .un] :=
  (xs_one (x_ret (EvN.e (en_lc (own := [("_law_singer", 1)]) C.calm C.nd (ei_seq (ev_ix (fun h => o_ix h) (eo_val (ev_var 0 rfl)) (eo_val ev_int))) (blkOk_by (by rfl)) (fun _ _ _ _ _ => (eg_name (i := 1) (Ctx.blk C.toCtx).nd rfl (by first | exact .inl rfl | exact .inr rfl) (by decide))) (fun _ _ _ _ _ => ets_nil) (fun _ _ _ _ _ => (ev_ix (fun h => o_ix h) (eo_val (ev_var 1 rfl)) (eo_val ev_int))) (by decide)))))
def s__law_heard : Stmt := top 46
theorem ex__law_heard {F : Fx} {base : Heap} (D__law_crew : FnD F base 1 "_law_crew" false false r__law_crew) {f : Addr} {cdv : Value} {A : Around} {outer : List Env} {s : Shared} {H : Hp} {E : XK} (C : CtxS F base (cxOf (L2.CX F.P F.w) F.P F.w F.K F.mg base ["_law_choir", "_law_history_here", "_law_ears", "_law_beat", "_law_crew_here", "_law_name", "_law_ago"] "_law_heard" (defScope s__law_heard) f cdv A outer s H E) E 1) :
    ExB F (cxOf (L2.CX F.P F.w) F.P F.w F.K F.mg base ["_law_choir", "_law_history_here", "_law_ears", "_law_beat", "_law_crew_here", "_law_name", "_law_ago"] "_law_heard" (defScope s__law_heard) f cdv A outer s H E) E false 0 (G0 4 3) (defBody s__law_heard) m__law_heard [.va, .va, .va, .va, .va, .un, .un] :=
  (xs_cons (x_set (i := 4) C.nd rfl (locC rfl) (ev_call C.toCtx D__law_crew (by decide) rfl (ea_cons (eo_val (ev_var 0 rfl)) ea_nil)) (by decide)) (xs_one (x_ret (EvN.e (en_lc (own := [("_law_name", 5), ("_law_ago", 6)]) C.calm C.nd (ei_seq (ev_var 2 rfl)) (blkOk_by (by rfl)) (fun _ _ _ _ _ => (eg_tup (Ctx.blk C.toCtx).calm (egs_cons (eg_name (i := 5) (Ctx.blk C.toCtx).nd rfl (by first | exact .inl rfl | exact .inr rfl) (by decide)) (egs_cons (eg_name (i := 6) (Ctx.blk C.toCtx).nd rfl (by first | exact .inl rfl | exact .inr rfl) (by decide)) egs_nil)) (glS (glS gl0)))) (fun _ _ _ _ _ => ets_nil) (fun _ _ _ _ _ => (ev_ix (fun h => o_ix h) (eo_val (ev_ix (fun h => o_ix h) (eo_val (ev_var 1 rfl)) (eo_val (ev_bin (fun h => o_sub h) (eo_val (ev_bin (fun h => o_add h) (eo_val (ev_var 3 rfl)) (eo_val ev_int))) (eo_val (ev_var 6 rfl)))))) (eo_val (ev_index (Ctx.blk C.toCtx).room (eo_val (ev_var 4 rfl)) (eo_val (ev_var 5 rfl)))))) (by decide))))))
def s__law_history : Stmt := top 47
theorem ex__law_history {F : Fx} {base : Heap} (m_range : F.mg "range" = none) (m_tuple : F.mg "tuple" = none) {f : Addr} {cdv : Value} {A : Around} {outer : List Env} {s : Shared} {H : Hp} {E : XK} (C : CtxS F base (cxOf (L2.CX F.P F.w) F.P F.w F.K F.mg base ["_law_standing", "_law_at", "_law_row"] "_law_history" (defScope s__law_history) f cdv A outer s H E) E 0) :
    ExB F (cxOf (L2.CX F.P F.w) F.P F.w F.K F.mg base ["_law_standing", "_law_at", "_law_row"] "_law_history" (defScope s__law_history) f cdv A outer s H E) E true 0 (G0 1 2) (defBody s__law_history) m__law_history [.va, .un, .un] :=
  (xs_one (x_retN (en_lc (own := [("_law_at", 1)]) C.calm C.nd (ei_range1 rfl m_range (ea_cons (eo_val ev_int) ea_nil)) (blkOk_by (by rfl)) (fun _ _ _ _ _ => (eg_name (i := 1) (Ctx.blk C.toCtx).nd rfl (by first | exact .inl rfl | exact .inr rfl) (by decide))) (fun _ _ _ _ _ => ets_nil) (fun _ _ _ _ _ => (ev_ty (fun h => o_tuple h) rfl m_tuple bb_tuple (ea_cons (eo_val (EvN.e (en_lc (own := [("_law_row", 2)]) (Ctx.blk C.toCtx).calm (Ctx.blk C.toCtx).nd (ei_seq (ev_var 0 rfl)) (blkOk_by (by rfl)) (fun _ _ _ _ _ => (eg_name (i := 2) (Ctx.blk (Ctx.blk C.toCtx)).nd rfl (by first | exact .inl rfl | exact .inr rfl) (by decide))) (fun _ _ _ _ _ => ets_nil) (fun _ _ _ _ _ => (ev_ix (fun h => o_ix h) (eo_val (ev_var 2 rfl)) (eo_val (ev_var 1 rfl)))) (by decide)))) ea_nil))) (by decide))))
def s__law_tells : Stmt := top 48
theorem ex__law_tells {F : Fx} {base : Heap} (D__law_heard : FnD F base 2 "_law_heard" false false r__law_heard) {f : Addr} {cdv : Value} {A : Around} {outer : List Env} {s : Shared} {H : Hp} {E : XK} (C : CtxS F base (cxOf (L2.CX F.P F.w) F.P F.w F.K F.mg base ["_law_choir", "_law_singer", "_law_history_here", "_law_beat", "_law_place", "_law_line"] "_law_tells" (defScope s__law_tells) f cdv A outer s H E) E 2) :
    ExB F (cxOf (L2.CX F.P F.w) F.P F.w F.K F.mg base ["_law_choir", "_law_singer", "_law_history_here", "_law_beat", "_law_place", "_law_line"] "_law_tells" (defScope s__law_tells) f cdv A outer s H E) E false 0 (G0 4 2) (defBody s__law_tells) m__law_tells [.va, .va, .va, .va, .va, .un] :=
  (xs_cons (x_set (i := 4) C.nd rfl (locL rfl) ev_int (by decide)) (xs_cons (x_for (Gl := [.va, .va, .va, .va, .va, .un]) (ws := [5]) C.own C.calm (ei_seq (ev_call C.toCtx D__law_heard (by decide) rfl (ea_cons (eo_val (ev_var 0 rfl)) (ea_cons (eo_val (ev_var 2 rfl)) (ea_cons (eo_val (ev_ix (fun h => o_ix h) (eo_val (ev_var 1 rfl)) (eo_val ev_int))) (ea_cons (eo_val (ev_var 3 rfl)) ea_nil)))))) (eg_name (i := 5) C.nd rfl (by first | exact .inl rfl | exact .inr rfl) (by decide)) (xs_one (x_set (i := 4) C.nd rfl (locL rfl) (ev_bin (fun h => o_add h) (eo_val (ev_bin (fun h => o_mul h) (eo_val (ev_var 4 rfl)) (eo_val (ev_ix (fun h => o_ix h) (eo_val (ev_var 0 rfl)) (eo_val ev_int))))) (eo_val (ev_var 5 rfl))) (by decide))) (w1_of rfl rfl) (w2_of rfl)) (xs_one (x_ret (ev_ix (fun h => o_ix h) (eo_val (ev_ix (fun h => o_ix h) (eo_val (ev_var 1 rfl)) (eo_val ev_int))) (eo_val (ev_var 4 rfl)))))))
def s__law_sung : Stmt := top 49
theorem ex__law_sung {F : Fx} {base : Heap} (D__law_history : FnD F base 1 "_law_history" false true r__law_history) (m_range : F.mg "range" = none) (D__law_tells : FnD F base 3 "_law_tells" false false r__law_tells) (m_tuple : F.mg "tuple" = none) {f : Addr} {cdv : Value} {A : Around} {outer : List Env} {s : Shared} {H : Hp} {E : XK} (C : CtxS F base (cxOf (L2.CX F.P F.w) F.P F.w F.K F.mg base ["_law_choir", "_law_standing", "_law_leads", "_law_beats", "_law_history_here", "_law_beat", "_law_row", "_law_singer", "_law_own"] "_law_sung" (defScope s__law_sung) f cdv A outer s H E) E 3) :
    ExB F (cxOf (L2.CX F.P F.w) F.P F.w F.K F.mg base ["_law_choir", "_law_standing", "_law_leads", "_law_beats", "_law_history_here", "_law_beat", "_law_row", "_law_singer", "_law_own"] "_law_sung" (defScope s__law_sung) f cdv A outer s H E) E false 0 (G0 4 5) (defBody s__law_sung) m__law_sung [.va, .va, .va, .va, .ow, .un, .un, .un, .un] :=
  (xs_cons (x_setN (i := 4) C.nd rfl (locL rfl) (en_call C.toCtx D__law_history (by decide) rfl (ea_cons (eo_val (ev_var 1 rfl)) ea_nil)) (by decide)) (xs_cons (x_for (Gl := [.va, .va, .va, .va, .ow, .un, .un, .un, .un]) (ws := [5]) C.own C.calm (ei_range1 rfl m_range (ea_cons (eo_val (ev_var 3 rfl)) ea_nil)) (eg_name (i := 5) C.nd rfl (by first | exact .inl rfl | exact .inr rfl) (by decide)) (xs_cons (x_setN (i := 6) C.nd rfl (locL rfl) (en_lst ea_nil) (by decide)) (xs_cons (x_for (Gl := [.va, .va, .va, .va, .ow, .va, .ow, .un, .un]) (ws := [7]) C.own C.calm (ei_seq (ev_ix (fun h => o_ix h) (eo_val (ev_var 0 rfl)) (eo_val ev_int))) (eg_name (i := 7) C.nd rfl (by first | exact .inl rfl | exact .inr rfl) (by decide)) (xs_cons (x_set (i := 8) C.nd rfl (locL rfl) (ev_dget C.room (eo_val (ev_var 2 rfl)) (eo_val (ev_tup (ea_cons (eo_val (ev_var 5 rfl)) (ea_cons (eo_val (ev_ix (fun h => o_ix h) (eo_val (ev_var 7 rfl)) (eo_val ev_int))) ea_nil))))) (by decide)) (xs_one (x_expr (ev_append (i := 6) rfl (ev_if (et_cmp (fun h => o_is h) (eo_val (ev_var 8 rfl)) (eo_val ev_non)) (ev_call C.toCtx D__law_tells (by decide) rfl (ea_cons (eo_val (ev_var 0 rfl)) (ea_cons (eo_val (ev_var 7 rfl)) (ea_cons (eo_own 4 rfl) (ea_cons (eo_val (ev_var 5 rfl)) ea_nil))))) (ev_var 8 rfl)))))) (w1_of rfl rfl) (w2_of rfl)) (xs_one (x_expr (ev_append (i := 4) rfl (ev_ty (fun h => o_tuple h) rfl m_tuple bb_tuple (ea_cons (eo_own 6 rfl) ea_nil))))))) (w1_of rfl rfl) (w2_of rfl)) (xs_one (x_ret (ev_sl (eo_own 4 rfl) (es_at ev_int) es_no)))))
def s__law_stand_behind : Stmt := top 50
theorem ex__law_stand_behind {F : Fx} {base : Heap} (D__law_history : FnD F base 1 "_law_history" false true r__law_history) (m_len : F.mg "len" = none) (m_range : F.mg "range" = none) (m_tuple : F.mg "tuple" = none) {f : Addr} {cdv : Value} {A : Around} {outer : List Env} {s : Shared} {H : Hp} {E : XK} (C : CtxS F base (cxOf (L2.CX F.P F.w) F.P F.w F.K F.mg base ["_law_standing", "_law_rows", "_law_last", "_law_at", "_law_row"] "_law_stand_behind" (defScope s__law_stand_behind) f cdv A outer s H E) E 1) :
    ExB F (cxOf (L2.CX F.P F.w) F.P F.w F.K F.mg base ["_law_standing", "_law_rows", "_law_last", "_law_at", "_law_row"] "_law_stand_behind" (defScope s__law_stand_behind) f cdv A outer s H E) E false 0 (G0 2 3) (defBody s__law_stand_behind) m__law_stand_behind [.va, .va, .va, .un, .un] :=
  (xs_cons (x_set (i := 2) C.nd rfl (locC rfl) (ev_sl (eo_val (ev_bin (fun h => o_add h) (eo_val (EvN.e (en_call C.toCtx D__law_history (by decide) rfl (ea_cons (eo_val (ev_var 0 rfl)) ea_nil)))) (eo_val (ev_var 1 rfl)))) (es_at (ev_un (fun h => o_neg h) (eo_val ev_int))) es_no) (by decide)) (xs_one (x_ret (ev_ty (fun h => o_tuple h) rfl m_tuple bb_tuple (ea_cons (eo_val (EvN.e (en_lc (own := [("_law_at", 3)]) C.calm C.nd (ei_range1 rfl m_range (ea_cons (eo_val (ev_bi (fun h => o_len h) rfl m_len bb_len (ea_cons (eo_val (ev_var 0 rfl)) ea_nil))) ea_nil)) (blkOk_by (by rfl)) (fun _ _ _ _ _ => (eg_name (i := 3) (Ctx.blk C.toCtx).nd rfl (by first | exact .inl rfl | exact .inr rfl) (by decide))) (fun _ _ _ _ _ => ets_nil) (fun _ _ _ _ _ => (ev_ty (fun h => o_tuple h) rfl m_tuple bb_tuple (ea_cons (eo_val (EvN.e (en_lc (own := [("_law_row", 4)]) (Ctx.blk C.toCtx).calm (Ctx.blk C.toCtx).nd (ei_seq (ev_var 2 rfl)) (blkOk_by (by rfl)) (fun _ _ _ _ _ => (eg_name (i := 4) (Ctx.blk (Ctx.blk C.toCtx)).nd rfl (by first | exact .inl rfl | exact .inr rfl) (by decide))) (fun _ _ _ _ _ => ets_nil) (fun _ _ _ _ _ => (ev_ix (fun h => o_ix h) (eo_val (ev_var 4 rfl)) (eo_val (ev_var 3 rfl)))) (by decide)))) ea_nil))) (by decide)))) ea_nil)))))
def s__law_ring : Stmt := top 51
theorem ex__law_ring {F : Fx} {base : Heap} (m_len : F.mg "len" = none) (D__law_sung : FnD F base 4 "_law_sung" false false r__law_sung) (D__law_stand_behind : FnD F base 2 "_law_stand_behind" false false r__law_stand_behind) {f : Addr} {cdv : Value} {A : Around} {outer : List Env} {s : Shared} {H : Hp} {E : XK} (C : CtxS F base (cxOf (L2.CX F.P F.w) F.P F.w F.K F.mg base ["_law_choir", "_law_standing", "_law_known", "_law_rows", "_law_here"] "_law_ring" (defScope s__law_ring) f cdv A outer s H E) E 4) :
    ExB F (cxOf (L2.CX F.P F.w) F.P F.w F.K F.mg base ["_law_choir", "_law_standing", "_law_known", "_law_rows", "_law_here"] "_law_ring" (defScope s__law_ring) f cdv A outer s H E) E false 0 (G0 2 3) (defBody s__law_ring) m__law_ring [.va, .va, .ow, .va, .va] :=
  (xs_cons (x_par3 (i := 2) (j := 3) (l := 4) C.calm C.nd rfl rfl rfl (by decide) (by decide) (by decide) (by decide) rfl rfl rfl (ep_ow en_dct0 (ep_va (EvN.e (en_lst ea_nil)) (ep_va (ev_var 1 rfl) ep_nil))) rfl) (xs_cons (x_while (Gl := [.va, .va, .ow, .va, .va]) C.own (et_cmp (fun h => o_dnotin h C.room) (eo_val (ev_var 4 rfl)) (eo_own 2 rfl)) (xs_cons (x_dset (i := 2) C.room rfl (ev_bi (fun h => o_len h) rfl m_len bb_len (ea_cons (eo_val (ev_var 3 rfl)) ea_nil)) (ev_var 4 rfl)) (xs_cons (x_set (i := 3) C.nd rfl (locL rfl) (ev_bin (fun h => o_add h) (eo_val (ev_var 3 rfl)) (eo_val (ev_call C.toCtx D__law_sung (by decide) rfl (ea_cons (eo_val (ev_var 0 rfl)) (ea_cons (eo_val (ev_var 4 rfl)) (ea_cons (eo_val (EvN.e en_dct0)) (ea_cons (eo_val ev_int) ea_nil))))))) (by decide)) (xs_one (x_set (i := 4) C.nd rfl (locL rfl) (ev_call C.toCtx D__law_stand_behind (by decide) rfl (ea_cons (eo_val (ev_var 4 rfl)) (ea_cons (eo_val (ev_sl (eo_val (ev_var 3 rfl)) (es_at (ev_un (fun h => o_neg h) (eo_val ev_int))) es_no)) ea_nil))) (by decide))))) (w1_of rfl rfl) (w2_of rfl)) (xs_one (x_ret (ev_tup (ea_cons (eo_val (ev_ix (fun h => o_dix h C.room) (eo_own 2 rfl) (eo_val (ev_var 4 rfl)))) (ea_cons (eo_val (ev_bin (fun h => o_sub h) (eo_val (ev_bi (fun h => o_len h) rfl m_len bb_len (ea_cons (eo_val (ev_var 3 rfl)) ea_nil))) (eo_val (ev_ix (fun h => o_dix h C.room) (eo_own 2 rfl) (eo_val (ev_var 4 rfl)))))) (ea_cons (eo_val (ev_var 3 rfl)) ea_nil))))))))
def s_law : Stmt := top 52
theorem ex_law {F : Fx} {base : Heap} (D__law_any_choir : FnD F base 4 "_law_any_choir" true false r__law_any_choir) (D__law_crew : FnD F base 1 "_law_crew" false false r__law_crew) (D__law_roll : FnD F base 2 "_law_roll" true false r__law_roll) (m_len : F.mg "len" = none) (m_list : F.mg "list" = none) (m_range : F.mg "range" = none) (m_tuple : F.mg "tuple" = none) (D__law_any_standing : FnD F base 3 "_law_any_standing" true false r__law_any_standing) (D__law_ring : FnD F base 5 "_law_ring" false false r__law_ring) (m_enumerate : F.mg "enumerate" = none) (D_echo : FnD F base 9 "echo" false false r_echo) (D__law_rounds : FnRd F base 2 "_law_rounds" r__law_rounds) {f : Addr} {cdv : Value} {A : Around} {outer : List Env} {s : Shared} {H : Hp} {E : XK} (C : CtxS F base (cxOf (L2.CX F.P F.w) F.P F.w F.K F.mg base ["_law_script", "_law_dice", "_law_choir", "_law_crew_here", "_law_name", "_law_ago", "_law_parrot", "_law_standing", "_law_first", "_law_long", "_law_rows", "_law_ring_here", "_law_one", "_law_two", "_law_other", "_law_due", "_law_late", "_law_ahead", "_law_lines"] "law" (defScope s_law) f cdv A outer s H E) E 9) :
    ExB F (cxOf (L2.CX F.P F.w) F.P F.w F.K F.mg base ["_law_script", "_law_dice", "_law_choir", "_law_crew_here", "_law_name", "_law_ago", "_law_parrot", "_law_standing", "_law_first", "_law_long", "_law_rows", "_law_ring_here", "_law_one", "_law_two", "_law_other", "_law_due", "_law_late", "_law_ahead", "_law_lines"] "law" (defScope s_law) f cdv A outer s H E) E false 0 (G0 1 18) (defBody s_law) m_law [.va, .un, .un, .un, .un, .un, .un, .un, .un, .un, .un, .un, .un, .un, .un, .un, .un, .un, .un] :=
  (xs_cons (x_forO (i := 1) (GL := [.va, .un, .un, .un, .un, .un, .un, .un, .un, .un, .un, .un, .un, .un, .un, .un, .un, .un, .un]) C D__law_rounds (by decide) rfl (ea_cons (eo_val (ev_var 0 rfl)) (ea_cons (eo_val ev_int) ea_nil)) rfl (locL rfl) (xs_cons (x_set (i := 2) C.nd rfl (locC rfl) (ev_callI (i := 1) C.toCtx D__law_any_choir (by decide) rfl rfl ea_nil) (by decide)) (xs_cons (x_set (i := 3) C.nd rfl (locL rfl) (ev_call C.toCtx D__law_crew (by decide) rfl (ea_cons (eo_val (ev_var 2 rfl)) ea_nil)) (by decide)) (xs_cons (x_if (et_cmp (fun h => o_eq h C.room) (eo_val (ev_callI (i := 1) C.toCtx D__law_roll (by decide) rfl rfl (ea_cons (eo_val ev_int) ea_nil))) (eo_val ev_int)) (b_weak (xs_cons (x_par2 (i := 4) (j := 5) C.calm C.nd rfl rfl (by decide) (by decide) rfl rfl (ep_va (ev_ix (fun h => o_ix h) (eo_val (ev_var 3 rfl)) (eo_val (ev_callI (i := 1) C.toCtx D__law_roll (by decide) rfl rfl (ea_cons (eo_val (ev_bi (fun h => o_len h) rfl m_len bb_len (ea_cons (eo_val (ev_var 3 rfl)) ea_nil))) ea_nil)))) (ep_va (ev_bin (fun h => o_add h) (eo_val ev_int) (eo_val (ev_callI (i := 1) C.toCtx D__law_roll (by decide) rfl rfl (ea_cons (eo_val ev_int) ea_nil)))) ep_nil)) rfl) (xs_cons (x_set (i := 6) C.nd rfl (locL rfl) (ev_tup (ea_cons (eo_val ev_str) (ea_cons (eo_val (ev_tup (ea_cons (eo_val (ev_tup (ea_cons (eo_val (ev_var 4 rfl)) (ea_cons (eo_val (ev_var 5 rfl)) ea_nil)))) ea_nil))) (ea_cons (eo_val (ev_ty (fun h => o_tuple h) rfl m_tuple bb_tuple (ea_cons (eo_val (EvN.e (en_listrg C.calm rfl m_list rfl m_range (ev_ix (fun h => o_ix h) (eo_val (ev_var 2 rfl)) (eo_val ev_int))))) ea_nil))) ea_nil)))) (by decide)) (xs_cons (x_set (i := 2) C.nd rfl (locC rfl) (ev_tup (ea_cons (eo_val (ev_ix (fun h => o_ix h) (eo_val (ev_var 2 rfl)) (eo_val ev_int))) (ea_cons (eo_val (ev_bin (fun h => o_add h) (eo_val (ev_ix (fun h => o_ix h) (eo_val (ev_var 2 rfl)) (eo_val ev_int))) (eo_val (ev_tup (ea_cons (eo_val (ev_var 6 rfl)) ea_nil))))) ea_nil))) (by decide)) (xs_one (x_set (i := 3) C.nd rfl (locL rfl) (ev_bin (fun h => o_add h) (eo_val (ev_var 3 rfl)) (eo_val (EvN.e (en_lst (ea_cons (eo_val ev_str) ea_nil))))) (by decide)))))) (by decide) (by decide)) xs_nil) (xs_cons (x_set (i := 7) C.nd rfl (locC rfl) (ev_callI (i := 1) C.toCtx D__law_any_standing (by decide) rfl rfl (ea_cons (eo_val (ev_var 2 rfl)) ea_nil)) (by decide)) (xs_cons (x_asg (ws := [8, 9, 10]) (ev_call C.toCtx D__law_ring (by decide) rfl (ea_cons (eo_val (ev_var 2 rfl)) (ea_cons (eo_val (ev_var 7 rfl)) ea_nil))) (eg_tup C.calm (egs_cons (eg_name (i := 8) C.nd rfl (by first | exact .inl rfl | exact .inr rfl) (by decide)) (egs_cons (eg_name (i := 9) C.nd rfl (by first | exact .inl rfl | exact .inr rfl) (by decide)) (egs_cons (eg_name (i := 10) C.nd rfl (by first | exact .inl rfl | exact .inr rfl) (by decide)) egs_nil))) (glS (glS (glS gl0))))) (xs_cons (x_set (i := 11) C.nd rfl (locL rfl) (ev_sl (eo_val (ev_var 10 rfl)) (es_at (ev_var 8 rfl)) es_no) (by decide)) (xs_cons (x_for (Gl := [.va, .ow, .va, .va, .un, .un, .un, .va, .va, .va, .va, .va, .un, .un, .un, .un, .un, .un, .un]) (ws := [12, 4]) C.own C.calm (ei_enum rfl m_enumerate (ev_var 3 rfl)) (eg_tup C.calm (egs_cons (eg_name (i := 12) C.nd rfl (by first | exact .inl rfl | exact .inr rfl) (by decide)) (egs_cons (eg_name (i := 4) C.nd rfl (by first | exact .inl rfl | exact .inr rfl) (by decide)) egs_nil)) (glS (glS gl0))) (xs_one (x_for (Gl := [.va, .ow, .va, .va, .va, .un, .un, .va, .va, .va, .va, .va, .va, .un, .un, .un, .un, .un, .un]) (ws := [13, 14]) C.own C.calm (ei_enum rfl m_enumerate (ev_var 3 rfl)) (eg_tup C.calm (egs_cons (eg_name (i := 13) C.nd rfl (by first | exact .inl rfl | exact .inr rfl) (by decide)) (egs_cons (eg_name (i := 14) C.nd rfl (by first | exact .inl rfl | exact .inr rfl) (by decide)) egs_nil)) (glS (glS gl0))) (xs_cons (x_setN (i := 15) C.nd rfl (locL rfl) (en_lst ea_nil) (by decide)) (xs_cons (x_for (Gl := [.va, .ow, .va, .va, .va, .un, .un, .va, .va, .va, .va, .va, .va, .va, .va, .ow, .un, .un, .un]) (ws := [16]) C.own C.calm (ei_range1 rfl m_range (ea_cons (eo_val ev_int) ea_nil)) (eg_name (i := 16) C.nd rfl (by first | exact .inl rfl | exact .inr rfl) (by decide)) (xs_cons (x_set (i := 17) C.nd rfl (locL rfl) (ev_bin (fun h => o_add h) (eo_val (ev_sl (eo_val (ev_var 11 rfl)) (es_at (ev_bin (fun h => o_mod h) (eo_val (ev_var 16 rfl)) (eo_val (ev_var 9 rfl)))) es_no)) (eo_val (ev_sl (eo_val (ev_var 11 rfl)) es_no (es_at (ev_bin (fun h => o_mod h) (eo_val (ev_var 16 rfl)) (eo_val (ev_var 9 rfl))))))) (by decide)) (xs_one (x_if (et_cmp (fun h => o_eq h C.room) (eo_val (EvN.e (en_lc (own := [("_law_lines", 18)]) C.calm C.nd (ei_seq (ev_var 17 rfl)) (blkOk_by (by rfl)) (fun _ _ _ _ _ => (eg_name (i := 18) (Ctx.blk C.toCtx).nd rfl (by first | exact .inl rfl | exact .inr rfl) (by decide))) (fun _ _ _ _ _ => ets_nil) (fun _ _ _ _ _ => (ev_ix (fun h => o_ix h) (eo_val (ev_var 18 rfl)) (eo_val (ev_var 13 rfl)))) (by decide)))) (eo_val (EvN.e (en_lc (own := [("_law_lines", 18)]) C.calm C.nd (ei_seq (ev_var 11 rfl)) (blkOk_by (by rfl)) (fun _ _ _ _ _ => (eg_name (i := 18) (Ctx.blk C.toCtx).nd rfl (by first | exact .inl rfl | exact .inr rfl) (by decide))) (fun _ _ _ _ _ => ets_nil) (fun _ _ _ _ _ => (ev_ix (fun h => o_ix h) (eo_val (ev_var 18 rfl)) (eo_val (ev_var 12 rfl)))) (by decide))))) (xs_one (x_expr (ev_append (i := 15) rfl (ev_var 16 rfl)))) xs_nil))) (w1_of rfl rfl) (w2_of rfl)) (xs_one (x_if (et_cmp (fun h => o_ne h C.room) (eo_val (ev_call C.toCtx D_echo (by decide) rfl (ea_cons (eo_val (ev_var 2 rfl)) (ea_cons (eo_val (ev_var 7 rfl)) (ea_cons (eo_val (ev_var 4 rfl)) (ea_cons (eo_val (ev_var 14 rfl)) ea_nil)))))) (eo_val (ev_if (et_cmp (fun h => o_ne h C.room) (eo_own 15 rfl) (eo_val (EvN.e (en_lst ea_nil)))) (ev_ix (fun h => o_ix h) (eo_own 15 rfl) (eo_val ev_int)) ev_non))) (xs_one (x_ret ev_bl)) xs_nil)))) (w1_of rfl rfl) (w2_of rfl))) (w1_of rfl rfl) (w2_of rfl)) (xs_cons (x_if (EvW.t (ew_and (et_cmp (fun h => o_eq h C.room) (eo_val (ev_ix (fun h => o_ix h) (eo_val (ev_var 3 rfl)) (eo_val (ev_un (fun h => o_neg h) (eo_val ev_int))))) (eo_val ev_str)) (ew_and1 (et_cmp (fun h => o_is h) (eo_val (ev_call C.toCtx D_echo (by decide) rfl (ea_cons (eo_val (ev_var 2 rfl)) (ea_cons (eo_val (ev_var 7 rfl)) (ea_cons (eo_val (ev_ix (fun h => o_ix h) (eo_val (ev_ix (fun h => o_ix h) (eo_val (ev_ix (fun h => o_ix h) (eo_val (ev_ix (fun h => o_ix h) (eo_val (ev_ix (fun h => o_ix h) (eo_val (ev_var 2 rfl)) (eo_val ev_int))) (eo_val (ev_un (fun h => o_neg h) (eo_val ev_int))))) (eo_val ev_int))) (eo_val ev_int))) (eo_val ev_int))) (ea_cons (eo_val ev_str) ea_nil)))))) (eo_val ev_non))))) (xs_one (x_ret ev_bl)) xs_nil) (xs_one (x_if (et_cmp (fun h => o_ne h C.room) (eo_val (EvN.e (en_lc (own := [("_law_name", 4)]) C.calm C.nd (ei_seq (ev_var 3 rfl)) (blkOk_by (by rfl)) (fun _ _ _ _ _ => (eg_name (i := 4) (Ctx.blk C.toCtx).nd rfl (by first | exact .inl rfl | exact .inr rfl) (by decide))) (fun _ _ _ _ _ => (ets_one (et_cmp (fun h => o_ne h (Ctx.blk C.toCtx).room) (eo_val (ev_call (Ctx.blk C.toCtx) D_echo (by decide) rfl (ea_cons (eo_val (ev_var 2 rfl)) (ea_cons (eo_val (ev_var 7 rfl)) (ea_cons (eo_val (ev_var 4 rfl)) (ea_cons (eo_val (ev_var 4 rfl)) ea_nil)))))) (eo_val ev_int)))) (fun _ _ _ _ _ => (ev_var 4 rfl)) (by decide)))) (eo_val (EvN.e (en_lst ea_nil)))) (xs_one (x_ret ev_bl)) xs_nil)))))))))) (by decide) (by decide) (by decide) (by decide)) (xs_one (x_ret ev_bl)))
end Hs

namespace Hs
open PySem PySem.Spec PyProof.Rows L2
theorem nx_ret {m : M D} : ∀ ρ ρ', sRet m ρ ≠ .nx ρ' := fun ρ ρ' h => by
  unfold sRet at h
  cases e : m ρ <;> rw [e] at h <;> cases h
theorem nx_retO {i : Nat} : ∀ ρ ρ', sRetO i ρ ≠ .nx ρ' := fun ρ ρ' h => by
  unfold sRetO at h
  cases h
theorem nx_seq {a b : MS} (k : ∀ ρ ρ', b ρ ≠ .nx ρ') : ∀ ρ ρ', sSeq a b ρ ≠ .nx ρ' := fun ρ ρ' h => by
  unfold sSeq at h
  cases e : a ρ with
  | nx ρ2 => rw [e] at h; exact k _ _ h
  | rt d ρ2 => rw [e] at h; cases h
  | ex d ρ2 => rw [e] at h; cases h
  | bad => rw [e] at h; cases h
theorem nx__law_history : ∀ ρ ρ', m__law_history ρ ≠ .nx ρ' := by
  unfold m__law_history
  repeat first | exact nx_ret | exact nx_retO | refine nx_seq ?_
theorem sc_is_whole : FnScope ["thing", "low", "high"] ["thing", "low", "high"] (defScope s_is_whole) := ⟨rfl, rfl, rfl, by decide +kernel, rfl, by decide +kernel, by decide +kernel⟩
theorem fd_is_whole {F : Fx} {base : Heap} (m_isinstance : F.mg "isinstance" = none) (m_bool : F.mg "bool" = none) (m_int : F.mg "int" = none) {a : Addr} {fd : FuncData} (FF : Fun F.K "is_whole" "is_whole" s_is_whole a fd) (hm : F.mg "is_whole" = some (.ref a)) : FnD F base 1 "is_whole" false false r_is_whole :=
  ⟨a, fd, ["thing", "low", "high"], Fun.fnV (N := ["thing", "low", "high"]) FF sc_is_whole rfl rfl (fun h => nomatch h) (fun _ _ _ _ _ _ C => ex_is_whole m_isinstance m_bool m_int C), hm, FF.kp, FF.binds (fun _ _ _ _ _ _ us hl => match us, hl with | [_, _, _], _ => rfl)⟩
theorem sc_is_word : FnScope ["thing", "sign"] ["thing"] (defScope s_is_word) := ⟨rfl, rfl, rfl, by decide +kernel, rfl, by decide +kernel, by decide +kernel⟩
theorem fd_is_word {F : Fx} {base : Heap} (g_SMALL : ∃ t, F.mg "SMALL" = some (.str "abcdefghijklmnopqrstuvwxyz" t)) (m_all : F.mg "all" = none) (m_len : F.mg "len" = none) (m_isinstance : F.mg "isinstance" = none) (m_str : F.mg "str" = none) {a : Addr} {fd : FuncData} (FF : Fun F.K "is_word" "is_word" s_is_word a fd) (hm : F.mg "is_word" = some (.ref a)) : FnD F base 1 "is_word" false false r_is_word :=
  ⟨a, fd, ["thing"], Fun.fnV (N := ["thing", "sign"]) FF sc_is_word rfl rfl (fun h => nomatch h) (fun _ _ _ _ _ _ C => ex_is_word g_SMALL m_all m_len m_isinstance m_str C), hm, FF.kp, FF.binds (fun _ _ _ _ _ _ us hl => match us, hl with | [_], _ => rfl)⟩
theorem sc_rise : FnScope ["rows", "one", "other"] ["rows"] (defScope s_rise) := ⟨rfl, rfl, rfl, by decide +kernel, rfl, by decide +kernel, by decide +kernel⟩
theorem fd_rise {F : Fx} {base : Heap} (m_zip : F.mg "zip" = none) (m_all : F.mg "all" = none) {a : Addr} {fd : FuncData} (FF : Fun F.K "rise" "rise" s_rise a fd) (hm : F.mg "rise" = some (.ref a)) : FnD F base 1 "rise" false false r_rise :=
  ⟨a, fd, ["rows"], Fun.fnV (N := ["rows", "one", "other"]) FF sc_rise rfl rfl (fun h => nomatch h) (fun _ _ _ _ _ _ C => ex_rise m_zip m_all C), hm, FF.kp, FF.binds (fun _ _ _ _ _ _ us hl => match us, hl with | [_], _ => rfl)⟩
theorem sc_are_lines : FnScope ["thing", "size", "many", "one"] ["thing", "size", "many"] (defScope s_are_lines) := ⟨rfl, rfl, rfl, by decide +kernel, rfl, by decide +kernel, by decide +kernel⟩
theorem fd_are_lines {F : Fx} {base : Heap} (D_is_whole : FnD F base 1 "is_whole" false false r_is_whole) (m_all : F.mg "all" = none) (m_len : F.mg "len" = none) (m_isinstance : F.mg "isinstance" = none) (m_tuple : F.mg "tuple" = none) {a : Addr} {fd : FuncData} (FF : Fun F.K "are_lines" "are_lines" s_are_lines a fd) (hm : F.mg "are_lines" = some (.ref a)) : FnD F base 2 "are_lines" false false r_are_lines :=
  ⟨a, fd, ["thing", "size", "many"], Fun.fnV (N := ["thing", "size", "many", "one"]) FF sc_are_lines rfl rfl (fun h => nomatch h) (fun _ _ _ _ _ _ C => ex_are_lines D_is_whole m_all m_len m_isinstance m_tuple C), hm, FF.kp, FF.binds (fun _ _ _ _ _ _ us hl => match us, hl with | [_, _, _], _ => rfl)⟩
theorem sc_is_ear : FnScope ["thing"] ["thing"] (defScope s_is_ear) := ⟨rfl, rfl, rfl, by decide +kernel, rfl, by decide +kernel, by decide +kernel⟩
theorem fd_is_ear {F : Fx} {base : Heap} (D_is_whole : FnD F base 1 "is_whole" false false r_is_whole) (D_is_word : FnD F base 1 "is_word" false false r_is_word) (m_len : F.mg "len" = none) (m_isinstance : F.mg "isinstance" = none) (m_tuple : F.mg "tuple" = none) {a : Addr} {fd : FuncData} (FF : Fun F.K "is_ear" "is_ear" s_is_ear a fd) (hm : F.mg "is_ear" = some (.ref a)) : FnD F base 2 "is_ear" false false r_is_ear :=
  ⟨a, fd, ["thing"], Fun.fnV (N := ["thing"]) FF sc_is_ear rfl rfl (fun h => nomatch h) (fun _ _ _ _ _ _ C => ex_is_ear D_is_whole D_is_word m_len m_isinstance m_tuple C), hm, FF.kp, FF.binds (fun _ _ _ _ _ _ us hl => match us, hl with | [_], _ => rfl)⟩
theorem sc_are_ears : FnScope ["thing", "one"] ["thing"] (defScope s_are_ears) := ⟨rfl, rfl, rfl, by decide +kernel, rfl, by decide +kernel, by decide +kernel⟩
theorem fd_are_ears {F : Fx} {base : Heap} (D_rise : FnD F base 1 "rise" false false r_rise) (D_is_ear : FnD F base 2 "is_ear" false false r_is_ear) (m_all : F.mg "all" = none) (m_len : F.mg "len" = none) (m_isinstance : F.mg "isinstance" = none) (m_tuple : F.mg "tuple" = none) {a : Addr} {fd : FuncData} (FF : Fun F.K "are_ears" "are_ears" s_are_ears a fd) (hm : F.mg "are_ears" = some (.ref a)) : FnD F base 3 "are_ears" false false r_are_ears :=
  ⟨a, fd, ["thing"], Fun.fnV (N := ["thing", "one"]) FF sc_are_ears rfl rfl (fun h => nomatch h) (fun _ _ _ _ _ _ C => ex_are_ears D_rise D_is_ear m_all m_len m_isinstance m_tuple C), hm, FF.kp, FF.binds (fun _ _ _ _ _ _ us hl => match us, hl with | [_], _ => rfl)⟩
theorem sc_places_for : FnScope ["many", "ears"] ["many", "ears"] (defScope s_places_for) := ⟨rfl, rfl, rfl, by decide +kernel, rfl, by decide +kernel, by decide +kernel⟩
theorem fd_places_for {F : Fx} {base : Heap} (m_len : F.mg "len" = none) {a : Addr} {fd : FuncData} (FF : Fun F.K "places_for" "places_for" s_places_for a fd) (hm : F.mg "places_for" = some (.ref a)) : FnD F base 1 "places_for" false false r_places_for :=
  ⟨a, fd, ["many", "ears"], Fun.fnV (N := ["many", "ears"]) FF sc_places_for rfl rfl (fun h => nomatch h) (fun _ _ _ _ _ _ C => ex_places_for m_len C), hm, FF.kp, FF.binds (fun _ _ _ _ _ _ us hl => match us, hl with | [_, _], _ => rfl)⟩
theorem sc_is_singer : FnScope ["thing", "many"] ["thing", "many"] (defScope s_is_singer) := ⟨rfl, rfl, rfl, by decide +kernel, rfl, by decide +kernel, by decide +kernel⟩
theorem fd_is_singer {F : Fx} {base : Heap} (D_are_ears : FnD F base 3 "are_ears" false false r_are_ears) (D_is_word : FnD F base 1 "is_word" false false r_is_word) (m_len : F.mg "len" = none) (m_isinstance : F.mg "isinstance" = none) (m_tuple : F.mg "tuple" = none) (D_are_lines : FnD F base 2 "are_lines" false false r_are_lines) (D_places_for : FnD F base 1 "places_for" false false r_places_for) {a : Addr} {fd : FuncData} (FF : Fun F.K "is_singer" "is_singer" s_is_singer a fd) (hm : F.mg "is_singer" = some (.ref a)) : FnD F base 4 "is_singer" false false r_is_singer :=
  ⟨a, fd, ["thing", "many"], Fun.fnV (N := ["thing", "many"]) FF sc_is_singer rfl rfl (fun h => nomatch h) (fun _ _ _ _ _ _ C => ex_is_singer D_are_ears D_is_word m_len m_isinstance m_tuple D_are_lines D_places_for C), hm, FF.kp, FF.binds (fun _ _ _ _ _ _ us hl => match us, hl with | [_, _], _ => rfl)⟩
theorem sc_is_choir : FnScope ["thing", "many", "singers", "one", "some", "ear"] ["thing"] (defScope s_is_choir) := ⟨rfl, rfl, rfl, by decide +kernel, rfl, by decide +kernel, by decide +kernel⟩
theorem fd_is_choir {F : Fx} {base : Heap} (D_is_whole : FnD F base 1 "is_whole" false false r_is_whole) (m_len : F.mg "len" = none) (m_isinstance : F.mg "isinstance" = none) (m_tuple : F.mg "tuple" = none) (D_rise : FnD F base 1 "rise" false false r_rise) (D_is_singer : FnD F base 4 "is_singer" false false r_is_singer) (m_all : F.mg "all" = none) {a : Addr} {fd : FuncData} (FF : Fun F.K "is_choir" "is_choir" s_is_choir a fd) (hm : F.mg "is_choir" = some (.ref a)) : FnD F base 5 "is_choir" false false r_is_choir :=
  ⟨a, fd, ["thing"], Fun.fnV (N := ["thing", "many", "singers", "one", "some", "ear"]) FF sc_is_choir rfl rfl (fun h => nomatch h) (fun _ _ _ _ _ _ C => ex_is_choir D_is_whole m_len m_isinstance m_tuple D_rise D_is_singer m_all C), hm, FF.kp, FF.binds (fun _ _ _ _ _ _ us hl => match us, hl with | [_], _ => rfl)⟩
theorem sc_need_choir : FnScope ["thing"] ["thing"] (defScope s_need_choir) := ⟨rfl, rfl, rfl, by decide +kernel, rfl, by decide +kernel, by decide +kernel⟩
theorem fd_need_choir {F : Fx} {base : Heap} (D_is_choir : FnD F base 5 "is_choir" false false r_is_choir) {a : Addr} {fd : FuncData} (FF : Fun F.K "need_choir" "need_choir" s_need_choir a fd) (hm : F.mg "need_choir" = some (.ref a)) : FnD F base 6 "need_choir" false false r_need_choir :=
  ⟨a, fd, ["thing"], Fun.fnV (N := ["thing"]) FF sc_need_choir rfl rfl (fun h => nomatch h) (fun _ _ _ _ _ _ C => ex_need_choir D_is_choir C), hm, FF.kp, FF.binds (fun _ _ _ _ _ _ us hl => match us, hl with | [_], _ => rfl)⟩
theorem sc_all_names : FnScope ["choir", "one"] ["choir"] (defScope s_all_names) := ⟨rfl, rfl, rfl, by decide +kernel, rfl, by decide +kernel, by decide +kernel⟩
theorem fd_all_names {F : Fx} {base : Heap}  {a : Addr} {fd : FuncData} (FF : Fun F.K "all_names" "all_names" s_all_names a fd) (hm : F.mg "all_names" = some (.ref a)) : FnD F base 1 "all_names" false false r_all_names :=
  ⟨a, fd, ["choir"], Fun.fnV (N := ["choir", "one"]) FF sc_all_names rfl rfl (fun h => nomatch h) (fun _ _ _ _ _ _ C => ex_all_names  C), hm, FF.kp, FF.binds (fun _ _ _ _ _ _ us hl => match us, hl with | [_], _ => rfl)⟩
theorem sc_is_good_standing : FnScope ["choir", "thing", "one"] ["choir", "thing"] (defScope s_is_good_standing) := ⟨rfl, rfl, rfl, by decide +kernel, rfl, by decide +kernel, by decide +kernel⟩
theorem fd_is_good_standing {F : Fx} {base : Heap} (m_len : F.mg "len" = none) (m_isinstance : F.mg "isinstance" = none) (m_tuple : F.mg "tuple" = none) (D_are_lines : FnD F base 2 "are_lines" false false r_are_lines) (m_all : F.mg "all" = none) {a : Addr} {fd : FuncData} (FF : Fun F.K "is_good_standing" "is_good_standing" s_is_good_standing a fd) (hm : F.mg "is_good_standing" = some (.ref a)) : FnD F base 3 "is_good_standing" false false r_is_good_standing :=
  ⟨a, fd, ["choir", "thing"], Fun.fnV (N := ["choir", "thing", "one"]) FF sc_is_good_standing rfl rfl (fun h => nomatch h) (fun _ _ _ _ _ _ C => ex_is_good_standing m_len m_isinstance m_tuple D_are_lines m_all C), hm, FF.kp, FF.binds (fun _ _ _ _ _ _ us hl => match us, hl with | [_, _], _ => rfl)⟩
theorem sc_need_standing : FnScope ["choir", "thing"] ["choir", "thing"] (defScope s_need_standing) := ⟨rfl, rfl, rfl, by decide +kernel, rfl, by decide +kernel, by decide +kernel⟩
theorem fd_need_standing {F : Fx} {base : Heap} (D_is_good_standing : FnD F base 3 "is_good_standing" false false r_is_good_standing) {a : Addr} {fd : FuncData} (FF : Fun F.K "need_standing" "need_standing" s_need_standing a fd) (hm : F.mg "need_standing" = some (.ref a)) : FnD F base 4 "need_standing" false false r_need_standing :=
  ⟨a, fd, ["choir", "thing"], Fun.fnV (N := ["choir", "thing"]) FF sc_need_standing rfl rfl (fun h => nomatch h) (fun _ _ _ _ _ _ C => ex_need_standing D_is_good_standing C), hm, FF.kp, FF.binds (fun _ _ _ _ _ _ us hl => match us, hl with | [_, _], _ => rfl)⟩
theorem sc_need_name : FnScope ["choir", "name"] ["choir", "name"] (defScope s_need_name) := ⟨rfl, rfl, rfl, by decide +kernel, rfl, by decide +kernel, by decide +kernel⟩
theorem fd_need_name {F : Fx} {base : Heap} (D_all_names : FnD F base 1 "all_names" false false r_all_names) (m_isinstance : F.mg "isinstance" = none) (m_str : F.mg "str" = none) {a : Addr} {fd : FuncData} (FF : Fun F.K "need_name" "need_name" s_need_name a fd) (hm : F.mg "need_name" = some (.ref a)) : FnD F base 2 "need_name" false false r_need_name :=
  ⟨a, fd, ["choir", "name"], Fun.fnV (N := ["choir", "name"]) FF sc_need_name rfl rfl (fun h => nomatch h) (fun _ _ _ _ _ _ C => ex_need_name D_all_names m_isinstance m_str C), hm, FF.kp, FF.binds (fun _ _ _ _ _ _ us hl => match us, hl with | [_, _], _ => rfl)⟩
theorem sc_number_of : FnScope ["choir", "name"] ["choir", "name"] (defScope s_number_of) := ⟨rfl, rfl, rfl, by decide +kernel, rfl, by decide +kernel, by decide +kernel⟩
theorem fd_number_of {F : Fx} {base : Heap} (D_all_names : FnD F base 1 "all_names" false false r_all_names) {a : Addr} {fd : FuncData} (FF : Fun F.K "number_of" "number_of" s_number_of a fd) (hm : F.mg "number_of" = some (.ref a)) : FnD F base 2 "number_of" false false r_number_of :=
  ⟨a, fd, ["choir", "name"], Fun.fnV (N := ["choir", "name"]) FF sc_number_of rfl rfl (fun h => nomatch h) (fun _ _ _ _ _ _ C => ex_number_of D_all_names C), hm, FF.kp, FF.binds (fun _ _ _ _ _ _ us hl => match us, hl with | [_, _], _ => rfl)⟩
theorem sc_heard_by : FnScope ["choir", "standing", "singer", "name", "ago"] ["choir", "standing", "singer"] (defScope s_heard_by) := ⟨rfl, rfl, rfl, by decide +kernel, rfl, by decide +kernel, by decide +kernel⟩
theorem fd_heard_by {F : Fx} {base : Heap} (D_number_of : FnD F base 2 "number_of" false false r_number_of) (m_tuple : F.mg "tuple" = none) {a : Addr} {fd : FuncData} (FF : Fun F.K "heard_by" "heard_by" s_heard_by a fd) (hm : F.mg "heard_by" = some (.ref a)) : FnD F base 3 "heard_by" false false r_heard_by :=
  ⟨a, fd, ["choir", "standing", "singer"], Fun.fnV (N := ["choir", "standing", "singer", "name", "ago"]) FF sc_heard_by rfl rfl (fun h => nomatch h) (fun _ _ _ _ _ _ C => ex_heard_by D_number_of m_tuple C), hm, FF.kp, FF.binds (fun _ _ _ _ _ _ us hl => match us, hl with | [_, _, _], _ => rfl)⟩
theorem sc_place_of : FnScope ["many", "some", "found", "line"] ["many", "some"] (defScope s_place_of) := ⟨rfl, rfl, rfl, by decide +kernel, rfl, by decide +kernel, by decide +kernel⟩
theorem fd_place_of {F : Fx} {base : Heap}  {a : Addr} {fd : FuncData} (FF : Fun F.K "place_of" "place_of" s_place_of a fd) (hm : F.mg "place_of" = some (.ref a)) : FnD F base 1 "place_of" false false r_place_of :=
  ⟨a, fd, ["many", "some"], Fun.fnV (N := ["many", "some", "found", "line"]) FF sc_place_of rfl rfl (fun h => nomatch h) (fun _ _ _ _ _ _ C => ex_place_of  C), hm, FF.kp, FF.binds (fun _ _ _ _ _ _ us hl => match us, hl with | [_, _], _ => rfl)⟩
theorem sc_table_line : FnScope ["choir", "standing", "singer"] ["choir", "standing", "singer"] (defScope s_table_line) := ⟨rfl, rfl, rfl, by decide +kernel, rfl, by decide +kernel, by decide +kernel⟩
theorem fd_table_line {F : Fx} {base : Heap} (D_place_of : FnD F base 1 "place_of" false false r_place_of) (D_heard_by : FnD F base 3 "heard_by" false false r_heard_by) {a : Addr} {fd : FuncData} (FF : Fun F.K "table_line" "table_line" s_table_line a fd) (hm : F.mg "table_line" = some (.ref a)) : FnD F base 4 "table_line" false false r_table_line :=
  ⟨a, fd, ["choir", "standing", "singer"], Fun.fnV (N := ["choir", "standing", "singer"]) FF sc_table_line rfl rfl (fun h => nomatch h) (fun _ _ _ _ _ _ C => ex_table_line D_place_of D_heard_by C), hm, FF.kp, FF.binds (fun _ _ _ _ _ _ us hl => match us, hl with | [_, _, _], _ => rfl)⟩
theorem sc_all_next : FnScope ["choir", "standing", "singer"] ["choir", "standing"] (defScope s_all_next) := ⟨rfl, rfl, rfl, by decide +kernel, rfl, by decide +kernel, by decide +kernel⟩
theorem fd_all_next {F : Fx} {base : Heap} (D_table_line : FnD F base 4 "table_line" false false r_table_line) (m_tuple : F.mg "tuple" = none) {a : Addr} {fd : FuncData} (FF : Fun F.K "all_next" "all_next" s_all_next a fd) (hm : F.mg "all_next" = some (.ref a)) : FnD F base 5 "all_next" false false r_all_next :=
  ⟨a, fd, ["choir", "standing"], Fun.fnV (N := ["choir", "standing", "singer"]) FF sc_all_next rfl rfl (fun h => nomatch h) (fun _ _ _ _ _ _ C => ex_all_next D_table_line m_tuple C), hm, FF.kp, FF.binds (fun _ _ _ _ _ _ us hl => match us, hl with | [_, _], _ => rfl)⟩
theorem sc_behind : FnScope ["standing", "lines", "row", "line"] ["standing", "lines"] (defScope s_behind) := ⟨rfl, rfl, rfl, by decide +kernel, rfl, by decide +kernel, by decide +kernel⟩
theorem fd_behind {F : Fx} {base : Heap} (m_zip : F.mg "zip" = none) (m_tuple : F.mg "tuple" = none) {a : Addr} {fd : FuncData} (FF : Fun F.K "behind" "behind" s_behind a fd) (hm : F.mg "behind" = some (.ref a)) : FnD F base 1 "behind" false false r_behind :=
  ⟨a, fd, ["standing", "lines"], Fun.fnV (N := ["standing", "lines", "row", "line"]) FF sc_behind rfl rfl (fun h => nomatch h) (fun _ _ _ _ _ _ C => ex_behind m_zip m_tuple C), hm, FF.kp, FF.binds (fun _ _ _ _ _ _ us hl => match us, hl with | [_, _], _ => rfl)⟩
theorem sc_on : FnScope ["choir", "standing"] ["choir", "standing"] (defScope s_on) := ⟨rfl, rfl, rfl, by decide +kernel, rfl, by decide +kernel, by decide +kernel⟩
theorem fd_on {F : Fx} {base : Heap} (D_behind : FnD F base 1 "behind" false false r_behind) (D_all_next : FnD F base 5 "all_next" false false r_all_next) {a : Addr} {fd : FuncData} (FF : Fun F.K "on" "on" s_on a fd) (hm : F.mg "on" = some (.ref a)) : FnD F base 6 "on" false false r_on :=
  ⟨a, fd, ["choir", "standing"], Fun.fnV (N := ["choir", "standing"]) FF sc_on rfl rfl (fun h => nomatch h) (fun _ _ _ _ _ _ C => ex_on D_behind D_all_next C), hm, FF.kp, FF.binds (fun _ _ _ _ _ _ us hl => match us, hl with | [_, _], _ => rfl)⟩
theorem sc_need_both : FnScope ["choir", "standing"] ["choir", "standing"] (defScope s_need_both) := ⟨rfl, rfl, rfl, by decide +kernel, rfl, by decide +kernel, by decide +kernel⟩
theorem fd_need_both {F : Fx} {base : Heap} (D_need_choir : FnD F base 6 "need_choir" false false r_need_choir) (D_need_standing : FnD F base 4 "need_standing" false false r_need_standing) {a : Addr} {fd : FuncData} (FF : Fun F.K "need_both" "need_both" s_need_both a fd) (hm : F.mg "need_both" = some (.ref a)) : FnD F base 7 "need_both" false false r_need_both :=
  ⟨a, fd, ["choir", "standing"], Fun.fnV (N := ["choir", "standing"]) FF sc_need_both rfl rfl (fun h => nomatch h) (fun _ _ _ _ _ _ C => ex_need_both D_need_choir D_need_standing C), hm, FF.kp, FF.binds (fun _ _ _ _ _ _ us hl => match us, hl with | [_, _], _ => rfl)⟩
theorem sc_walked : FnScope ["choir", "standing", "known", "row"] ["choir", "standing"] (defScope s_walked) := ⟨rfl, rfl, rfl, by decide +kernel, rfl, by decide +kernel, by decide +kernel⟩
theorem fd_walked {F : Fx} {base : Heap} (m_len : F.mg "len" = none) (D_on : FnD F base 6 "on" false false r_on) (g_MOST_AHEAD : ∃ t, F.mg "MOST_AHEAD" = some (.int 20000 t)) {a : Addr} {fd : FuncData} (FF : Fun F.K "walked" "walked" s_walked a fd) (hm : F.mg "walked" = some (.ref a)) : FnD F base 7 "walked" false false r_walked :=
  ⟨a, fd, ["choir", "standing"], Fun.fnV (N := ["choir", "standing", "known", "row"]) FF sc_walked rfl rfl (fun h => nomatch h) (fun _ _ _ _ _ _ C => ex_walked m_len D_on g_MOST_AHEAD C), hm, FF.kp, FF.binds (fun _ _ _ _ _ _ us hl => match us, hl with | [_, _], _ => rfl)⟩
theorem sc_lines_round : FnScope ["choir", "standing", "row", "first", "one"] ["choir", "standing"] (defScope s_lines_round) := ⟨rfl, rfl, rfl, by decide +kernel, rfl, by decide +kernel, by decide +kernel⟩
theorem fd_lines_round {F : Fx} {base : Heap} (D_walked : FnD F base 7 "walked" false false r_walked) (D_all_next : FnD F base 5 "all_next" false false r_all_next) {a : Addr} {fd : FuncData} (FF : Fun F.K "lines_round" "lines_round" s_lines_round a fd) (hm : F.mg "lines_round" = some (.ref a)) : FnD F base 8 "lines_round" false false r_lines_round :=
  ⟨a, fd, ["choir", "standing"], Fun.fnV (N := ["choir", "standing", "row", "first", "one"]) FF sc_lines_round rfl rfl (fun h => nomatch h) (fun _ _ _ _ _ _ C => ex_lines_round D_walked D_all_next C), hm, FF.kp, FF.binds (fun _ _ _ _ _ _ us hl => match us, hl with | [_, _], _ => rfl)⟩
theorem sc_echo : FnScope ["choir", "standing", "name", "other", "rows", "first", "ring", "one", "two", "lines", "late", "at"] ["choir", "standing", "name", "other"] (defScope s_echo) := ⟨rfl, rfl, rfl, by decide +kernel, rfl, by decide +kernel, by decide +kernel⟩
theorem fd_echo {F : Fx} {base : Heap} (D_need_both : FnD F base 7 "need_both" false false r_need_both) (D_need_name : FnD F base 2 "need_name" false false r_need_name) (D_lines_round : FnD F base 8 "lines_round" false false r_lines_round) (D_number_of : FnD F base 2 "number_of" false false r_number_of) (g_FARTHEST_ECHO : ∃ t, F.mg "FARTHEST_ECHO" = some (.int 20 t)) (m_range : F.mg "range" = none) (m_len : F.mg "len" = none) (m_all : F.mg "all" = none) {a : Addr} {fd : FuncData} (FF : Fun F.K "echo" "echo" s_echo a fd) (hm : F.mg "echo" = some (.ref a)) : FnD F base 9 "echo" false false r_echo :=
  ⟨a, fd, ["choir", "standing", "name", "other"], Fun.fnV (N := ["choir", "standing", "name", "other", "rows", "first", "ring", "one", "two", "lines", "late", "at"]) FF sc_echo rfl rfl (fun h => nomatch h) (fun _ _ _ _ _ _ C => ex_echo D_need_both D_need_name D_lines_round D_number_of g_FARTHEST_ECHO m_range m_len m_all C), hm, FF.kp, FF.binds (fun _ _ _ _ _ _ us hl => match us, hl with | [_, _, _, _], _ => rfl)⟩
theorem sc__law_cell : FnScope ["_law_script", "_law_k"] ["_law_script", "_law_k"] (defScope s__law_cell) := ⟨rfl, rfl, rfl, by decide +kernel, rfl, by decide +kernel, by decide +kernel⟩
theorem fd__law_cell {F : Fx} {base : Heap} (m_len : F.mg "len" = none) {a : Addr} {fd : FuncData} (FF : Fun F.K "_law_cell" "_law_cell" s__law_cell a fd) (hm : F.mg "_law_cell" = some (.ref a)) : FnD F base 1 "_law_cell" false false r__law_cell :=
  ⟨a, fd, ["_law_script", "_law_k"], Fun.fnV (N := ["_law_script", "_law_k"]) FF sc__law_cell rfl rfl (fun h => nomatch h) (fun _ _ _ _ _ _ C => ex__law_cell m_len C), hm, FF.kp, FF.binds (fun _ _ _ _ _ _ us hl => match us, hl with | [_, _], _ => rfl)⟩
theorem sc__law_drawn : FnScope ["_law_cell_here", "_law_k", "_law_more"] ["_law_cell_here", "_law_k"] (defScope s__law_drawn) := ⟨rfl, rfl, rfl, by decide +kernel, rfl, by decide +kernel, by decide +kernel⟩
theorem fd__law_drawn {F : Fx} {base : Heap}  {a : Addr} {fd : FuncData} (FF : Fun F.K "_law_drawn" "_law_drawn" s__law_drawn a fd) (hm : F.mg "_law_drawn" = some (.ref a)) : FnD F base 1 "_law_drawn" false false r__law_drawn :=
  ⟨a, fd, ["_law_cell_here", "_law_k"], Fun.fnV (N := ["_law_cell_here", "_law_k", "_law_more"]) FF sc__law_drawn rfl rfl (fun h => nomatch h) (fun _ _ _ _ _ _ C => ex__law_drawn  C), hm, FF.kp, FF.binds (fun _ _ _ _ _ _ us hl => match us, hl with | [_, _], _ => rfl)⟩
theorem sc__law_roll : FnScope ["_law_dice", "_law_many", "_law_told"] ["_law_dice", "_law_many"] (defScope s__law_roll) := ⟨rfl, rfl, rfl, by decide +kernel, rfl, by decide +kernel, by decide +kernel⟩
theorem fd__law_roll {F : Fx} {base : Heap} (D__law_drawn : FnD F base 1 "_law_drawn" false false r__law_drawn) {a : Addr} {fd : FuncData} (FF : Fun F.K "_law_roll" "_law_roll" s__law_roll a fd) (hm : F.mg "_law_roll" = some (.ref a)) : FnD F base 2 "_law_roll" true false r__law_roll :=
  ⟨a, fd, ["_law_dice", "_law_many"], Fun.fnI (N := ["_law_dice", "_law_many", "_law_told"]) FF sc__law_roll rfl rfl (fun h => nomatch h) (fun _ _ _ _ _ _ C => ex__law_roll D__law_drawn C), hm, FF.kp, FF.binds (fun _ _ _ _ _ _ us hl => match us, hl with | [_, _], _ => rfl)⟩
theorem sc__law_rounds : FnScope ["_law_script", "_law_high", "_law_k"] ["_law_script", "_law_high"] (defScope s__law_rounds) := ⟨rfl, rfl, rfl, by decide +kernel, rfl, by decide +kernel, by decide +kernel⟩
theorem fd__law_rounds {F : Fx} {base : Heap} (m_len : F.mg "len" = none) (m_min : F.mg "min" = none) (m_max : F.mg "max" = none) (m_range : F.mg "range" = none) (D__law_cell : FnD F base 1 "_law_cell" false false r__law_cell) {a : Addr} {fd : FuncData} (FF : Fun F.K "_law_rounds" "_law_rounds" s__law_rounds a fd) (hm : F.mg "_law_rounds" = some (.ref a)) : FnRd F base 2 "_law_rounds" r__law_rounds :=
  ⟨a, fd, ["_law_script", "_law_high"], Fun.fnR (N := ["_law_script", "_law_high", "_law_k"]) FF sc__law_rounds rfl rfl rfl (fun _ _ _ _ _ _ C => ex__law_rounds m_len m_min m_max m_range D__law_cell C), hm, FF.kp, FF.binds (fun _ _ _ _ _ _ us hl => match us, hl with | [_, _], _ => rfl)⟩
theorem sc__law_any_singers : FnScope ["_law_dice", "_law_many", "_law_crew_here", "_law_found", "_law_name", "_law_ears", "_law_turn", "_law_ear", "_law_size", "_law_place"] ["_law_dice", "_law_many", "_law_crew_here"] (defScope s__law_any_singers) := ⟨rfl, rfl, rfl, by decide +kernel, rfl, by decide +kernel, by decide +kernel⟩
theorem fd__law_any_singers {F : Fx} {base : Heap} (D__law_roll : FnD F base 2 "_law_roll" true false r__law_roll) (m_range : F.mg "range" = none) (m_len : F.mg "len" = none) (m_tuple : F.mg "tuple" = none) (m_sorted : F.mg "sorted" = none) {a : Addr} {fd : FuncData} (FF : Fun F.K "_law_any_singers" "_law_any_singers" s__law_any_singers a fd) (hm : F.mg "_law_any_singers" = some (.ref a)) : FnD F base 3 "_law_any_singers" true false r__law_any_singers :=
  ⟨a, fd, ["_law_dice", "_law_many", "_law_crew_here"], Fun.fnI (N := ["_law_dice", "_law_many", "_law_crew_here", "_law_found", "_law_name", "_law_ears", "_law_turn", "_law_ear", "_law_size", "_law_place"]) FF sc__law_any_singers rfl rfl (fun h => nomatch h) (fun _ _ _ _ _ _ C => ex__law_any_singers D__law_roll m_range m_len m_tuple m_sorted C), hm, FF.kp, FF.binds (fun _ _ _ _ _ _ us hl => match us, hl with | [_, _, _], _ => rfl)⟩
theorem sc__law_any_choir : FnScope ["_law_dice", "_law_act", "_law_many", "_law_size"] ["_law_dice"] (defScope s__law_any_choir) := ⟨rfl, rfl, rfl, by decide +kernel, rfl, by decide +kernel, by decide +kernel⟩
theorem fd__law_any_choir {F : Fx} {base : Heap} (D__law_roll : FnD F base 2 "_law_roll" true false r__law_roll) (D__law_any_singers : FnD F base 3 "_law_any_singers" true false r__law_any_singers) {a : Addr} {fd : FuncData} (FF : Fun F.K "_law_any_choir" "_law_any_choir" s__law_any_choir a fd) (hm : F.mg "_law_any_choir" = some (.ref a)) : FnD F base 4 "_law_any_choir" true false r__law_any_choir :=
  ⟨a, fd, ["_law_dice"], Fun.fnI (N := ["_law_dice", "_law_act", "_law_many", "_law_size"]) FF sc__law_any_choir rfl rfl (fun h => nomatch h) (fun _ _ _ _ _ _ C => ex__law_any_choir D__law_roll D__law_any_singers C), hm, FF.kp, FF.binds (fun _ _ _ _ _ _ us hl => match us, hl with | [_], _ => rfl)⟩
theorem sc__law_any_standing : FnScope ["_law_dice", "_law_choir", "_law_found", "_law_singer", "_law_turn"] ["_law_dice", "_law_choir"] (defScope s__law_any_standing) := ⟨rfl, rfl, rfl, by decide +kernel, rfl, by decide +kernel, by decide +kernel⟩
theorem fd__law_any_standing {F : Fx} {base : Heap} (m_range : F.mg "range" = none) (D__law_roll : FnD F base 2 "_law_roll" true false r__law_roll) (m_tuple : F.mg "tuple" = none) {a : Addr} {fd : FuncData} (FF : Fun F.K "_law_any_standing" "_law_any_standing" s__law_any_standing a fd) (hm : F.mg "_law_any_standing" = some (.ref a)) : FnD F base 3 "_law_any_standing" true false r__law_any_standing :=
  ⟨a, fd, ["_law_dice", "_law_choir"], Fun.fnI (N := ["_law_dice", "_law_choir", "_law_found", "_law_singer", "_law_turn"]) FF sc__law_any_standing rfl rfl (fun h => nomatch h) (fun _ _ _ _ _ _ C => ex__law_any_standing m_range D__law_roll m_tuple C), hm, FF.kp, FF.binds (fun _ _ _ _ _ _ us hl => match us, hl with | [_, _], _ => rfl)⟩
theorem sc__law_crew : FnScope ["_law_choir", "_law_singer"] ["_law_choir"] (defScope s__law_crew) := ⟨rfl, rfl, rfl, by decide +kernel, rfl, by decide +kernel, by decide +kernel⟩
theorem fd__law_crew {F : Fx} {base : Heap}  {a : Addr} {fd : FuncData} (FF : Fun F.K "_law_crew" "_law_crew" s__law_crew a fd) (hm : F.mg "_law_crew" = some (.ref a)) : FnD F base 1 "_law_crew" false false r__law_crew :=
  ⟨a, fd, ["_law_choir"], Fun.fnV (N := ["_law_choir", "_law_singer"]) FF sc__law_crew rfl rfl (fun h => nomatch h) (fun _ _ _ _ _ _ C => ex__law_crew  C), hm, FF.kp, FF.binds (fun _ _ _ _ _ _ us hl => match us, hl with | [_], _ => rfl)⟩
theorem sc__law_heard : FnScope ["_law_choir", "_law_history_here", "_law_ears", "_law_beat", "_law_crew_here", "_law_name", "_law_ago"] ["_law_choir", "_law_history_here", "_law_ears", "_law_beat"] (defScope s__law_heard) := ⟨rfl, rfl, rfl, by decide +kernel, rfl, by decide +kernel, by decide +kernel⟩
theorem fd__law_heard {F : Fx} {base : Heap} (D__law_crew : FnD F base 1 "_law_crew" false false r__law_crew) {a : Addr} {fd : FuncData} (FF : Fun F.K "_law_heard" "_law_heard" s__law_heard a fd) (hm : F.mg "_law_heard" = some (.ref a)) : FnD F base 2 "_law_heard" false false r__law_heard :=
  ⟨a, fd, ["_law_choir", "_law_history_here", "_law_ears", "_law_beat"], Fun.fnV (N := ["_law_choir", "_law_history_here", "_law_ears", "_law_beat", "_law_crew_here", "_law_name", "_law_ago"]) FF sc__law_heard rfl rfl (fun h => nomatch h) (fun _ _ _ _ _ _ C => ex__law_heard D__law_crew C), hm, FF.kp, FF.binds (fun _ _ _ _ _ _ us hl => match us, hl with | [_, _, _, _], _ => rfl)⟩
theorem sc__law_history : FnScope ["_law_standing", "_law_at", "_law_row"] ["_law_standing"] (defScope s__law_history) := ⟨rfl, rfl, rfl, by decide +kernel, rfl, by decide +kernel, by decide +kernel⟩
theorem fd__law_history {F : Fx} {base : Heap} (m_range : F.mg "range" = none) (m_tuple : F.mg "tuple" = none) {a : Addr} {fd : FuncData} (FF : Fun F.K "_law_history" "_law_history" s__law_history a fd) (hm : F.mg "_law_history" = some (.ref a)) : FnD F base 1 "_law_history" false true r__law_history :=
  ⟨a, fd, ["_law_standing"], Fun.fnV (N := ["_law_standing", "_law_at", "_law_row"]) FF sc__law_history rfl rfl (fun _ => nx__law_history) (fun _ _ _ _ _ _ C => ex__law_history m_range m_tuple C), hm, FF.kp, FF.binds (fun _ _ _ _ _ _ us hl => match us, hl with | [_], _ => rfl)⟩
theorem sc__law_tells : FnScope ["_law_choir", "_law_singer", "_law_history_here", "_law_beat", "_law_place", "_law_line"] ["_law_choir", "_law_singer", "_law_history_here", "_law_beat"] (defScope s__law_tells) := ⟨rfl, rfl, rfl, by decide +kernel, rfl, by decide +kernel, by decide +kernel⟩
theorem fd__law_tells {F : Fx} {base : Heap} (D__law_heard : FnD F base 2 "_law_heard" false false r__law_heard) {a : Addr} {fd : FuncData} (FF : Fun F.K "_law_tells" "_law_tells" s__law_tells a fd) (hm : F.mg "_law_tells" = some (.ref a)) : FnD F base 3 "_law_tells" false false r__law_tells :=
  ⟨a, fd, ["_law_choir", "_law_singer", "_law_history_here", "_law_beat"], Fun.fnV (N := ["_law_choir", "_law_singer", "_law_history_here", "_law_beat", "_law_place", "_law_line"]) FF sc__law_tells rfl rfl (fun h => nomatch h) (fun _ _ _ _ _ _ C => ex__law_tells D__law_heard C), hm, FF.kp, FF.binds (fun _ _ _ _ _ _ us hl => match us, hl with | [_, _, _, _], _ => rfl)⟩
theorem sc__law_sung : FnScope ["_law_choir", "_law_standing", "_law_leads", "_law_beats", "_law_history_here", "_law_beat", "_law_row", "_law_singer", "_law_own"] ["_law_choir", "_law_standing", "_law_leads", "_law_beats"] (defScope s__law_sung) := ⟨rfl, rfl, rfl, by decide +kernel, rfl, by decide +kernel, by decide +kernel⟩
theorem fd__law_sung {F : Fx} {base : Heap} (D__law_history : FnD F base 1 "_law_history" false true r__law_history) (m_range : F.mg "range" = none) (D__law_tells : FnD F base 3 "_law_tells" false false r__law_tells) (m_tuple : F.mg "tuple" = none) {a : Addr} {fd : FuncData} (FF : Fun F.K "_law_sung" "_law_sung" s__law_sung a fd) (hm : F.mg "_law_sung" = some (.ref a)) : FnD F base 4 "_law_sung" false false r__law_sung :=
  ⟨a, fd, ["_law_choir", "_law_standing", "_law_leads", "_law_beats"], Fun.fnV (N := ["_law_choir", "_law_standing", "_law_leads", "_law_beats", "_law_history_here", "_law_beat", "_law_row", "_law_singer", "_law_own"]) FF sc__law_sung rfl rfl (fun h => nomatch h) (fun _ _ _ _ _ _ C => ex__law_sung D__law_history m_range D__law_tells m_tuple C), hm, FF.kp, FF.binds (fun _ _ _ _ _ _ us hl => match us, hl with | [_, _, _, _], _ => rfl)⟩
theorem sc__law_stand_behind : FnScope ["_law_standing", "_law_rows", "_law_last", "_law_at", "_law_row"] ["_law_standing", "_law_rows"] (defScope s__law_stand_behind) := ⟨rfl, rfl, rfl, by decide +kernel, rfl, by decide +kernel, by decide +kernel⟩
theorem fd__law_stand_behind {F : Fx} {base : Heap} (D__law_history : FnD F base 1 "_law_history" false true r__law_history) (m_len : F.mg "len" = none) (m_range : F.mg "range" = none) (m_tuple : F.mg "tuple" = none) {a : Addr} {fd : FuncData} (FF : Fun F.K "_law_stand_behind" "_law_stand_behind" s__law_stand_behind a fd) (hm : F.mg "_law_stand_behind" = some (.ref a)) : FnD F base 2 "_law_stand_behind" false false r__law_stand_behind :=
  ⟨a, fd, ["_law_standing", "_law_rows"], Fun.fnV (N := ["_law_standing", "_law_rows", "_law_last", "_law_at", "_law_row"]) FF sc__law_stand_behind rfl rfl (fun h => nomatch h) (fun _ _ _ _ _ _ C => ex__law_stand_behind D__law_history m_len m_range m_tuple C), hm, FF.kp, FF.binds (fun _ _ _ _ _ _ us hl => match us, hl with | [_, _], _ => rfl)⟩
theorem sc__law_ring : FnScope ["_law_choir", "_law_standing", "_law_known", "_law_rows", "_law_here"] ["_law_choir", "_law_standing"] (defScope s__law_ring) := ⟨rfl, rfl, rfl, by decide +kernel, rfl, by decide +kernel, by decide +kernel⟩
theorem fd__law_ring {F : Fx} {base : Heap} (m_len : F.mg "len" = none) (D__law_sung : FnD F base 4 "_law_sung" false false r__law_sung) (D__law_stand_behind : FnD F base 2 "_law_stand_behind" false false r__law_stand_behind) {a : Addr} {fd : FuncData} (FF : Fun F.K "_law_ring" "_law_ring" s__law_ring a fd) (hm : F.mg "_law_ring" = some (.ref a)) : FnD F base 5 "_law_ring" false false r__law_ring :=
  ⟨a, fd, ["_law_choir", "_law_standing"], Fun.fnV (N := ["_law_choir", "_law_standing", "_law_known", "_law_rows", "_law_here"]) FF sc__law_ring rfl rfl (fun h => nomatch h) (fun _ _ _ _ _ _ C => ex__law_ring m_len D__law_sung D__law_stand_behind C), hm, FF.kp, FF.binds (fun _ _ _ _ _ _ us hl => match us, hl with | [_, _], _ => rfl)⟩
theorem sc_law : FnScope ["_law_script", "_law_dice", "_law_choir", "_law_crew_here", "_law_name", "_law_ago", "_law_parrot", "_law_standing", "_law_first", "_law_long", "_law_rows", "_law_ring_here", "_law_one", "_law_two", "_law_other", "_law_due", "_law_late", "_law_ahead", "_law_lines"] ["_law_script"] (defScope s_law) := ⟨rfl, rfl, rfl, by decide +kernel, rfl, by decide +kernel, by decide +kernel⟩
theorem fd_law {F : Fx} {base : Heap} (D__law_any_choir : FnD F base 4 "_law_any_choir" true false r__law_any_choir) (D__law_crew : FnD F base 1 "_law_crew" false false r__law_crew) (D__law_roll : FnD F base 2 "_law_roll" true false r__law_roll) (m_len : F.mg "len" = none) (m_list : F.mg "list" = none) (m_range : F.mg "range" = none) (m_tuple : F.mg "tuple" = none) (D__law_any_standing : FnD F base 3 "_law_any_standing" true false r__law_any_standing) (D__law_ring : FnD F base 5 "_law_ring" false false r__law_ring) (m_enumerate : F.mg "enumerate" = none) (D_echo : FnD F base 9 "echo" false false r_echo) (D__law_rounds : FnRd F base 2 "_law_rounds" r__law_rounds) {a : Addr} {fd : FuncData} (FF : Fun F.K "law" "law" s_law a fd) : FnOk F.P F.w F.K F.mg base (L2.CX F.P F.w) 10 a fd ["_law_script"] (spV F false r_law) :=
  Fun.fnV (N := ["_law_script", "_law_dice", "_law_choir", "_law_crew_here", "_law_name", "_law_ago", "_law_parrot", "_law_standing", "_law_first", "_law_long", "_law_rows", "_law_ring_here", "_law_one", "_law_two", "_law_other", "_law_due", "_law_late", "_law_ahead", "_law_lines"]) FF sc_law rfl rfl (fun h => nomatch h) (fun _ _ _ _ _ _ C => ex_law D__law_any_choir D__law_crew D__law_roll m_len m_list m_range m_tuple D__law_any_standing D__law_ring m_enumerate D_echo D__law_rounds C)
def fa0 : List He.Fa := [.glo "is_whole", .glo "is_word", .glo "rise", .glo "are_lines", .glo "is_ear", .glo "are_ears", .glo "places_for", .glo "is_singer", .glo "is_choir", .glo "need_choir", .glo "all_names", .glo "is_good_standing", .glo "need_standing", .glo "need_name", .glo "number_of", .glo "heard_by", .glo "place_of", .glo "table_line", .glo "all_next", .glo "behind", .glo "on", .glo "need_both", .glo "walked", .glo "lines_round", .glo "echo", .glo "_law_cell", .glo "_law_drawn", .glo "_law_roll", .glo "_law_rounds", .glo "_law_any_singers"]
def fa1 : List He.Fa := [.glo "_law_any_choir", .glo "_law_any_standing", .glo "_law_crew", .glo "_law_heard", .glo "_law_history", .glo "_law_tells", .glo "_law_sung", .glo "_law_stand_behind", .glo "_law_ring", .glo "law", .free "isinstance", .free "bool", .free "int", .free "all", .free "len", .free "str", .free "zip", .free "tuple", .free "range", .free "min", .free "max", .free "sorted", .free "list", .free "enumerate", .str "SMALL" "abcdefghijklmnopqrstuvwxyz", .int "MOST_AHEAD" 20000, .int "FARTHEST_ECHO" 20]
def fa : List He.Fa := fa0 ++ (fa1)
def d_is_whole : He.DefD := ⟨("is_whole", none), "is_whole", "is_whole", defArgs s_is_whole, defBody s_is_whole, defScope s_is_whole, [], []⟩
def d_is_word : He.DefD := ⟨("is_word", none), "is_word", "is_word", defArgs s_is_word, defBody s_is_word, defScope s_is_word, [], []⟩
def d_rise : He.DefD := ⟨("rise", none), "rise", "rise", defArgs s_rise, defBody s_rise, defScope s_rise, [], []⟩
def d_are_lines : He.DefD := ⟨("are_lines", none), "are_lines", "are_lines", defArgs s_are_lines, defBody s_are_lines, defScope s_are_lines, [], []⟩
def d_is_ear : He.DefD := ⟨("is_ear", none), "is_ear", "is_ear", defArgs s_is_ear, defBody s_is_ear, defScope s_is_ear, [], []⟩
def d_are_ears : He.DefD := ⟨("are_ears", none), "are_ears", "are_ears", defArgs s_are_ears, defBody s_are_ears, defScope s_are_ears, [], []⟩
def d_places_for : He.DefD := ⟨("places_for", none), "places_for", "places_for", defArgs s_places_for, defBody s_places_for, defScope s_places_for, [], []⟩
def d_is_singer : He.DefD := ⟨("is_singer", none), "is_singer", "is_singer", defArgs s_is_singer, defBody s_is_singer, defScope s_is_singer, [], []⟩
def d_is_choir : He.DefD := ⟨("is_choir", none), "is_choir", "is_choir", defArgs s_is_choir, defBody s_is_choir, defScope s_is_choir, [], []⟩
def d_need_choir : He.DefD := ⟨("need_choir", none), "need_choir", "need_choir", defArgs s_need_choir, defBody s_need_choir, defScope s_need_choir, [], []⟩
def d_all_names : He.DefD := ⟨("all_names", none), "all_names", "all_names", defArgs s_all_names, defBody s_all_names, defScope s_all_names, [], []⟩
def d_is_good_standing : He.DefD := ⟨("is_good_standing", none), "is_good_standing", "is_good_standing", defArgs s_is_good_standing, defBody s_is_good_standing, defScope s_is_good_standing, [], []⟩
def d_need_standing : He.DefD := ⟨("need_standing", none), "need_standing", "need_standing", defArgs s_need_standing, defBody s_need_standing, defScope s_need_standing, [], []⟩
def d_need_name : He.DefD := ⟨("need_name", none), "need_name", "need_name", defArgs s_need_name, defBody s_need_name, defScope s_need_name, [], []⟩
def d_number_of : He.DefD := ⟨("number_of", none), "number_of", "number_of", defArgs s_number_of, defBody s_number_of, defScope s_number_of, [], []⟩
def d_heard_by : He.DefD := ⟨("heard_by", none), "heard_by", "heard_by", defArgs s_heard_by, defBody s_heard_by, defScope s_heard_by, [], []⟩
def d_place_of : He.DefD := ⟨("place_of", none), "place_of", "place_of", defArgs s_place_of, defBody s_place_of, defScope s_place_of, [], []⟩
def d_table_line : He.DefD := ⟨("table_line", none), "table_line", "table_line", defArgs s_table_line, defBody s_table_line, defScope s_table_line, [], []⟩
def d_all_next : He.DefD := ⟨("all_next", none), "all_next", "all_next", defArgs s_all_next, defBody s_all_next, defScope s_all_next, [], []⟩
def d_behind : He.DefD := ⟨("behind", none), "behind", "behind", defArgs s_behind, defBody s_behind, defScope s_behind, [], []⟩
def d_on : He.DefD := ⟨("on", none), "on", "on", defArgs s_on, defBody s_on, defScope s_on, [], []⟩
def d_need_both : He.DefD := ⟨("need_both", none), "need_both", "need_both", defArgs s_need_both, defBody s_need_both, defScope s_need_both, [], []⟩
def d_walked : He.DefD := ⟨("walked", none), "walked", "walked", defArgs s_walked, defBody s_walked, defScope s_walked, [], []⟩
def d_lines_round : He.DefD := ⟨("lines_round", none), "lines_round", "lines_round", defArgs s_lines_round, defBody s_lines_round, defScope s_lines_round, [], []⟩
def d_echo : He.DefD := ⟨("echo", none), "echo", "echo", defArgs s_echo, defBody s_echo, defScope s_echo, [], []⟩
def d__law_cell : He.DefD := ⟨("_law_cell", none), "_law_cell", "_law_cell", defArgs s__law_cell, defBody s__law_cell, defScope s__law_cell, [], []⟩
def d__law_drawn : He.DefD := ⟨("_law_drawn", none), "_law_drawn", "_law_drawn", defArgs s__law_drawn, defBody s__law_drawn, defScope s__law_drawn, [], []⟩
def d__law_roll : He.DefD := ⟨("_law_roll", none), "_law_roll", "_law_roll", defArgs s__law_roll, defBody s__law_roll, defScope s__law_roll, [], []⟩
def d__law_rounds : He.DefD := ⟨("_law_rounds", none), "_law_rounds", "_law_rounds", defArgs s__law_rounds, defBody s__law_rounds, defScope s__law_rounds, [], []⟩
def d__law_any_singers : He.DefD := ⟨("_law_any_singers", none), "_law_any_singers", "_law_any_singers", defArgs s__law_any_singers, defBody s__law_any_singers, defScope s__law_any_singers, [], []⟩
def d__law_any_choir : He.DefD := ⟨("_law_any_choir", none), "_law_any_choir", "_law_any_choir", defArgs s__law_any_choir, defBody s__law_any_choir, defScope s__law_any_choir, [], []⟩
def d__law_any_standing : He.DefD := ⟨("_law_any_standing", none), "_law_any_standing", "_law_any_standing", defArgs s__law_any_standing, defBody s__law_any_standing, defScope s__law_any_standing, [], []⟩
def d__law_crew : He.DefD := ⟨("_law_crew", none), "_law_crew", "_law_crew", defArgs s__law_crew, defBody s__law_crew, defScope s__law_crew, [], []⟩
def d__law_heard : He.DefD := ⟨("_law_heard", none), "_law_heard", "_law_heard", defArgs s__law_heard, defBody s__law_heard, defScope s__law_heard, [], []⟩
def d__law_history : He.DefD := ⟨("_law_history", none), "_law_history", "_law_history", defArgs s__law_history, defBody s__law_history, defScope s__law_history, [], []⟩
def d__law_tells : He.DefD := ⟨("_law_tells", none), "_law_tells", "_law_tells", defArgs s__law_tells, defBody s__law_tells, defScope s__law_tells, [], []⟩
def d__law_sung : He.DefD := ⟨("_law_sung", none), "_law_sung", "_law_sung", defArgs s__law_sung, defBody s__law_sung, defScope s__law_sung, [], []⟩
def d__law_stand_behind : He.DefD := ⟨("_law_stand_behind", none), "_law_stand_behind", "_law_stand_behind", defArgs s__law_stand_behind, defBody s__law_stand_behind, defScope s__law_stand_behind, [], []⟩
def d__law_ring : He.DefD := ⟨("_law_ring", none), "_law_ring", "_law_ring", defArgs s__law_ring, defBody s__law_ring, defScope s__law_ring, [], []⟩
def d_law : He.DefD := ⟨("law", none), "law", "law", defArgs s_law, defBody s_law, defScope s_law, [], []⟩
def fn0 : List He.DefD := [d_is_whole, d_is_word, d_rise, d_are_lines, d_is_ear, d_are_ears, d_places_for, d_is_singer, d_is_choir, d_need_choir, d_all_names, d_is_good_standing, d_need_standing, d_need_name, d_number_of, d_heard_by, d_place_of, d_table_line, d_all_next, d_behind, d_on, d_need_both, d_walked, d_lines_round, d_echo, d__law_cell, d__law_drawn, d__law_roll, d__law_rounds, d__law_any_singers]
def fn1 : List He.DefD := [d__law_any_choir, d__law_any_standing, d__law_crew, d__law_heard, d__law_history, d__law_tells, d__law_sung, d__law_stand_behind, d__law_ring, d_law]
def fn : List He.DefD := fn0 ++ (fn1)
def lo0 : List Str := ["SongError", "BadChoir", "BadName", "BadStanding", "Full", "SMALL", "is_whole", "is_word", "rise", "are_lines", "is_ear", "are_ears", "places_for", "is_singer", "is_choir", "need_choir", "all_names", "is_good_standing", "need_standing", "need_name", "number_of", "heard_by", "place_of", "table_line", "all_next", "behind", "on", "MOST_AHEAD", "need_both", "walked"]
def lo1 : List Str := ["FARTHEST_ECHO", "lines_round", "echo", "_law_cell", "_law_drawn", "_law_roll", "_law_rounds", "_law_any_singers", "_law_any_choir", "_law_any_standing", "_law_crew", "_law_heard", "_law_history", "_law_tells", "_law_sung", "_law_stand_behind", "_law_ring"]
def lo : List Str := lo0 ++ (lo1)
abbrev RR : PySem.W.OpenRow := PySem.W.OpenLaw.row PySem.Challenge.rw_hearsong_k06_whole_echoes
abbrev hk : PySem.W.Hook := He.hookD 4 fa fn
def ob (s : PySem.W.SharedT) : He.AlD := He.obsDG 4 fa fn (HandSHeadRun.getT s)
theorem ob_eq (s : PySem.W.SharedT) : ob s = hk.obs s.abs := He.obsDG_eq (HandSHeadRun.getT_eq s)
set_option maxHeartbeats 0 in
theorem run (w : World) : HandSHeadRun.RunEq RR (PySem.W.view RR.prog [52]) hk ob 4000 lo w := by
  intro os
  kernel_rfl
theorem facts {P : Program} {w : World} {K : PySem.W.Frag} {h : Heap} {mg : Str → Option Value} {f : Addr} (X : K.In h) (G : h.Ns mainGlobals mg) (hfa : mg ("law" : Str) = some (.ref f)) (c : He.SaysD fa fn K) :
    ∃ fd : FuncData, (∀ (s : Shared) (v : Value), BindsTo s fd ⟨[v], []⟩ [("_law_script", v)]) ∧ ∀ base : Heap, FnOk P w K mg base (L2.CX P w) 10 f fd ["_law_script"] (spV ⟨P, w, K, mg, []⟩ false r_law) := by
  have m_isinstance : (Fx.mk P w K mg []).mg "isinstance" = none := He.free_ok X G (c.fact 40 (f := .free "isinstance") rfl)
  have m_bool : (Fx.mk P w K mg []).mg "bool" = none := He.free_ok X G (c.fact 41 (f := .free "bool") rfl)
  have m_int : (Fx.mk P w K mg []).mg "int" = none := He.free_ok X G (c.fact 42 (f := .free "int") rfl)
  have m_all : (Fx.mk P w K mg []).mg "all" = none := He.free_ok X G (c.fact 43 (f := .free "all") rfl)
  have m_len : (Fx.mk P w K mg []).mg "len" = none := He.free_ok X G (c.fact 44 (f := .free "len") rfl)
  have m_str : (Fx.mk P w K mg []).mg "str" = none := He.free_ok X G (c.fact 45 (f := .free "str") rfl)
  have m_zip : (Fx.mk P w K mg []).mg "zip" = none := He.free_ok X G (c.fact 46 (f := .free "zip") rfl)
  have m_tuple : (Fx.mk P w K mg []).mg "tuple" = none := He.free_ok X G (c.fact 47 (f := .free "tuple") rfl)
  have m_range : (Fx.mk P w K mg []).mg "range" = none := He.free_ok X G (c.fact 48 (f := .free "range") rfl)
  have m_min : (Fx.mk P w K mg []).mg "min" = none := He.free_ok X G (c.fact 49 (f := .free "min") rfl)
  have m_max : (Fx.mk P w K mg []).mg "max" = none := He.free_ok X G (c.fact 50 (f := .free "max") rfl)
  have m_sorted : (Fx.mk P w K mg []).mg "sorted" = none := He.free_ok X G (c.fact 51 (f := .free "sorted") rfl)
  have m_list : (Fx.mk P w K mg []).mg "list" = none := He.free_ok X G (c.fact 52 (f := .free "list") rfl)
  have m_enumerate : (Fx.mk P w K mg []).mg "enumerate" = none := He.free_ok X G (c.fact 53 (f := .free "enumerate") rfl)
  have g_SMALL : ∃ t, (Fx.mk P w K mg []).mg "SMALL" = some (.str "abcdefghijklmnopqrstuvwxyz" t) := He.str_ok X G (c.fact 54 (f := .str "SMALL" "abcdefghijklmnopqrstuvwxyz") rfl)
  have g_MOST_AHEAD : ∃ t, (Fx.mk P w K mg []).mg "MOST_AHEAD" = some (.int 20000 t) := He.int_ok X G (c.fact 55 (f := .int "MOST_AHEAD" 20000) rfl)
  have g_FARTHEST_ECHO : ∃ t, (Fx.mk P w K mg []).mg "FARTHEST_ECHO" = some (.int 20 t) := He.int_ok X G (c.fact 56 (f := .int "FARTHEST_ECHO" 20) rfl)
  obtain ⟨_, F_is_whole⟩ := c.def_ 0 (d := d_is_whole) rfl
  have D_is_whole := fun base : Heap => fd_is_whole (F := ⟨P, w, K, mg, []⟩) (base := base) m_isinstance  m_bool  m_int  (fun_of F_is_whole) (He.glo_ok X G (c.fact 0 (f := .glo "is_whole") rfl))
  obtain ⟨_, F_is_word⟩ := c.def_ 1 (d := d_is_word) rfl
  have D_is_word := fun base : Heap => fd_is_word (F := ⟨P, w, K, mg, []⟩) (base := base) g_SMALL  m_all  m_len  m_isinstance  m_str  (fun_of F_is_word) (He.glo_ok X G (c.fact 1 (f := .glo "is_word") rfl))
  obtain ⟨_, F_rise⟩ := c.def_ 2 (d := d_rise) rfl
  have D_rise := fun base : Heap => fd_rise (F := ⟨P, w, K, mg, []⟩) (base := base) m_zip  m_all  (fun_of F_rise) (He.glo_ok X G (c.fact 2 (f := .glo "rise") rfl))
  obtain ⟨_, F_are_lines⟩ := c.def_ 3 (d := d_are_lines) rfl
  have D_are_lines := fun base : Heap => fd_are_lines (F := ⟨P, w, K, mg, []⟩) (base := base) (D_is_whole base) m_all  m_len  m_isinstance  m_tuple  (fun_of F_are_lines) (He.glo_ok X G (c.fact 3 (f := .glo "are_lines") rfl))
  obtain ⟨_, F_is_ear⟩ := c.def_ 4 (d := d_is_ear) rfl
  have D_is_ear := fun base : Heap => fd_is_ear (F := ⟨P, w, K, mg, []⟩) (base := base) (D_is_whole base) (D_is_word base) m_len  m_isinstance  m_tuple  (fun_of F_is_ear) (He.glo_ok X G (c.fact 4 (f := .glo "is_ear") rfl))
  obtain ⟨_, F_are_ears⟩ := c.def_ 5 (d := d_are_ears) rfl
  have D_are_ears := fun base : Heap => fd_are_ears (F := ⟨P, w, K, mg, []⟩) (base := base) (D_rise base) (D_is_ear base) m_all  m_len  m_isinstance  m_tuple  (fun_of F_are_ears) (He.glo_ok X G (c.fact 5 (f := .glo "are_ears") rfl))
  obtain ⟨_, F_places_for⟩ := c.def_ 6 (d := d_places_for) rfl
  have D_places_for := fun base : Heap => fd_places_for (F := ⟨P, w, K, mg, []⟩) (base := base) m_len  (fun_of F_places_for) (He.glo_ok X G (c.fact 6 (f := .glo "places_for") rfl))
  obtain ⟨_, F_is_singer⟩ := c.def_ 7 (d := d_is_singer) rfl
  have D_is_singer := fun base : Heap => fd_is_singer (F := ⟨P, w, K, mg, []⟩) (base := base) (D_are_ears base) (D_is_word base) m_len  m_isinstance  m_tuple  (D_are_lines base) (D_places_for base) (fun_of F_is_singer) (He.glo_ok X G (c.fact 7 (f := .glo "is_singer") rfl))
  obtain ⟨_, F_is_choir⟩ := c.def_ 8 (d := d_is_choir) rfl
  have D_is_choir := fun base : Heap => fd_is_choir (F := ⟨P, w, K, mg, []⟩) (base := base) (D_is_whole base) m_len  m_isinstance  m_tuple  (D_rise base) (D_is_singer base) m_all  (fun_of F_is_choir) (He.glo_ok X G (c.fact 8 (f := .glo "is_choir") rfl))
  obtain ⟨_, F_need_choir⟩ := c.def_ 9 (d := d_need_choir) rfl
  have D_need_choir := fun base : Heap => fd_need_choir (F := ⟨P, w, K, mg, []⟩) (base := base) (D_is_choir base) (fun_of F_need_choir) (He.glo_ok X G (c.fact 9 (f := .glo "need_choir") rfl))
  obtain ⟨_, F_all_names⟩ := c.def_ 10 (d := d_all_names) rfl
  have D_all_names := fun base : Heap => fd_all_names (F := ⟨P, w, K, mg, []⟩) (base := base)  (fun_of F_all_names) (He.glo_ok X G (c.fact 10 (f := .glo "all_names") rfl))
  obtain ⟨_, F_is_good_standing⟩ := c.def_ 11 (d := d_is_good_standing) rfl
  have D_is_good_standing := fun base : Heap => fd_is_good_standing (F := ⟨P, w, K, mg, []⟩) (base := base) m_len  m_isinstance  m_tuple  (D_are_lines base) m_all  (fun_of F_is_good_standing) (He.glo_ok X G (c.fact 11 (f := .glo "is_good_standing") rfl))
  obtain ⟨_, F_need_standing⟩ := c.def_ 12 (d := d_need_standing) rfl
  have D_need_standing := fun base : Heap => fd_need_standing (F := ⟨P, w, K, mg, []⟩) (base := base) (D_is_good_standing base) (fun_of F_need_standing) (He.glo_ok X G (c.fact 12 (f := .glo "need_standing") rfl))
  obtain ⟨_, F_need_name⟩ := c.def_ 13 (d := d_need_name) rfl
  have D_need_name := fun base : Heap => fd_need_name (F := ⟨P, w, K, mg, []⟩) (base := base) (D_all_names base) m_isinstance  m_str  (fun_of F_need_name) (He.glo_ok X G (c.fact 13 (f := .glo "need_name") rfl))
  obtain ⟨_, F_number_of⟩ := c.def_ 14 (d := d_number_of) rfl
  have D_number_of := fun base : Heap => fd_number_of (F := ⟨P, w, K, mg, []⟩) (base := base) (D_all_names base) (fun_of F_number_of) (He.glo_ok X G (c.fact 14 (f := .glo "number_of") rfl))
  obtain ⟨_, F_heard_by⟩ := c.def_ 15 (d := d_heard_by) rfl
  have D_heard_by := fun base : Heap => fd_heard_by (F := ⟨P, w, K, mg, []⟩) (base := base) (D_number_of base) m_tuple  (fun_of F_heard_by) (He.glo_ok X G (c.fact 15 (f := .glo "heard_by") rfl))
  obtain ⟨_, F_place_of⟩ := c.def_ 16 (d := d_place_of) rfl
  have D_place_of := fun base : Heap => fd_place_of (F := ⟨P, w, K, mg, []⟩) (base := base)  (fun_of F_place_of) (He.glo_ok X G (c.fact 16 (f := .glo "place_of") rfl))
  obtain ⟨_, F_table_line⟩ := c.def_ 17 (d := d_table_line) rfl
  have D_table_line := fun base : Heap => fd_table_line (F := ⟨P, w, K, mg, []⟩) (base := base) (D_place_of base) (D_heard_by base) (fun_of F_table_line) (He.glo_ok X G (c.fact 17 (f := .glo "table_line") rfl))
  obtain ⟨_, F_all_next⟩ := c.def_ 18 (d := d_all_next) rfl
  have D_all_next := fun base : Heap => fd_all_next (F := ⟨P, w, K, mg, []⟩) (base := base) (D_table_line base) m_tuple  (fun_of F_all_next) (He.glo_ok X G (c.fact 18 (f := .glo "all_next") rfl))
  obtain ⟨_, F_behind⟩ := c.def_ 19 (d := d_behind) rfl
  have D_behind := fun base : Heap => fd_behind (F := ⟨P, w, K, mg, []⟩) (base := base) m_zip  m_tuple  (fun_of F_behind) (He.glo_ok X G (c.fact 19 (f := .glo "behind") rfl))
  obtain ⟨_, F_on⟩ := c.def_ 20 (d := d_on) rfl
  have D_on := fun base : Heap => fd_on (F := ⟨P, w, K, mg, []⟩) (base := base) (D_behind base) (D_all_next base) (fun_of F_on) (He.glo_ok X G (c.fact 20 (f := .glo "on") rfl))
  obtain ⟨_, F_need_both⟩ := c.def_ 21 (d := d_need_both) rfl
  have D_need_both := fun base : Heap => fd_need_both (F := ⟨P, w, K, mg, []⟩) (base := base) (D_need_choir base) (D_need_standing base) (fun_of F_need_both) (He.glo_ok X G (c.fact 21 (f := .glo "need_both") rfl))
  obtain ⟨_, F_walked⟩ := c.def_ 22 (d := d_walked) rfl
  have D_walked := fun base : Heap => fd_walked (F := ⟨P, w, K, mg, []⟩) (base := base) m_len  (D_on base) g_MOST_AHEAD  (fun_of F_walked) (He.glo_ok X G (c.fact 22 (f := .glo "walked") rfl))
  obtain ⟨_, F_lines_round⟩ := c.def_ 23 (d := d_lines_round) rfl
  have D_lines_round := fun base : Heap => fd_lines_round (F := ⟨P, w, K, mg, []⟩) (base := base) (D_walked base) (D_all_next base) (fun_of F_lines_round) (He.glo_ok X G (c.fact 23 (f := .glo "lines_round") rfl))
  obtain ⟨_, F_echo⟩ := c.def_ 24 (d := d_echo) rfl
  have D_echo := fun base : Heap => fd_echo (F := ⟨P, w, K, mg, []⟩) (base := base) (D_need_both base) (D_need_name base) (D_lines_round base) (D_number_of base) g_FARTHEST_ECHO  m_range  m_len  m_all  (fun_of F_echo) (He.glo_ok X G (c.fact 24 (f := .glo "echo") rfl))
  obtain ⟨_, F__law_cell⟩ := c.def_ 25 (d := d__law_cell) rfl
  have D__law_cell := fun base : Heap => fd__law_cell (F := ⟨P, w, K, mg, []⟩) (base := base) m_len  (fun_of F__law_cell) (He.glo_ok X G (c.fact 25 (f := .glo "_law_cell") rfl))
  obtain ⟨_, F__law_drawn⟩ := c.def_ 26 (d := d__law_drawn) rfl
  have D__law_drawn := fun base : Heap => fd__law_drawn (F := ⟨P, w, K, mg, []⟩) (base := base)  (fun_of F__law_drawn) (He.glo_ok X G (c.fact 26 (f := .glo "_law_drawn") rfl))
  obtain ⟨_, F__law_roll⟩ := c.def_ 27 (d := d__law_roll) rfl
  have D__law_roll := fun base : Heap => fd__law_roll (F := ⟨P, w, K, mg, []⟩) (base := base) (D__law_drawn base) (fun_of F__law_roll) (He.glo_ok X G (c.fact 27 (f := .glo "_law_roll") rfl))
  obtain ⟨_, F__law_rounds⟩ := c.def_ 28 (d := d__law_rounds) rfl
  have D__law_rounds := fun base : Heap => fd__law_rounds (F := ⟨P, w, K, mg, []⟩) (base := base) m_len  m_min  m_max  m_range  (D__law_cell base) (fun_of F__law_rounds) (He.glo_ok X G (c.fact 28 (f := .glo "_law_rounds") rfl))
  obtain ⟨_, F__law_any_singers⟩ := c.def_ 29 (d := d__law_any_singers) rfl
  have D__law_any_singers := fun base : Heap => fd__law_any_singers (F := ⟨P, w, K, mg, []⟩) (base := base) (D__law_roll base) m_range  m_len  m_tuple  m_sorted  (fun_of F__law_any_singers) (He.glo_ok X G (c.fact 29 (f := .glo "_law_any_singers") rfl))
  obtain ⟨_, F__law_any_choir⟩ := c.def_ 30 (d := d__law_any_choir) rfl
  have D__law_any_choir := fun base : Heap => fd__law_any_choir (F := ⟨P, w, K, mg, []⟩) (base := base) (D__law_roll base) (D__law_any_singers base) (fun_of F__law_any_choir) (He.glo_ok X G (c.fact 30 (f := .glo "_law_any_choir") rfl))
  obtain ⟨_, F__law_any_standing⟩ := c.def_ 31 (d := d__law_any_standing) rfl
  have D__law_any_standing := fun base : Heap => fd__law_any_standing (F := ⟨P, w, K, mg, []⟩) (base := base) m_range  (D__law_roll base) m_tuple  (fun_of F__law_any_standing) (He.glo_ok X G (c.fact 31 (f := .glo "_law_any_standing") rfl))
  obtain ⟨_, F__law_crew⟩ := c.def_ 32 (d := d__law_crew) rfl
  have D__law_crew := fun base : Heap => fd__law_crew (F := ⟨P, w, K, mg, []⟩) (base := base)  (fun_of F__law_crew) (He.glo_ok X G (c.fact 32 (f := .glo "_law_crew") rfl))
  obtain ⟨_, F__law_heard⟩ := c.def_ 33 (d := d__law_heard) rfl
  have D__law_heard := fun base : Heap => fd__law_heard (F := ⟨P, w, K, mg, []⟩) (base := base) (D__law_crew base) (fun_of F__law_heard) (He.glo_ok X G (c.fact 33 (f := .glo "_law_heard") rfl))
  obtain ⟨_, F__law_history⟩ := c.def_ 34 (d := d__law_history) rfl
  have D__law_history := fun base : Heap => fd__law_history (F := ⟨P, w, K, mg, []⟩) (base := base) m_range  m_tuple  (fun_of F__law_history) (He.glo_ok X G (c.fact 34 (f := .glo "_law_history") rfl))
  obtain ⟨_, F__law_tells⟩ := c.def_ 35 (d := d__law_tells) rfl
  have D__law_tells := fun base : Heap => fd__law_tells (F := ⟨P, w, K, mg, []⟩) (base := base) (D__law_heard base) (fun_of F__law_tells) (He.glo_ok X G (c.fact 35 (f := .glo "_law_tells") rfl))
  obtain ⟨_, F__law_sung⟩ := c.def_ 36 (d := d__law_sung) rfl
  have D__law_sung := fun base : Heap => fd__law_sung (F := ⟨P, w, K, mg, []⟩) (base := base) (D__law_history base) m_range  (D__law_tells base) m_tuple  (fun_of F__law_sung) (He.glo_ok X G (c.fact 36 (f := .glo "_law_sung") rfl))
  obtain ⟨_, F__law_stand_behind⟩ := c.def_ 37 (d := d__law_stand_behind) rfl
  have D__law_stand_behind := fun base : Heap => fd__law_stand_behind (F := ⟨P, w, K, mg, []⟩) (base := base) (D__law_history base) m_len  m_range  m_tuple  (fun_of F__law_stand_behind) (He.glo_ok X G (c.fact 37 (f := .glo "_law_stand_behind") rfl))
  obtain ⟨_, F__law_ring⟩ := c.def_ 38 (d := d__law_ring) rfl
  have D__law_ring := fun base : Heap => fd__law_ring (F := ⟨P, w, K, mg, []⟩) (base := base) m_len  (D__law_sung base) (D__law_stand_behind base) (fun_of F__law_ring) (He.glo_ok X G (c.fact 38 (f := .glo "_law_ring") rfl))
  obtain ⟨fd, FL⟩ := c.def_ 39 (d := d_law) rfl
  have e := hfa.symm.trans (He.glo_ok X G (c.fact 39 (f := .glo "law") rfl))
  cases e
  have b := FunD.bindsA (ps := ["_law_script"]) FL fun _ _ _ _ _ _ us hl => match us, hl with | [_], _ => rfl
  exact ⟨fd, fun s v => b s [v] rfl, fun base => fd_law (F := ⟨P, w, K, mg, []⟩) (base := base) (D__law_any_choir base) (D__law_crew base) (D__law_roll base) m_len  m_list  m_range  m_tuple  (D__law_any_standing base) (D__law_ring base) m_enumerate  (D_echo base) (D__law_rounds base) (fun_of FL)⟩
end Hs
open PySem PySem.W PySem.Calls PyProof.Rows
set_option maxHeartbeats 0 in
theorem PySem.Challenge.cw_hearsong_k06_whole_echoes_holds : PySem.Challenge.rw_hearsong_k06_whole_echoes.Holds := by
  w_on; o_law
  refine HandSHeadRun.head_any (r := OpenLaw.row PySem.Challenge.rw_hearsong_k06_whole_echoes) (q := view (OpenLaw.row PySem.Challenge.rw_hearsong_k06_whole_echoes).prog [52]) (H := Hs.hk) (ob := Hs.ob) (M := 4000) (loose := Hs.lo) (d := HandSHeadRun.topDef (OpenLaw.row PySem.Challenge.rw_hearsong_k06_whole_echoes).prog 52) (kwd := []) Hs.ob_eq
    (by kernel_rfl) (fun s => by kernel_rfl) Hs.run (by kernel_rfl) (by kernel_rfl) (by kernel_rfl) (by rfl) (by first | assumption | decide +kernel) (by decide +kernel) ⟨rfl, rfl, rfl, rfl, rfl, by decide +kernel⟩ ?hw ?hc
  case hw => w_witness2
  case hc =>
    refine L2.walk_ofE (l := PySem.Challenge.rw_hearsong_k06_whole_echoes) (n := 63) (k := 10) (x := "_law_script") (CX := L2.CX0) rfl (by decide) (by kernel_rfl) ⟨rfl, by decide, by decide⟩ ?F (fun _ _ _ _ z => z)
    case F =>
      intro w mg fa h Y G hmg0
      obtain ⟨K, KX, c⟩ := Y
      have hmg : mg ("law" : PySem.Str) = some (.ref fa) := by
        have e : (HandSHeadRun.topDef (OpenLaw.row PySem.Challenge.rw_hearsong_k06_whole_echoes).prog 52).name = ("law" : PySem.Str) := by kernel_rfl
        rw [← e]
        exact hmg0
      obtain ⟨fd, hb, hF⟩ := Hs.facts (P := (PySem.Challenge.rw_hearsong_k06_whole_echoes).prog) (w := w) KX G hmg c
      refine ⟨K, fd, _, KX, hb, fun H a ns hl _ hS => ?_, fun base _ _ => Hs.FnOk.noX (hF base)⟩
      obtain ⟨io, e⟩ := Hs.pure_law ns hl
      exact Hs.law_sp hS (fun p hp => by cases hp) e
